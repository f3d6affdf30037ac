import PyProof.Rows.All
import Wide.All
import OpenK.AllK
import Wide.FinOn
import KE.KSortTup
import KE.KDictList
import PyProof.AttrMissHeap
import KE.KDictOf
import KE.KPop
import KE.KEqSeq
import Lean
import PySem.Challenge.RW_rr0081_04
set_option Elab.async false
set_option genSizeOf false
section
open PySem PySem.W PyProof.Rows
set_option Elab.async false
namespace Lay
noncomputable abbrev HM := Addr → Option Obj
noncomputable abbrev RM := Nat → Option Addr
noncomputable def Le {α β : Type} (f g : α → Option β) : Prop := ∀ a o, f a = some o → g a = some o
theorem Le.refl {α β : Type} (f : α → Option β) : Le f f := fun _ _ e => e
theorem Le.trans {α β : Type} {f g h : α → Option β} (a : Le f g) (b : Le g h) : Le f h := fun x o e => b x o (a x o e)
structure Wd where
  prog : Program
  w : World
  K : Frag
  p : Program
  loose : List Str
  mg : Str → Option Value
  mb : Str → Option Value
noncomputable def Wd.Ok (W : Wd) (h : Heap) : Prop := W.K.In h ∧ TopRead W.p W.loose W.mg W.mb h
theorem Wd.Ok.keeps {W : Wd} {h h' : Heap} (x : W.Ok h) (k : Le h.get? h'.get?) : W.Ok h' := ⟨x.1.keeps k, x.2.keeps k⟩
inductive V where
  | none | bool (b : Bool) | int (i : Int) | str (s : Str)
  | tup (xs : List V) | lst (xs : List V) | dct (kvs : List (Int × V))
  | ref (n : Nat) | val (v : Value) | rng (a b c : Int)
noncomputable def V.low : V → Bool
  | .ref n => decide (n < 100)
  | _ => true
noncomputable def TupIs (o : Obj) (ys : Array Value) : Prop := o.cls = .type "tuple" ∧ ∃ n, o.data = .seq ys n
noncomputable def LstIs (o : Obj) (ys : Array Value) : Prop := ∃ n, o = ⟨.type "list", none, .seq ys n, #[]⟩
theorem LstIs.cls {o : Obj} {ys : Array Value} (h : LstIs o ys) : o.cls = .type "list" := by obtain ⟨n, rfl⟩ := h; rfl
theorem LstIs.data {o : Obj} {ys : Array Value} (h : LstIs o ys) : ∃ n, o.data = .seq ys n := by obtain ⟨n, rfl⟩ := h; exact ⟨n, rfl⟩
noncomputable abbrev dctO (es : Array DictEntry) (n : Nat) : Obj := ⟨.type "dict", none, .dict es n, #[]⟩
noncomputable def Ent (W : Wd) {K : Type} [DecidableEq K] (knd : KeyKind W.prog W.w K) (es : Array DictEntry) (kvs : List (K × Value)) : Prop :=
  KeysOf knd es ∧ Pairs knd es.toList kvs ∧ (kvs.map (·.1)).Nodup
mutual
def VR (W : Wd) (ζ : HM) (ρ : RM) : V → Value → Prop
  | .none, x => x = .none
  | .bool b, x => x = .bool b
  | .int i, x => ∃ t, x = .int i t
  | .str s, x => ∃ t, x = .str s t
  | .tup xs, x => ∃ a o ys, x = .ref a ∧ ζ a = some o ∧ TupIs o ys ∧ VRs W ζ ρ xs ys.toList
  | .lst xs, x => ∃ a o ys, x = .ref a ∧ ζ a = some o ∧ LstIs o ys ∧ VRs W ζ ρ xs ys.toList
  | .dct kvs, x => ∃ a es n kys, x = .ref a ∧ ζ a = some (dctO es n) ∧ Ent W (intKind W.prog W.w) es kys ∧ VRp W ζ ρ kvs kys
  | .ref n, x => ∃ a, ρ n = some a ∧ x = .ref a
  | .val v, x => x = v
  | .rng a b c, x => ∃ r t u w, x = .ref r ∧ ζ r = some { cls := .type "range", data := .fields #[.int a t, .int b u, .int c w] }
def VRs (W : Wd) (ζ : HM) (ρ : RM) : List V → List Value → Prop
  | [], ys => ys = []
  | x :: xs, ys => ∃ y r, ys = y :: r ∧ x.low = true ∧ VR W ζ ρ x y ∧ VRs W ζ ρ xs r
def VRp (W : Wd) (ζ : HM) (ρ : RM) : List (Int × V) → List (Int × Value) → Prop
  | [], ys => ys = []
  | (k, x) :: xs, ys => ∃ y r, ys = (k, y) :: r ∧ x.low = true ∧ VR W ζ ρ x y ∧ VRp W ζ ρ xs r
end
noncomputable def LowLe (ρ ρ' : RM) : Prop := ∀ n a, n < 100 → ρ n = some a → ρ' n = some a
theorem Le.low {ρ ρ' : RM} (h : Le ρ ρ') : LowLe ρ ρ' := fun n a _ e => h n a e
mutual
theorem VR.lowMono {W : Wd} {ζ ζ' : HM} {ρ ρ' : RM} (hz : Le ζ ζ') (hr : LowLe ρ ρ') : ∀ (v : V) (x : Value), v.low = true → VR W ζ ρ v x → VR W ζ' ρ' v x
  | .none, _, _, h => by simp only [VR] at h ⊢; exact h
  | .bool _, _, _, h => by simp only [VR] at h ⊢; exact h
  | .int _, _, _, h => by simp only [VR] at h ⊢; exact h
  | .str _, _, _, h => by simp only [VR] at h ⊢; exact h
  | .tup xs, _, _, h => by
    simp only [VR] at h ⊢
    obtain ⟨a, o, ys, e, hz', ho, hs⟩ := h
    exact ⟨a, o, ys, e, hz _ _ hz', ho, VRs.mono hz hr xs _ hs⟩
  | .lst xs, _, _, h => by
    simp only [VR] at h ⊢
    obtain ⟨a, o, ys, e, hz', ho, hs⟩ := h
    exact ⟨a, o, ys, e, hz _ _ hz', ho, VRs.mono hz hr xs _ hs⟩
  | .dct kvs, _, _, h => by
    simp only [VR] at h ⊢
    obtain ⟨a, es, n, kys, e, hz', hk, hs⟩ := h
    exact ⟨a, es, n, kys, e, hz _ _ hz', hk, VRp.mono hz hr kvs _ hs⟩
  | .ref n, _, hl, h => by
    simp only [VR] at h ⊢
    obtain ⟨a, e, hx⟩ := h
    exact ⟨a, hr _ _ (by simpa [V.low] using hl) e, hx⟩
  | .val _, _, _, h => by simp only [VR] at h ⊢; exact h
  | .rng _ _ _, _, _, h => by
    simp only [VR] at h ⊢
    obtain ⟨r, t, u, w, e, hz'⟩ := h
    exact ⟨r, t, u, w, e, hz _ _ hz'⟩
theorem VRs.mono {W : Wd} {ζ ζ' : HM} {ρ ρ' : RM} (hz : Le ζ ζ') (hr : LowLe ρ ρ') : ∀ (v : List V) (x : List Value), VRs W ζ ρ v x → VRs W ζ' ρ' v x
  | [], _, h => by simp only [VRs] at h ⊢; exact h
  | v :: vs, _, h => by
    simp only [VRs] at h ⊢
    obtain ⟨y, r, e, hl, h1, h2⟩ := h
    exact ⟨y, r, e, hl, VR.lowMono hz hr v y hl h1, VRs.mono hz hr vs r h2⟩
theorem VRp.mono {W : Wd} {ζ ζ' : HM} {ρ ρ' : RM} (hz : Le ζ ζ') (hr : LowLe ρ ρ') : ∀ (v : List (Int × V)) (x : List (Int × Value)), VRp W ζ ρ v x → VRp W ζ' ρ' v x
  | [], _, h => by simp only [VRp] at h ⊢; exact h
  | (k, v) :: vs, _, h => by
    simp only [VRp] at h ⊢
    obtain ⟨y, r, e, hl, h1, h2⟩ := h
    exact ⟨y, r, e, hl, VR.lowMono hz hr v y hl h1, VRp.mono hz hr vs r h2⟩
end
theorem VR.mono {W : Wd} {ζ ζ' : HM} {ρ ρ' : RM} (hz : Le ζ ζ') (hr : Le ρ ρ') {v : V} {x : Value} (h : VR W ζ ρ v x) : VR W ζ' ρ' v x := by
  cases v with
  | ref n => simp only [VR] at h ⊢; obtain ⟨a, e, hx⟩ := h; exact ⟨a, hr _ _ e, hx⟩
  | _ => exact VR.lowMono hz hr.low _ _ rfl h
noncomputable def VRa (W : Wd) (ζ : HM) (ρ : RM) : List V → List Value → Prop
  | [], ys => ys = []
  | x :: xs, ys => ∃ y r, ys = y :: r ∧ VR W ζ ρ x y ∧ VRa W ζ ρ xs r
theorem VRa.mono {W : Wd} {ζ ζ' : HM} {ρ ρ' : RM} (hz : Le ζ ζ') (hr : Le ρ ρ') : ∀ {v : List V} {x : List Value}, VRa W ζ ρ v x → VRa W ζ' ρ' v x
  | [], _, h => h
  | _ :: _, _, hH => by obtain ⟨y, r, e, h1, h2⟩ := hH; exact ⟨y, r, e, h1.mono hz hr, VRa.mono hz hr h2⟩
theorem VRs.toA {W : Wd} {ζ : HM} {ρ : RM} : ∀ {v : List V} {x : List Value}, VRs W ζ ρ v x → VRa W ζ ρ v x
  | [], _, h => by simp only [VRs] at h; exact h
  | _ :: _, _, h => by simp only [VRs] at h; obtain ⟨y, r, e, _, h1, h2⟩ := h; exact ⟨y, r, e, h1, h2.toA⟩
theorem VRa.toS {W : Wd} {ζ : HM} {ρ : RM} : ∀ {v : List V} {x : List Value}, VRa W ζ ρ v x → v.all V.low = true → VRs W ζ ρ v x
  | [], _, h, _ => by simp only [VRs]; exact h
  | _ :: _, _, hH, hl => by
    obtain ⟨y, r, e, h1, h2⟩ := hH
    simp only [List.all_cons, Bool.and_eq_true] at hl
    simp only [VRs]; exact ⟨y, r, e, hl.1, h1, h2.toS hl.2⟩
theorem VRs.length {W : Wd} {ζ : HM} {ρ : RM} : ∀ {v : List V} {x : List Value}, VRs W ζ ρ v x → x.length = v.length
  | [], _, h => by simp only [VRs] at h; subst h; rfl
  | _ :: _, _, h => by simp only [VRs] at h; obtain ⟨y, r, rfl, _, _, h2⟩ := h; simp [h2.length]
theorem VRa.length {W : Wd} {ζ : HM} {ρ : RM} : ∀ {v : List V} {x : List Value}, VRa W ζ ρ v x → x.length = v.length
  | [], _, h => by simp only [VRa] at h; subst h; rfl
  | _ :: _, _, hH => by obtain ⟨y, r, e, _, h2⟩ := hH; subst e; simp [h2.length]
theorem VRs.get {W : Wd} {ζ : HM} {ρ : RM} : ∀ {v : List V} {x : List Value}, VRs W ζ ρ v x → ∀ (i : Nat) (u : V), v[i]? = some u → ∃ y, x[i]? = some y ∧ u.low = true ∧ VR W ζ ρ u y
  | [], _, _, i, u, e => by simp at e
  | a :: r, _, h, i, u, e => by
    simp only [VRs] at h
    obtain ⟨y, r', rfl, hl, h1, h2⟩ := h
    cases i with
    | zero => simp at e; subst e; exact ⟨y, by simp, hl, h1⟩
    | succ i => simp at e; obtain ⟨z, hz⟩ := h2.get i u e; exact ⟨z, by simpa using hz⟩
theorem VRs.append {W : Wd} {ζ : HM} {ρ : RM} : ∀ {v v' : List V} {x x' : List Value}, VRs W ζ ρ v x → VRs W ζ ρ v' x' → VRs W ζ ρ (v ++ v') (x ++ x')
  | [], _, _, _, h, h' => by simp only [VRs] at h; subst h; exact h'
  | a :: r, _, _, _, h, h' => by
    simp only [VRs, List.cons_append] at h ⊢
    obtain ⟨y, r', rfl, hl, h1, h2⟩ := h
    exact ⟨y, _, rfl, hl, h1, h2.append h'⟩
theorem VRs.one {W : Wd} {ζ : HM} {ρ : RM} {v : V} {x : Value} (hl : v.low = true) (h : VR W ζ ρ v x) : VRs W ζ ρ [v] [x] := by
  simp only [VRs]; exact ⟨x, [], rfl, hl, h, rfl⟩
theorem VRs.snoc {W : Wd} {ζ : HM} {ρ : RM} {v : List V} {x : List Value} {u : V} {y : Value} (h : VRs W ζ ρ v x) (hl : u.low = true) (hy : VR W ζ ρ u y) : VRs W ζ ρ (v ++ [u]) (x ++ [y]) := h.append (.one hl hy)
theorem VRs.reverse {W : Wd} {ζ : HM} {ρ : RM} : ∀ {v : List V} {x : List Value}, VRs W ζ ρ v x → VRs W ζ ρ v.reverse x.reverse
  | [], _, h => by simp only [VRs] at h; subst h; simp [VRs]
  | a :: r, _, h => by
    simp only [VRs] at h
    obtain ⟨y, r', rfl, hl, h1, h2⟩ := h
    simp only [List.reverse_cons]
    exact h2.reverse.snoc hl h1
theorem VRs.take {W : Wd} {ζ : HM} {ρ : RM} : ∀ {v : List V} {x : List Value}, VRs W ζ ρ v x → ∀ n, VRs W ζ ρ (v.take n) (x.take n)
  | [], _, h, n => by simp only [VRs] at h; subst h; simp [VRs]
  | a :: r, _, h, 0 => by simp [VRs]
  | a :: r, _, h, n + 1 => by
    simp only [VRs] at h
    obtain ⟨y, r', rfl, hl, h1, h2⟩ := h
    simp only [List.take_succ_cons, VRs]
    exact ⟨y, _, rfl, hl, h1, h2.take n⟩
noncomputable def VRk {K : Type} (W : Wd) (ζ : HM) (ρ : RM) : List (K × V) → List (K × Value) → Prop
  | [], ys => ys = []
  | (k, x) :: xs, ys => ∃ y r, ys = (k, y) :: r ∧ x.low = true ∧ VR W ζ ρ x y ∧ VRk W ζ ρ xs r
theorem VRk_p {W : Wd} {ζ : HM} {ρ : RM} : ∀ {kvs : List (Int × V)} {kys : List (Int × Value)}, VRk W ζ ρ kvs kys ↔ VRp W ζ ρ kvs kys
  | [], _ => by simp only [VRk, VRp]
  | (k, v) :: r, _ => by simp only [VRk, VRp, VRk_p]
theorem VRk.mono {K : Type} {W : Wd} {ζ ζ' : HM} {ρ ρ' : RM} (hz : Le ζ ζ') (hr : LowLe ρ ρ') : ∀ {v : List (K × V)} {x : List (K × Value)}, VRk W ζ ρ v x → VRk W ζ' ρ' v x
  | [], _, h => h
  | (_, _) :: _, _, hH => by obtain ⟨y, r, e, hl, h1, h2⟩ := hH; exact ⟨y, r, e, hl, VR.lowMono hz hr _ _ hl h1, VRk.mono hz hr h2⟩
theorem VRk.keys {K : Type} {W : Wd} {ζ : HM} {ρ : RM} : ∀ {v : List (K × V)} {x : List (K × Value)}, VRk W ζ ρ v x → x.map (·.1) = v.map (·.1)
  | [], _, h => by simp only [VRk] at h; subst h; rfl
  | (_, _) :: _, _, hH => by obtain ⟨y, r, e, hl, h1, h2⟩ := hH; subst e; simp [h2.keys]
inductive O where
  | list (xs : List V)
  | idict (kvs : List (Int × V))
  | sdict (kvs : List (Str × V))
  | tdict (kvs : List (List Int × V))
  | attrs (kvs : List (Str × V))
  | inst (C : Addr) (d : Nat)
noncomputable def TKeys (W : Wd) (ζ : HM) (ρ : RM) : List (List Int × V) → List (List Int × Addr × Value) → Prop
  | [], ys => ys = []
  | (k, x) :: xs, ys => ∃ a y r ks o, ys = (k, a, y) :: r ∧ ζ a = some o ∧ TupIs o ks ∧ ItemsAre (intKind W.prog W.w) k ks.toList ∧ x.low = true ∧ VR W ζ ρ x y ∧ TKeys W ζ ρ xs r
theorem TKeys.mono {W : Wd} {ζ ζ' : HM} {ρ ρ' : RM} (hz : Le ζ ζ') (hr : LowLe ρ ρ') : ∀ {v : List (List Int × V)} {x : List (List Int × Addr × Value)}, TKeys W ζ ρ v x → TKeys W ζ' ρ' v x
  | [], _, h => h
  | (_, _) :: _, _, hH => by obtain ⟨a, y, r, ks, o, e, h0, ht, h1, hl, h2, h3⟩ := hH; exact ⟨a, y, r, ks, o, e, hz _ _ h0, ht, h1, hl, VR.lowMono hz hr _ _ hl h2, h3.mono hz hr⟩
noncomputable def kvGet {K : Type} [DecidableEq K] {α : Type} (kvs : List (K × α)) (k : K) : Option α := (kvs.find? fun kv => kv.1 = k).map (·.2)
noncomputable def kvSet {K : Type} [DecidableEq K] {α : Type} (kvs : List (K × α)) (k : K) (v : α) : List (K × α) :=
  if kvs.any (fun kv => kv.1 = k) then kvs.map (fun kv => if kv.1 = k then (kv.1, v) else kv) else kvs ++ [(k, v)]
theorem kvGet_nil {K : Type} [DecidableEq K] {α : Type} (k : K) : kvGet ([] : List (K × α)) k = none := rfl
theorem kvGet_cons {K : Type} [DecidableEq K] {α : Type} (k' : K) (v : α) (r : List (K × α)) (k : K) : kvGet ((k', v) :: r) k = if k' = k then some v else kvGet r k := by
  unfold kvGet
  by_cases h : k' = k <;> simp [h]
theorem kvGet_append {K : Type} [DecidableEq K] {α : Type} (a b : List (K × α)) (k : K) : kvGet (a ++ b) k = (kvGet a k).or (kvGet b k) := by
  unfold kvGet
  rw [List.find?_append]
  cases a.find? (fun kv => decide (kv.1 = k)) <;> simp
theorem kvGet_some_of_any {K : Type} [DecidableEq K] {α : Type} (kvs : List (K × α)) (k : K) : kvs.any (fun kv => decide (kv.1 = k)) = (kvGet kvs k).isSome := by
  induction kvs with
  | nil => rfl
  | cons p r ih =>
    obtain ⟨a, b⟩ := p
    rw [kvGet_cons, List.any_cons, ih]
    by_cases h : a = k <;> simp [h]
theorem kvGet_set {K : Type} [DecidableEq K] {α : Type} (kvs : List (K × α)) (k : K) (v : α) (x : K) : kvGet (kvSet kvs k v) x = if x = k then some v else kvGet kvs x := by
  unfold kvSet
  rw [kvGet_some_of_any]
  split
  · rename_i h
    induction kvs with
    | nil => cases h
    | cons p r ih =>
      obtain ⟨a, b⟩ := p
      rw [List.map_cons]
      by_cases q : a = k
      · simp only [q, if_true, kvGet_cons]
        by_cases q' : k = x
        · subst q'; simp
        · have q2 : ¬ x = k := fun e => q' e.symm
          simp only [q', q2, if_false]
          clear ih h
          induction r with
          | nil => rfl
          | cons p r ih =>
            obtain ⟨c, d⟩ := p
            rw [List.map_cons]
            by_cases q3 : c = k
            · simp only [q3, if_true, kvGet_cons, q', if_false]; exact ih
            · simp only [q3, if_false, kvGet_cons]
              by_cases q4 : c = x
              · simp [q4]
              · simp only [q4, if_false]; exact ih
      · simp only [q, if_false, kvGet_cons] at h ⊢
        have := ih h
        by_cases q' : a = x
        · subst q'; simp [q]
        · simp only [q', if_false]; exact this
  · rename_i h
    rw [kvGet_append, kvGet_cons, kvGet_nil]
    by_cases q : x = k
    · subst q
      have : kvGet kvs x = none := by cases e : kvGet kvs x with | none => rfl | some _ => rw [e] at h; exact absurd rfl h
      simp [this]
    · have : ¬ k = x := fun e => q e.symm
      simp [q, this]
noncomputable def AttrsAre (W : Wd) (ζ : HM) (ρ : RM) (kvs : List (Str × V)) (es : Array DictEntry) : Prop :=
  StrKeys es ∧ UniqKeys es ∧ ∀ x : Str, match kvGet kvs x with
    | .none => nsFind es x = .none
    | .some v => v.low = true ∧ ∃ y, nsFind es x = .some y ∧ VR W ζ ρ v y
noncomputable def OR (W : Wd) (ζ : HM) (ρ : RM) : O → Obj → Prop
  | .list xs, o => ∃ ys, LstIs o ys ∧ VRs W ζ ρ xs ys.toList
  | .idict kvs, o => ∃ es n kys, o = dctO es n ∧ Ent W (intKind W.prog W.w) es kys ∧ VRk W ζ ρ kvs kys
  | .sdict kvs, o => ∃ es n kys, o = dctO es n ∧ Ent W (strKind W.prog W.w) es kys ∧ VRk W ζ ρ kvs kys
  | .tdict kvs, o => ∃ es n kys, o = dctO es n ∧ es.toList = kys.map (entryOfKey (tupleKind (intKind W.prog W.w))) ∧ (kys.map (·.1)).Nodup ∧ TKeys W ζ ρ kvs kys
  | .attrs kvs, o => ∃ es n, o.data = .dict es n ∧ AttrsAre W ζ ρ kvs es
  | .inst C d, o => d < 100 ∧ ∃ dx, ρ d = some dx ∧ o = ⟨.ref C, some dx, .plain, #[]⟩
theorem AttrsAre.mono {W : Wd} {ζ ζ' : HM} {ρ ρ' : RM} (hz : Le ζ ζ') (hr : LowLe ρ ρ') {kvs : List (Str × V)} {es : Array DictEntry} (h : AttrsAre W ζ ρ kvs es) : AttrsAre W ζ' ρ' kvs es := by
  refine ⟨h.1, h.2.1, fun x => ?_⟩
  have := h.2.2 x
  split
  · rename_i e; rw [e] at this; exact this
  · rename_i v e; rw [e] at this; obtain ⟨hl, y, h1, h2⟩ := this; exact ⟨hl, y, h1, VR.lowMono hz hr _ _ hl h2⟩
theorem OR.mono {W : Wd} {ζ ζ' : HM} {ρ ρ' : RM} (hz : Le ζ ζ') (hr : LowLe ρ ρ') {O : O} {o : Obj} (h : OR W ζ ρ O o) : OR W ζ' ρ' O o := by
  cases O with
  | list xs => obtain ⟨ys, e, h1⟩ := h; exact ⟨ys, e, VRs.mono hz hr _ _ h1⟩
  | idict kvs => obtain ⟨es, n, kys, e, h1, h2⟩ := h; exact ⟨es, n, kys, e, h1, h2.mono hz hr⟩
  | sdict kvs => obtain ⟨es, n, kys, e, h1, h2⟩ := h; exact ⟨es, n, kys, e, h1, h2.mono hz hr⟩
  | tdict kvs => obtain ⟨es, n, kys, e, h1, h2, h3⟩ := h; exact ⟨es, n, kys, e, h1, h2, h3.mono hz hr⟩
  | attrs kvs => obtain ⟨es, n, e, h1⟩ := h; exact ⟨es, n, e, h1.mono hz hr⟩
  | inst C d => obtain ⟨hd, dx, e, h1⟩ := h; exact ⟨hd, dx, hr _ _ hd e, h1⟩
structure SRel (W : Wd) (h₀ ζ : HM) (ρ : RM) (σ : Nat → Option O) (h : Heap) : Prop where
  ok : W.Ok h
  kept : Le h₀ h.get?
  frozen : Le ζ h.get?
  fcls : ∀ a o, ζ a = some o → True
  slot : ∀ n O, σ n = some O → ∃ a o, ρ n = some a ∧ h.get? a = some o ∧ OR W ζ ρ O o
  dom : ∀ n, σ n = none → ρ n = none
  inj : ∀ n m a, ρ n = some a → ρ m = some a → n = m
  offz : ∀ n a, ρ n = some a → ζ a = none
  offk : ∀ n a, ρ n = some a → h₀ a = none
  good : ∀ h' : Heap, Le h₀ h'.get? → W.Ok h'
  sysr : ∀ n, ρ n ≠ some sysModules
  sysz : ζ sysModules = none
end Lay
end

section
open PySem PySem.W PyProof.Rows
set_option Elab.async false
namespace Lay
structure St where
  loc : Nat → Option V
  hp : Nat → Option O
noncomputable def M (α : Type) := St → Option (α × St)
noncomputable def M.ret {α : Type} (a : α) : M α := fun s => some (a, s)
noncomputable def M.andThen {α β : Type} (m : M α) (f : α → M β) : M β := fun s => match m s with | none => none | some (a, s') => f a s'
noncomputable instance : Monad M where
  pure := M.ret
  bind := M.andThen
noncomputable def M.fail {α : Type} : M α := fun _ => none
theorem M.bind_eq {α β : Type} (m : M α) (f : α → M β) (s : St) : (m >>= f) s = match m s with | none => none | some (a, s') => f a s' := rfl
inductive BindSome {α β : Type} (m : M α) (f : α → M β) (s : St) (r : β × St) : Prop
  | mk (a : α) (s' : St) (h1 : m s = some (a, s')) (h2 : f a s' = some r)
theorem M.bind_some {α β : Type} {m : M α} {f : α → M β} {s : St} {r : β × St} (h : (m >>= f) s = some r) : BindSome m f s r := by
  rw [M.bind_eq] at h
  cases e : m s with
  | none => rw [e] at h; cases h
  | some p => obtain ⟨a, s'⟩ := p; rw [e] at h; exact ⟨a, s', e, h⟩
noncomputable def upd {β : Type} (f : Nat → Option β) (n : Nat) (b : Option β) : Nat → Option β := fun m => if m = n then b else f m
theorem upd_same {β : Type} (f : Nat → Option β) (n : Nat) (b : Option β) : upd f n b n = b := by simp [upd]
theorem upd_ne {β : Type} (f : Nat → Option β) {n m : Nat} (b : Option β) (h : m ≠ n) : upd f n b m = f m := by simp [upd, h]
inductive Fl where
  | next | brk | cont
  | ret (v : V)
inductive Place where
  | loc (L : Addr) (x : Str)
  | cell (c : Addr)
noncomputable def Place.addr : Place → Addr
  | .loc L _ => L
  | .cell c => c
noncomputable def Place.has (h : Heap) : Place → Value → Prop
  | .loc L x, v => ∃ m, h.Ns L m ∧ m x = some v
  | .cell c, v => h.IsCell c (some v)
noncomputable def Place.ok (h : Heap) : Place → Prop
  | .loc L _ => ∃ m, h.Ns L m
  | .cell c => ∃ v, h.IsCell c v
structure Cx where
  W : Wd
  A : Around
  env : Env
  k : Nat
  B : Nat
  T : Nat
  pl : Nat → Option Place
  mid : Nat → Prop
structure Room (A : Around) (k : Nat) : Prop where
  depth : A.depth + k < recursionLimit
  units : A.units + 8 * k + 100 < cLine
  handled : A.handled = none
structure Cx.Ok (C : Cx) : Prop where
  room : Room C.A C.k
  kind : C.env.scope.kind = .function
  glob : C.env.globals = mainGlobals
  bins : C.env.builtins = builtinsNs
  bt : C.B ≤ C.T
  b100 : 100 ≤ C.B
structure Rel (C : Cx) (h₀ ζ : HM) (ρ : RM) (st : St) (h : Heap) : Prop extends SRel C.W h₀ ζ ρ st.hp h where
  fresh : ∀ n, C.T ≤ n → st.hp n = none
  mid : ∀ n, 100 ≤ n → n < C.B → st.hp n ≠ none → C.mid n
  var : ∀ i v, st.loc i = some v → ∃ pl x, C.pl i = some pl ∧ pl.has h x ∧ VR C.W ζ ρ v x
  plok : ∀ i pl, C.pl i = some pl → pl.ok h
  ploff : ∀ i pl, C.pl i = some pl → ζ pl.addr = none ∧ h₀ pl.addr = none ∧ ∀ n, ρ n ≠ some pl.addr
  plinj : ∀ i j pl, C.pl i = some pl → C.pl j = some pl → i = j
structure Gr (B : Nat) (h : Heap) (ζ : HM) (ρ : RM) (h' : Heap) (ζ' : HM) (ρ' : RM) : Prop where
  zl : Le ζ ζ'
  rl : ∀ n a, n < B → ρ n = some a → ρ' n = some a
  zn : ∀ a o, ζ' a = some o → ζ a = some o ∨ h.get? a = none
  rn : ∀ n a, ρ' n = some a → ρ n = some a ∨ h.get? a = none
  dm : ∀ a, h.get? a ≠ none → h'.get? a ≠ none
theorem Gr.refl (B : Nat) (h : Heap) (ζ : HM) (ρ : RM) : Gr B h ζ ρ h ζ ρ := ⟨Le.refl _, fun _ _ _ e => e, fun _ _ e => .inl e, fun _ _ e => .inl e, fun _ e => e⟩
theorem Gr.trans {B : Nat} {h h1 h2 : Heap} {ζ ζ1 ζ2 : HM} {ρ ρ1 ρ2 : RM} (x : Gr B h ζ ρ h1 ζ1 ρ1) (y : Gr B h1 ζ1 ρ1 h2 ζ2 ρ2) : Gr B h ζ ρ h2 ζ2 ρ2 where
  zl := x.zl.trans y.zl
  rl n a hb e := y.rl n a hb (x.rl n a hb e)
  zn a o e := (y.zn a o e).elim (x.zn a o) fun q => .inr (Classical.byContradiction fun q' => x.dm a q' q)
  rn n a e := (y.rn n a e).elim (x.rn n a) fun q => .inr (Classical.byContradiction fun q' => x.dm a q' q)
  dm a e := y.dm a (x.dm a e)
theorem Gr.weak {B B' : Nat} {h h' : Heap} {ζ ζ' : HM} {ρ ρ' : RM} (x : Gr B h ζ ρ h' ζ' ρ') (hb : B' ≤ B) : Gr B' h ζ ρ h' ζ' ρ' :=
  ⟨x.zl, fun n a hn e => x.rl n a (Nat.lt_of_lt_of_le hn hb) e, x.zn, x.rn, x.dm⟩
theorem Gr.heap {B : Nat} {h h' : Heap} {ζ : HM} {ρ : RM} (dm : ∀ a, h.get? a ≠ none → h'.get? a ≠ none) : Gr B h ζ ρ h' ζ ρ := ⟨Le.refl _, fun _ _ _ e => e, fun _ _ e => .inl e, fun _ _ e => .inl e, dm⟩
theorem Rel.rdom {C : Cx} {h₀ ζ : HM} {ρ : RM} {st : St} {h : Heap} (R : Rel C h₀ ζ ρ st h) {n : Nat} {a : Addr} (e : ρ n = some a) : n < C.T := by
  rcases Nat.lt_or_ge n C.T with q | q
  · exact q
  · have := R.dom n (R.fresh n q); rw [this] at e; cases e
theorem Gr.le {C : Cx} {h₀ ζ ζ' : HM} {ρ ρ' : RM} {st : St} {h h' : Heap} (R : Rel C h₀ ζ ρ st h) (G : Gr C.T h ζ ρ h' ζ' ρ') : Le ρ ρ' :=
  fun n a e => G.rl n a (R.rdom e) e
theorem VR.gr {C : Cx} {h₀ ζ ζ' : HM} {ρ ρ' : RM} {st : St} {h h' : Heap} (R : Rel C h₀ ζ ρ st h) (G : Gr C.T h ζ ρ h' ζ' ρ') {v : V} {x : Value} (e : VR C.W ζ ρ v x) : VR C.W ζ' ρ' v x :=
  e.mono G.zl (G.le R)
theorem VRa.gr {C : Cx} {h₀ ζ ζ' : HM} {ρ ρ' : RM} {st : St} {h h' : Heap} (R : Rel C h₀ ζ ρ st h) (G : Gr C.T h ζ ρ h' ζ' ρ') {v : List V} {x : List Value} (e : VRa C.W ζ ρ v x) : VRa C.W ζ' ρ' v x :=
  e.mono G.zl (G.le R)
noncomputable def Sim {α β : Type} (C : Cx) (B : Nat) (t : Sem β) (m : M α) (R : HM → RM → α → β → Prop) : Prop :=
  ∀ (h₀ ζ : HM) (ρ : RM) (st : St) (s : Shared) (P : β → Shared → Prop) (E : Value → Shared → Prop), C.Ok → Rel C h₀ ζ ρ st s.heap → ∀ a st', m st = some (a, st') →
    (∀ ζ' ρ' h' tk' b, Gr B s.heap ζ ρ h' ζ' ρ' → Rel C h₀ ζ' ρ' st' h' → R ζ' ρ' a b → P b { s with heap := h', toks := tk' }) → wpAny (model C.W.prog C.W.w) C.A t P E s
noncomputable abbrev SimE (C : Cx) (t : Sem Value) (m : M V) : Prop := Sim C C.T t m (VR C.W)
noncomputable abbrev SimEs (C : Cx) (t : Sem (List Value)) (m : M (List V)) : Prop := Sim C C.T t m (VRa C.W)
noncomputable abbrev SimB (C : Cx) (t : Sem Bool) (m : M Bool) : Prop := Sim C C.T t m (fun _ _ a b => a = b)
noncomputable def FR (W : Wd) (ζ : HM) (ρ : RM) : Fl → Flow → Prop
  | .next, f => f = .next
  | .brk, f => f = .brk
  | .cont, f => f = .cont
  | .ret v, f => ∃ x, f = .ret x ∧ VR W ζ ρ v x
noncomputable abbrev SimF (C : Cx) (t : Sem Flow) (m : M Fl) : Prop := Sim C C.B t m (FR C.W)
variable {C : Cx}
noncomputable def SimK {α β α' β' : Type} (C : Cx) (B : Nat) (R : HM → RM → α → β → Prop) (k : β → Sem β') (f : α → M α') (R' : HM → RM → α' → β' → Prop) : Prop :=
  ∀ (h₀ ζ : HM) (ρ : RM) (st : St) (s : Shared) (P : β' → Shared → Prop) (E : Value → Shared → Prop) (a : α) (b : β), C.Ok → Rel C h₀ ζ ρ st s.heap → R ζ ρ a b → ∀ a' st', f a st = some (a', st') →
    (∀ ζ' ρ' h' tk' b', Gr B s.heap ζ ρ h' ζ' ρ' → Rel C h₀ ζ' ρ' st' h' → R' ζ' ρ' a' b' → P b' { s with heap := h', toks := tk' }) → wpAny (model C.W.prog C.W.w) C.A (k b) P E s
theorem Sim.step {α α' β β' : Type} {B : Nat} {t : Sem β} {m : M α} {R : HM → RM → α → β → Prop} {t' : Sem β'} {k : β → Sem β'} {f : α → M α'} {R' : HM → RM → α' → β' → Prop}
    (rule : ∀ {s : Shared} {P : β' → Shared → Prop} {E : Value → Shared → Prop}, wpAny (model C.W.prog C.W.w) C.A t (fun b s₁ => wpAny (model C.W.prog C.W.w) C.A (k b) P E s₁) E s → wpAny (model C.W.prog C.W.w) C.A t' P E s)
    (h : Sim C C.T t m R) (hk : SimK C B R k f R') (hB : C.Ok → B ≤ C.T) : Sim C B t' (m >>= f) R' := by
  intro h₀ ζ ρ st s P E ok rel a' st' e kk
  obtain ⟨a, s1, e1, e2⟩ := M.bind_some e
  refine rule (h h₀ ζ ρ st s _ E ok rel a s1 e1 fun ζ1 ρ1 h1 tk1 b G1 rel1 r1 => ?_)
  exact hk h₀ ζ1 ρ1 s1 _ P E a b ok rel1 r1 a' st' e2 fun ζ2 ρ2 h2 tk2 b' G2 rel2 r2 => kk ζ2 ρ2 h2 tk2 b' ((G1.weak (hB ok)).trans G2) rel2 r2
noncomputable abbrev SimK1 (C : Cx) (k : Value → Sem Value) (f : V → M V) : Prop := SimK C C.T (VR C.W) k f (VR C.W)
noncomputable def SimK2 {α' β' : Type} (C : Cx) (k : Value → Value → Sem β') (f : V → V → M α') (R' : HM → RM → α' → β' → Prop) : Prop :=
  ∀ (h₀ ζ : HM) (ρ : RM) (st : St) (s : Shared) (P : β' → Shared → Prop) (E : Value → Shared → Prop) (a b : V) (x y : Value), C.Ok → Rel C h₀ ζ ρ st s.heap → VR C.W ζ ρ a x → VR C.W ζ ρ b y → ∀ a' st', f a b st = some (a', st') →
    (∀ ζ' ρ' h' tk' b', Gr C.T s.heap ζ ρ h' ζ' ρ' → Rel C h₀ ζ' ρ' st' h' → R' ζ' ρ' a' b' → P b' { s with heap := h', toks := tk' }) → wpAny (model C.W.prog C.W.w) C.A (k x y) P E s
noncomputable def SimK3 (C : Cx) (k : Value → Value → Value → Sem Unit) (f : V → V → V → M Unit) : Prop :=
  ∀ (h₀ ζ : HM) (ρ : RM) (st : St) (s : Shared) (P : Unit → Shared → Prop) (E : Value → Shared → Prop) (a b c : V) (x y z : Value), C.Ok → Rel C h₀ ζ ρ st s.heap → VR C.W ζ ρ a x → VR C.W ζ ρ b y → VR C.W ζ ρ c z → ∀ a' st', f a b c st = some (a', st') →
    (∀ ζ' ρ' h' tk', Gr C.T s.heap ζ ρ h' ζ' ρ' → Rel C h₀ ζ' ρ' st' h' → P () { s with heap := h', toks := tk' }) → wpAny (model C.W.prog C.W.w) C.A (k x y z) P E s
section
variable {M' : Model} {A : Around} {env : Env}
theorem Sim_UnaryOp {op : UnaryOp} {x : PySem.Expr} {pos : Pos} {m : M V} {g : V → M V} (h : SimE C (eval x C.env) m) (hg : SimK1 C (unaryOp op) g) : SimE C (eval (.UnaryOp op x pos) C.env) (m >>= g) :=
  Sim.step (fun h => wpAny_UnaryOp h) h hg fun _ => Nat.le_refl _
theorem Sim_two {α' β' : Type} {t1 t2 : Sem Value} {t : Sem β'} {m1 m2 : M V} {k : Value → Value → Sem β'} {g : V → V → M α'} {R' : HM → RM → α' → β' → Prop}
    (rule : ∀ {s : Shared} {P : β' → Shared → Prop} {E : Value → Shared → Prop}, wpAny (model C.W.prog C.W.w) C.A t1 (fun a s₁ => wpAny (model C.W.prog C.W.w) C.A t2 (fun b s₂ => wpAny (model C.W.prog C.W.w) C.A (k a b) P E s₂) E s₁) E s → wpAny (model C.W.prog C.W.w) C.A t P E s)
    (h1 : SimE C t1 m1) (h2 : SimE C t2 m2) (hg : SimK2 C k g R') : Sim C C.T t (do let a ← m1; let b ← m2; g a b) R' := by
  intro h₀ ζ ρ st s P E ok rel a' st' e kk
  obtain ⟨a, s1, e1, e⟩ := M.bind_some e
  obtain ⟨b, s2, e2, e3⟩ := M.bind_some e
  refine rule (h1 h₀ ζ ρ st s _ E ok rel a s1 e1 fun ζ1 ρ1 h1' tk1 x G1 rel1 r1 => ?_)
  refine h2 h₀ ζ1 ρ1 s1 _ _ E ok rel1 b s2 e2 fun ζ2 ρ2 h2' tk2 y G2 rel2 r2 => ?_
  exact hg h₀ ζ2 ρ2 s2 _ P E a b x y ok rel2 (VR.gr rel1 G2 r1) r2 a' st' e3 fun ζ3 ρ3 h3 tk3 z G3 rel3 r3 => kk ζ3 ρ3 h3 tk3 z ((G1.trans G2).trans G3) rel3 r3
theorem Sim_BinOp {l r : PySem.Expr} {op : Operator} {pos : Pos} {m1 m2 : M V} {g : V → V → M V} (h1 : SimE C (eval l C.env) m1) (h2 : SimE C (eval r C.env) m2) (hg : SimK2 C (binaryOp op) g (VR C.W)) :
    SimE C (eval (.BinOp l op r pos) C.env) (do let a ← m1; let b ← m2; g a b) := Sim_two (fun h => wpAny_BinOp h) h1 h2 hg
theorem Sim_Compare {l r : PySem.Expr} {op : CmpOp} {pos : Pos} {m1 m2 : M V} {g : V → V → M V} (h1 : SimE C (eval l C.env) m1) (h2 : SimE C (eval r C.env) m2) (hg : SimK2 C (compareOp op) g (VR C.W)) (hm : behindInMarks op r = false := by with_unfolding_all rfl) :
    SimE C (eval (.Compare l [op] [r] pos) C.env) (do let a ← m1; let b ← m2; g a b) := Sim_two (fun h => wpAny_Compare1 h hm) h1 h2 hg
end
theorem Sim_Const_int {i : Int} {k : Nat} {pos : Pos} : SimE C (eval (.Constant (.int i) k pos) C.env) (pure (.int i)) := by
  intro h₀ ζ ρ st s P E ok rel a st' e kk
  cases e
  exact wpAny_Constant_int (kk ζ ρ s.heap _ _ (Gr.refl _ _ _ _) rel (by simp only [VR]; exact ⟨_, rfl⟩))
theorem Sim_Const_str {i : Str} {k : Nat} {pos : Pos} : SimE C (eval (.Constant (.str i) k pos) C.env) (pure (.str i)) := by
  intro h₀ ζ ρ st s P E ok rel a st' e kk
  cases e
  exact wpAny_Constant_str (kk ζ ρ s.heap _ _ (Gr.refl _ _ _ _) rel (by simp only [VR]; exact ⟨_, rfl⟩))
theorem Sim_Const_bool {i : Bool} {k : Nat} {pos : Pos} : SimE C (eval (.Constant (.bool i) k pos) C.env) (pure (.bool i)) := by
  intro h₀ ζ ρ st s P E ok rel a st' e kk
  cases e
  exact wpAny_Constant_bool (kk ζ ρ s.heap _ _ (Gr.refl _ _ _ _) rel (by simp only [VR]))
theorem Sim_Const_none {k : Nat} {pos : Pos} : SimE C (eval (.Constant .none k pos) C.env) (pure .none) := by
  intro h₀ ζ ρ st s P E ok rel a st' e kk
  cases e
  exact wpAny_Constant_none (kk ζ ρ s.heap _ _ (Gr.refl _ _ _ _) rel (by simp only [VR]))
noncomputable def M.getL (i : Nat) : M V := fun s => match s.loc i with | some v => some (v, s) | none => none
noncomputable def M.setL (i : Nat) (v : V) : M Unit := fun s => some ((), { s with loc := upd s.loc i (some v) })
theorem Sim_loadLocal {x : Str} {i : Nat} (hk : C.env.kindOf x = some .local) (hp : C.pl i = some (.loc C.env.locals x)) : SimE C (loadName C.env x) (M.getL i) := by
  intro h₀ ζ ρ st s P E ok rel a st' e kk
  unfold M.getL at e
  split at e
  · rename_i v hv
    cases e
    obtain ⟨pl, y, h1, h2, h3⟩ := rel.var i a hv
    rw [hp] at h1; cases h1
    obtain ⟨m, hn, hm⟩ := h2
    exact wpAny_loadName_local ok.kind hk hn hm (kk ζ ρ s.heap s.toks _ (Gr.refl _ _ _ _) rel h3)
  · cases e
theorem Sim_loadCell {x : Str} {i : Nat} {c : Addr} (hk : C.env.kindOf x = some .cell) (hc : C.env.cells.lookup x = some c) (hp : C.pl i = some (.cell c)) : SimE C (loadName C.env x) (M.getL i) := by
  intro h₀ ζ ρ st s P E ok rel a st' e kk
  unfold M.getL at e
  split at e
  · rename_i v hv
    cases e
    obtain ⟨pl, y, h1, h2, h3⟩ := rel.var i a hv
    rw [hp] at h1; cases h1
    exact wpAny_loadName_cell ok.kind hk hc h2 (kk ζ ρ s.heap s.toks _ (Gr.refl _ _ _ _) rel h3)
  · cases e
theorem Sim_Name {x : Str} {pos : Pos} {m : M V} (h : SimE C (loadName C.env x) m) (hd : (x == ("__debug__" : Str)) = false := by decide) : SimE C (eval (.Name x pos) C.env) m := by
  intro h₀ ζ ρ st s P E ok rel a st' e kk
  exact wpAny_Name (h h₀ ζ ρ st s P E ok rel a st' e kk) hd
theorem Sim_Global {x : Str} {pos : Pos} {v : Value} (e : nsIn C.W.K mainGlobals x = some (some v)) (hx : C.env.kindOf x = some .globalImplicit) (hd : (x == ("__debug__" : Str)) = false := by decide) : SimE C (eval (.Name x pos) C.env) (pure (.val v)) := by
  intro h₀ ζ ρ st s P E ok rel a st' e' kk
  cases e'
  exact Calls.Name_function_global ok.kind hx (Calls.loadGlobal_global (by rw [ok.glob]; exact rel.ok.2.g) (mg_of rel.ok.1 rel.ok.2.g e) (kk ζ ρ s.heap s.toks _ (Gr.refl _ _ _ _) rel (by simp only [VR]))) hd
theorem Sim_Builtin {x : Str} {pos : Pos} {v : Value} (e : nsIn C.W.K mainGlobals x = some none) (hv : bootBuiltins x = some v) (hn : x ≠ "__name__") (hx : C.env.kindOf x = some .globalImplicit) (hd : (x == ("__debug__" : Str)) = false := by decide) : SimE C (eval (.Name x pos) C.env) (pure (.val v)) := by
  intro h₀ ζ ρ st s P E ok rel a st' e' kk
  cases e'
  exact Calls.Name_function_global ok.kind hx (Calls.loadGlobal_builtin (by rw [ok.glob]; exact rel.ok.2.g) (mg_none_of rel.ok.1 rel.ok.2.g e) (by rw [ok.bins]; exact rel.ok.2.b) ((rel.ok.2.builtins x hn).trans hv) (kk ζ ρ s.heap s.toks _ (Gr.refl _ _ _ _) rel (by simp only [VR]))) hd
end Lay
end

section
open PySem PySem.W PyProof.Rows
set_option Elab.async false
namespace Lay
variable {C : Cx}
theorem get_size (h : Heap) : h.get? h.objs.size = none := by
  cases e : h.get? h.objs.size with
  | none => rfl
  | some o => exact absurd (Heap.lt_size e) (Nat.lt_irrefl _)
theorem Place.has.has_keeps {h h' : Heap} {pl : Place} {v : Value} (x : pl.has h v) (k : ∀ o, h.get? pl.addr = some o → h'.get? pl.addr = some o) : pl.has h' v := by
  cases pl with
  | loc L y => obtain ⟨m, hn, hm⟩ := x; exact ⟨m, hn.at' fun o e => k o e, hm⟩
  | cell c => obtain ⟨o, ho, hd⟩ := x; exact ⟨o, k o ho, hd⟩
theorem Place.ok.ok_keeps {h h' : Heap} {pl : Place} (x : pl.ok h) (k : ∀ o, h.get? pl.addr = some o → h'.get? pl.addr = some o) : pl.ok h' := by
  cases pl with
  | loc L y => obtain ⟨m, hn⟩ := x; exact ⟨m, hn.at' fun o e => k o e⟩
  | cell c => obtain ⟨v, o, ho, hd⟩ := x; exact ⟨v, o, k o ho, hd⟩
theorem Place.ok.ok_some {h : Heap} {pl : Place} (x : pl.ok h) : h.get? pl.addr ≠ none := by
  cases pl with
  | loc L y => obtain ⟨m, o, es, ep, ho, _⟩ := x; show h.get? L ≠ none; rw [ho]; exact nofun
  | cell c => obtain ⟨v, o, ho, hd⟩ := x; show h.get? c ≠ none; rw [ho]; exact nofun
theorem SRel.off {W : Wd} {h₀ ζ : HM} {ρ : RM} {σ : Nat → Option O} {h h' : Heap} (S : SRel W h₀ ζ ρ σ h) (X : Addr → Prop) (hX : ∀ b o, ¬ X b → h.get? b = some o → h'.get? b = some o)
    (hz : ∀ b, X b → ζ b = none ∧ h₀ b = none ∧ ∀ n, ρ n ≠ some b) : SRel W h₀ ζ ρ σ h' where
  ok := S.good _ fun a o e => hX a o (fun x => by rw [(hz a x).2.1] at e; cases e) (S.kept a o e)
  kept := fun a o e => hX a o (fun x => by rw [(hz a x).2.1] at e; cases e) (S.kept a o e)
  frozen := fun a o e => hX a o (fun x => by rw [(hz a x).1] at e; cases e) (S.frozen a o e)
  fcls := S.fcls
  slot := fun n O e => by
    obtain ⟨a, o, h1, h2, h3⟩ := S.slot n O e
    exact ⟨a, o, h1, hX a o (fun x => (hz a x).2.2 n h1) h2, h3⟩
  dom := S.dom
  inj := S.inj
  offz := S.offz
  offk := S.offk
  good := S.good
  sysr := S.sysr
  sysz := S.sysz
theorem Rel.off {h₀ ζ : HM} {ρ : RM} {st : St} {h h' : Heap} (R : Rel C h₀ ζ ρ st h) (X : Addr → Prop) (hX : ∀ b o, ¬ X b → h.get? b = some o → h'.get? b = some o)
    (hz : ∀ b, X b → ζ b = none ∧ h₀ b = none ∧ ∀ n, ρ n ≠ some b) (hp : ∀ i pl, C.pl i = some pl → ¬ X pl.addr) : Rel C h₀ ζ ρ st h' where
  toSRel := R.toSRel.off X hX hz
  fresh := R.fresh
  mid := R.mid
  var := fun i v e => by
    obtain ⟨pl, x, h1, h2, h3⟩ := R.var i v e
    exact ⟨pl, x, h1, h2.has_keeps fun o e => hX _ o (hp i pl h1) e, h3⟩
  plok := fun i pl e => (R.plok i pl e).ok_keeps fun o e' => hX _ o (hp i pl e) e'
  ploff := R.ploff
  plinj := R.plinj
theorem Rel.newOff {h₀ ζ : HM} {ρ : RM} {st : St} {h : Heap} (R : Rel C h₀ ζ ρ st h) {a : Addr} (ha : h.get? a = none) : (ζ a = none ∧ h₀ a = none ∧ ∀ n, ρ n ≠ some a) ∧ ∀ i pl, C.pl i = some pl → pl.addr ≠ a := by
  refine ⟨⟨?_, ?_, ?_⟩, ?_⟩
  · cases e : ζ a with
    | none => rfl
    | some o => rw [R.frozen a o e] at ha; cases ha
  · cases e : h₀ a with
    | none => rfl
    | some o => rw [R.kept a o e] at ha; cases ha
  · intro n e
    cases e' : st.hp n with
    | none => rw [R.dom n e'] at e; cases e
    | some O =>
      obtain ⟨b, o, h1, h2, _⟩ := R.slot n O e'
      rw [e] at h1; cases h1; rw [ha] at h2; cases h2
  · intro i pl e q
    exact (R.plok i pl e).ok_some (q ▸ ha)
theorem Rel.size_sys {h₀ ζ : HM} {ρ : RM} {st : St} {h : Heap} (R : Rel C h₀ ζ ρ st h) : h.objs.size ≠ sysModules := by
  have : mainGlobals < h.objs.size := R.ok.2.g.lt
  intro e
  rw [e] at this
  exact absurd this (by decide)
theorem push_keeps (h : Heap) (o : Obj) : Le h.get? (h.push o).get? := fun _ _ e => Heap.get?_push_of_some o e
theorem Rel.push {h₀ ζ : HM} {ρ : RM} {st : St} {h : Heap} (R : Rel C h₀ ζ ρ st h) (o : Obj) : Rel C h₀ ζ ρ st (h.push o) :=
  R.off (fun _ => False) (fun b o' _ e => push_keeps h o b o' e) (fun _ x => x.elim) (fun _ _ _ x => x)
theorem Gr.push {B : Nat} {ζ : HM} {ρ : RM} (h : Heap) (o : Obj) : Gr B h ζ ρ (h.push o) ζ ρ := Gr.heap fun a e => by
  cases q : h.get? a with
  | none => exact absurd q e
  | some o' => rw [push_keeps h o a o' q]; exact nofun
theorem upd_le {β : Type} {f : Nat → Option β} {n : Nat} {b : β} (h : f n = none) : Le f (upd f n (some b)) := fun m c e => by
  by_cases q : m = n
  · subst q; rw [h] at e; cases e
  · rw [upd_ne _ _ q]; exact e
theorem Rel.pushZ {h₀ ζ : HM} {ρ : RM} {st : St} {h : Heap} (R : Rel C h₀ ζ ρ st h) (o : Obj) (hf : o.isFreed = false) :
    Rel C h₀ (upd ζ h.objs.size (some o)) ρ st (h.push o) ∧ Gr C.T h ζ ρ (h.push o) (upd ζ h.objs.size (some o)) ρ := by
  obtain ⟨⟨hz, hk, hr⟩, hp⟩ := R.newOff (get_size h)
  have R' := R.push o
  have le : Le ζ (upd ζ h.objs.size (some o)) := upd_le hz
  refine ⟨⟨⟨R'.ok, R'.kept, fun a o' e => ?_, fun a o' e => ?_, fun n O e => ?_, R'.dom, R'.inj, fun n a e => ?_, R'.offk, R'.good, R'.sysr, by rw [upd_ne _ _ (Ne.symm R.size_sys)]; exact R.sysz⟩, R'.fresh, R'.mid, fun i v e => ?_, R'.plok, fun i pl e => ⟨?_, (R.ploff i pl e).2⟩, R'.plinj⟩, ⟨le, fun _ _ _ e => e, fun a o' e => ?_, fun n a e => .inl e, (Gr.push (B := 0) (ζ := ζ) (ρ := ρ) h o).dm⟩⟩
  · by_cases q : a = h.objs.size
    · subst q; rw [upd_same] at e; cases e; exact Heap.get?_push_size h hf
    · rw [upd_ne _ _ q] at e; exact R'.frozen a o' e
  · trivial
  · obtain ⟨a, o', h1, h2, h3⟩ := R'.slot n O e
    exact ⟨a, o', h1, h2, h3.mono le fun _ _ _ e => e⟩
  · have : a ≠ h.objs.size := fun q => hr n (q ▸ e)
    rw [upd_ne _ _ this]; exact R.offz n a e
  · obtain ⟨pl, x, h1, h2, h3⟩ := R'.var i v e
    exact ⟨pl, x, h1, h2, h3.mono le (Le.refl _)⟩
  · rw [upd_ne _ _ (hp i pl e)]; exact (R.ploff i pl e).1
  · by_cases q : a = h.objs.size
    · subst q; exact .inr (get_size h)
    · rw [upd_ne _ _ q] at e; exact .inl e
theorem Rel.pushS {h₀ ζ : HM} {ρ : RM} {st : St} {h : Heap} (R : Rel C h₀ ζ ρ st h) (n : Nat) (hn : st.hp n = none) (hT : n < C.T) (hB : n < 100 ∨ C.B ≤ n) (O : O) (o : Obj) (hf : o.isFreed = false)
    (ho : OR C.W ζ (upd ρ n (some h.objs.size)) O o) :
    Rel C h₀ ζ (upd ρ n (some h.objs.size)) { st with hp := upd st.hp n (some O) } (h.push o) ∧ Gr C.T h ζ ρ (h.push o) ζ (upd ρ n (some h.objs.size)) := by
  obtain ⟨⟨hz, hk, hr⟩, hp⟩ := R.newOff (get_size h)
  have R' := R.push o
  have le : Le ρ (upd ρ n (some h.objs.size)) := upd_le (R.dom n hn)
  refine ⟨⟨⟨R'.ok, R'.kept, R'.frozen, R'.fcls, fun m O' e => ?_, fun m e => ?_, fun m m' a e e' => ?_, fun m a e => ?_, fun m a e => ?_, R'.good, fun m e => ?_, R'.sysz⟩, fun m hm => ?_, fun m h1 h2 h3 => ?_, fun i v e => ?_, R'.plok, fun i pl e => ⟨(R.ploff i pl e).1, (R.ploff i pl e).2.1, fun m q => ?_⟩, R'.plinj⟩,
    ⟨Le.refl _, fun m a _ e => le m a e, fun a o' e => .inl e, fun m a e => ?_, (Gr.push (B := 0) (ζ := ζ) (ρ := ρ) h o).dm⟩⟩
  · by_cases q : m = n
    · subst q; simp only [upd_same] at e; cases e
      exact ⟨_, o, upd_same _ _ _, Heap.get?_push_size h hf, ho⟩
    · simp only [upd_ne _ _ q] at e
      obtain ⟨a, o', h1, h2, h3⟩ := R'.slot m O' e
      exact ⟨a, o', le _ _ h1, h2, h3.mono (Le.refl _) le.low⟩
  · by_cases q : m = n
    · subst q; simp only [upd_same] at e; cases e
    · simp only [upd_ne _ _ q] at e; rw [upd_ne _ _ q]; exact R.dom m e
  · by_cases q : m = n
    · by_cases q' : m' = n
      · rw [q, q']
      · rw [q, upd_same] at e; cases e; rw [upd_ne _ _ q'] at e'; exact absurd e' (hr m')
    · by_cases q' : m' = n
      · rw [q', upd_same] at e'; cases e'; rw [upd_ne _ _ q] at e; exact absurd e (hr m)
      · rw [upd_ne _ _ q] at e; rw [upd_ne _ _ q'] at e'; exact R.inj m m' a e e'
  · by_cases q : m = n
    · subst q; rw [upd_same] at e; cases e; exact hz
    · rw [upd_ne _ _ q] at e; exact R.offz m a e
  · by_cases q : m = n
    · subst q; rw [upd_same] at e; cases e; exact hk
    · rw [upd_ne _ _ q] at e; exact R.offk m a e
  · by_cases q : m = n
    · subst q; rw [upd_same] at e; exact R.size_sys (Option.some.inj e)
    · rw [upd_ne _ _ q] at e; exact R.sysr m e
  · have : m ≠ n := by intro q; subst q; exact absurd hT (Nat.not_lt.mpr hm)
    show upd st.hp n (some O) m = none
    rw [upd_ne _ _ this]; exact R.fresh m hm
  · have : m ≠ n := by intro q; subst q; (first | lia | omega)
    exact R.mid m h1 h2 (fun q => h3 (by show upd st.hp n (some O) m = none; rw [upd_ne _ _ this]; exact q))
  · obtain ⟨pl, x, h1, h2, h3⟩ := R'.var i v e
    exact ⟨pl, x, h1, h2, h3.mono (Le.refl _) le⟩
  · by_cases q' : m = n
    · subst q'; rw [upd_same] at q; exact hp i pl e (Option.some.inj q).symm
    · rw [upd_ne _ _ q'] at q; exact (R.ploff i pl e).2.2 m q
  · by_cases q : m = n
    · subst q; rw [upd_same] at e; cases e; exact .inr (get_size h)
    · rw [upd_ne _ _ q] at e; exact .inl e
theorem Rel.set {h₀ ζ : HM} {ρ : RM} {st : St} {h h' : Heap} (R : Rel C h₀ ζ ρ st h) {n : Nat} {a : Addr} (hn : ρ n = some a) (hs : Heap.SameBut a h h') {O : O} {o : Obj} (ho : h'.get? a = some o) (hO : OR C.W ζ ρ O o) :
    Rel C h₀ ζ ρ { st with hp := upd st.hp n (some O) } h' ∧ Gr C.T h ζ ρ h' ζ ρ := by
  have keep : ∀ b o, b ≠ a → h.get? b = some o → h'.get? b = some o := fun b o q e => (hs.2 b q).trans e
  have hz := R.offz n a hn
  have hk := R.offk n a hn
  have hp : ∀ i pl, C.pl i = some pl → pl.addr ≠ a := fun i pl e q => (R.ploff i pl e).2.2 n (q ▸ hn)
  refine ⟨⟨⟨R.good _ fun b o e => keep b o (fun q => by rw [q, hk] at e; cases e) (R.kept b o e), fun b o e => keep b o (fun q => by rw [q, hk] at e; cases e) (R.kept b o e),
      fun b o e => keep b o (fun q => by rw [q, hz] at e; cases e) (R.frozen b o e), R.fcls, fun m O' e => ?_, fun m e => ?_, R.inj, R.offz, R.offk, R.good, R.sysr, R.sysz⟩, fun m hm => ?_, fun m h1 h2 h3 => ?_, fun i v e => ?_, fun i pl e => ?_, R.ploff, R.plinj⟩, Gr.heap fun b q => ?_⟩
  · by_cases q : m = n
    · subst q; simp only [upd_same] at e; cases e
      exact ⟨a, o, hn, ho, hO⟩
    · simp only [upd_ne _ _ q] at e
      obtain ⟨b, o', h1, h2, h3⟩ := R.slot m O' e
      exact ⟨b, o', h1, keep b o' (fun q' => q (R.inj m n a (q' ▸ h1) hn)) h2, h3⟩
  · by_cases q : m = n
    · subst q; simp only [upd_same] at e; cases e
    · simp only [upd_ne _ _ q] at e; exact R.dom m e
  · have : m ≠ n := by intro q; subst q; exact absurd (R.rdom hn) (Nat.not_lt.mpr hm)
    show upd st.hp n (some O) m = none
    rw [upd_ne _ _ this]; exact R.fresh m hm
  · refine R.mid m h1 h2 (fun q => ?_)
    by_cases q' : m = n
    · subst q'; rw [R.dom m q] at hn; cases hn
    · exact h3 (by show upd st.hp n (some O) m = none; rw [upd_ne _ _ q']; exact q)
  · obtain ⟨pl, x, h1, h2, h3⟩ := R.var i v e
    exact ⟨pl, x, h1, h2.has_keeps fun o e' => keep _ o (hp i pl h1) e', h3⟩
  · exact (R.plok i pl e).ok_keeps fun o e' => keep _ o (hp i pl e) e'
  · by_cases q' : b = a
    · subst q'; rw [ho]; exact nofun
    · rw [hs.2 b q']; exact q
theorem Rel.store {h₀ ζ : HM} {ρ : RM} {st : St} {h h' : Heap} (R : Rel C h₀ ζ ρ st h) {i : Nat} {pl : Place} (hi : C.pl i = some pl) (hs : Heap.SameBut pl.addr h h')
    {v : V} {x : Value} (hv : VR C.W ζ ρ v x)
    (hn : match pl with | .loc L y => ∃ m, h.Ns L m ∧ h'.Ns L (fun z => if z = y then some x else m z) | .cell c => (∃ v, h.IsCell c v) ∧ h'.IsCell c (some x)) :
    Rel C h₀ ζ ρ { st with loc := upd st.loc i (some v) } h' ∧ Gr C.T h ζ ρ h' ζ ρ := by
  obtain ⟨hz, hk, hr⟩ := R.ploff i pl hi
  have keep : ∀ b o, b ≠ pl.addr → h.get? b = some o → h'.get? b = some o := fun b o q e => (hs.2 b q).trans e
  have S := R.toSRel.off (· = pl.addr) (fun b o q e => keep b o q e) (fun b q => q ▸ ⟨hz, hk, hr⟩)
  have hok : ∀ j pl', C.pl j = some pl' → pl'.ok h' := fun j pl' e => by
    by_cases q : pl'.addr = pl.addr
    · have := R.plok j pl' e
      cases pl with
      | loc L y =>
        obtain ⟨m, h1, h2⟩ := hn
        cases pl' with
        | loc L' y' => cases (show L' = L from q); exact ⟨_, h2⟩
        | cell c =>
          cases (show c = L from q)
          obtain ⟨v', o, ho, hd⟩ := this
          obtain ⟨o', es, ep, ho', hd', _⟩ := h1
          rw [ho] at ho'; cases ho'; rw [hd] at hd'; cases hd'
      | cell c =>
        obtain ⟨⟨v0, h1⟩, h2⟩ := hn
        cases pl' with
        | loc L' y' =>
          cases (show L' = c from q)
          obtain ⟨m, o', es, ep, ho', hd', _⟩ := this
          obtain ⟨o, ho, hd⟩ := h1
          rw [ho] at ho'; cases ho'; rw [hd] at hd'; cases hd'
        | cell c' => cases (show c' = c from q); exact ⟨_, h2⟩
    · exact (R.plok j pl' e).ok_keeps fun o e' => keep _ o q e'
  refine ⟨⟨S, R.fresh, R.mid, fun j u e => ?_, hok, R.ploff, R.plinj⟩, Gr.heap fun b q => ?_⟩
  · by_cases q : j = i
    · subst q
      simp only [upd_same] at e; cases e
      refine ⟨pl, x, hi, ?_, hv⟩
      cases pl with
      | loc L y => obtain ⟨m, _, h2⟩ := hn; exact ⟨_, h2, by simp⟩
      | cell c => exact hn.2
    · simp only [upd_ne _ _ q] at e
      obtain ⟨pl', y, h1, h2, h3⟩ := R.var j u e
      refine ⟨pl', y, h1, ?_, h3⟩
      have hne : pl' ≠ pl := fun q' => q (R.plinj j i pl (q' ▸ h1) hi)
      by_cases q' : pl'.addr = pl.addr
      · have hok' := R.plok j pl' h1
        cases pl with
        | loc L z =>
          obtain ⟨m, m1, m2⟩ := hn
          cases pl' with
          | loc L' z' =>
            cases (show L' = L from q')
            obtain ⟨m', n1, n2⟩ := h2
            have : z' ≠ z := fun q => hne (by rw [q])
            refine ⟨_, m2, ?_⟩
            simp only [if_neg this]
            obtain ⟨o, es, ep, ho, hd, _, hf⟩ := m1
            obtain ⟨o', es', ep', ho', hd', _, hf'⟩ := n1
            rw [ho] at ho'; cases ho'; rw [hd] at hd'; cases hd'
            rw [← hf, hf']; exact n2
          | cell c =>
            cases (show c = L from q')
            obtain ⟨v', o, ho, hd⟩ := hok'
            obtain ⟨o', es, ep, ho', hd', _⟩ := m1
            rw [ho] at ho'; cases ho'; rw [hd] at hd'; cases hd'
        | cell c =>
          obtain ⟨⟨v0, m1⟩, m2⟩ := hn
          cases pl' with
          | loc L' z' =>
            cases (show L' = c from q')
            obtain ⟨m, o', es, ep, ho', hd', _⟩ := hok'
            obtain ⟨o, ho, hd⟩ := m1
            rw [ho] at ho'; cases ho'; rw [hd] at hd'; cases hd'
          | cell c' => exact absurd (by rw [show c' = c from q']) hne
      · exact h2.has_keeps fun o e' => keep _ o q' e'
  · by_cases q' : b = pl.addr
    · subst q'; exact (hok i pl hi).ok_some
    · rw [hs.2 b q']; exact q
end Lay
end

section
open PySem PySem.W PyProof.Rows
set_option Elab.async false
namespace Lay
variable {C : Cx}
noncomputable def M.seq (m1 m2 : M Fl) : M Fl := do
  let f ← m1
  match f with
  | .next => m2
  | f => pure f
theorem Sim_nil : SimF C (execs [] C.env) (pure .next) := by
  intro h₀ ζ ρ st s P E ok rel a st' e k
  cases e
  exact wpAny_execs_nil (k ζ ρ s.heap s.toks _ (Gr.refl _ _ _ _) rel rfl)
theorem Sim_cons {x : Stmt} {rest : List Stmt} {m1 m2 : M Fl} (h1 : SimF C (exec x C.env) m1) (h2 : SimF C (execs rest C.env) m2) : SimF C (execs (x :: rest) C.env) (M.seq m1 m2) := by
  intro h₀ ζ ρ st s P E ok rel a st' e k
  obtain ⟨f, s1, e1, e2⟩ := M.bind_some e
  refine wpAny_execs_cons (h1 h₀ ζ ρ st s _ E ok rel f s1 e1 fun ζ1 ρ1 h1' tk1 b G1 rel1 r1 => ?_)
  cases f with
  | next =>
    cases r1
    exact h2 h₀ ζ1 ρ1 s1 _ P E ok rel1 a st' e2 fun ζ2 ρ2 h2' tk2 b2 G2 rel2 r2 => k ζ2 ρ2 h2' tk2 b2 (G1.trans G2) rel2 r2
  | brk => cases r1; cases e2; exact k ζ1 ρ1 h1' tk1 _ G1 rel1 rfl
  | cont => cases r1; cases e2; exact k ζ1 ρ1 h1' tk1 _ G1 rel1 rfl
  | ret v => obtain ⟨x, rfl, hx⟩ := r1; cases e2; exact k ζ1 ρ1 h1' tk1 _ G1 rel1 ⟨x, rfl, hx⟩
theorem Sim_storeLocal {x : Str} {i : Nat} (hk : C.env.kindOf x = some .local) (hp : C.pl i = some (.loc C.env.locals x)) :
    SimK C C.T (VR C.W) (fun y => storeName C.env x y) (fun v => M.setL i v) (fun _ _ _ _ => True) := by
  intro h₀ ζ ρ st s P E v y ok rel hv a st' e k
  cases e
  obtain ⟨m, hn⟩ := rel.plok i _ hp
  refine wpAny_storeName_local hk hn (fun h' hn' hs => ?_) (by rw [ok.kind]; rfl)
  obtain ⟨R', G'⟩ := rel.store hp hs hv ⟨m, hn, hn'⟩
  exact k ζ ρ h' _ _ G' R' trivial
theorem Sim_storeCell {x : Str} {i : Nat} {c : Addr} (hk : C.env.kindOf x = some .cell) (hc : C.env.cells.lookup x = some c) (hp : C.pl i = some (.cell c)) :
    SimK C C.T (VR C.W) (fun y => storeName C.env x y) (fun v => M.setL i v) (fun _ _ _ _ => True) := by
  intro h₀ ζ ρ st s P E v y ok rel hv a st' e k
  cases e
  obtain ⟨v0, hn⟩ := rel.plok i _ hp
  refine wpAny_storeName_cell ok.kind hk hc hn (fun h' hn' hs => ?_)
  obtain ⟨R', G'⟩ := rel.store hp hs hv ⟨⟨v0, hn⟩, hn'⟩
  exact k ζ ρ h' _ _ G' R' trivial
noncomputable abbrev SimSt (C : Cx) (x : Str) (i : Nat) : Prop := SimK C C.T (VR C.W) (fun y => storeName C.env x y) (fun v => M.setL i v) (fun _ _ _ _ => True)
theorem Sim_Assign {x : Str} {i : Nat} {pos' pos : Pos} {value : PySem.Expr} {m : M V} (h : SimE C (eval value C.env) m) (hst : SimSt C x i) (hs : swapsWith value (some (.Name x pos')) pos.line C.env = pure false := by rfl) :
    SimF C (exec (.Assign [.Name x pos'] value pos) C.env) (do let v ← m; M.setL i v; pure .next) := by
  intro h₀ ζ ρ st s P E ok rel a st' e k
  obtain ⟨v, s1, e1, e2⟩ := M.bind_some e
  obtain ⟨u, s2, e3, e4⟩ := M.bind_some e2
  cases e4
  refine wpAny_Assign_Name (h h₀ ζ ρ st s _ E ok rel v _ e1 fun ζ1 ρ1 h1 tk1 y G1 rel1 r1 => ?_) hs
  exact hst h₀ ζ1 ρ1 s1 _ _ E v y ok rel1 r1 () _ e3 fun ζ2 ρ2 h2 tk2 _ G2 rel2 _ => k ζ2 ρ2 h2 tk2 _ ((G1.trans G2).weak ok.bt) rel2 rfl
theorem Sim_Return {e : PySem.Expr} {pos : Pos} {m : M V} (h : SimE C (eval e C.env) m) : SimF C (exec (.Return (some e) pos) C.env) (do let v ← m; pure (.ret v)) := by
  intro h₀ ζ ρ st s P E ok rel a st' e k
  obtain ⟨v, s1, e1, e2⟩ := M.bind_some e
  cases e2
  exact wpAny_Return_some (h h₀ ζ ρ st s _ E ok rel v _ e1 fun ζ1 ρ1 h1 tk1 y G1 rel1 r1 => k ζ1 ρ1 h1 tk1 _ (G1.weak ok.bt) rel1 ⟨y, rfl, r1⟩)
theorem Sim_Expr {e : PySem.Expr} {pos : Pos} {m : M V} (h : SimE C (eval e C.env) m) (hi : interactive C.env = false := by rfl) (hs : swapsWith e none pos.line C.env = pure false := by rfl) : SimF C (exec (.Expr e pos) C.env) (do let _ ← m; pure .next) := by
  intro h₀ ζ ρ st s P E ok rel a st' e k
  obtain ⟨v, s1, e1, e2⟩ := M.bind_some e
  cases e2
  exact wpAny_Expr_any (h h₀ ζ ρ st s _ E ok rel v _ e1 fun ζ1 ρ1 h1 tk1 y G1 rel1 r1 => k ζ1 ρ1 h1 tk1 _ (G1.weak ok.bt) rel1 rfl) hi hs
theorem Sim_If {test : PySem.Expr} {body orelse : List Stmt} {pos : Pos} {mt : M Bool} {m1 m2 : M Fl} (ht : SimB C (isTrue test C.env (eval test C.env)) mt) (h1 : SimF C (execs body C.env) m1) (h2 : SimF C (execs orelse C.env) m2) :
    SimF C (exec (.If test body orelse pos) C.env) (do let b ← mt; if b then m1 else m2) := by
  intro h₀ ζ ρ st s P E ok rel a st' e k
  obtain ⟨b, s1, e1, e2⟩ := M.bind_some e
  refine wpAny_If (ht h₀ ζ ρ st s _ E ok rel b _ e1 fun ζ1 ρ1 h1' tk1 y G1 rel1 r1 => ?_)
  cases r1
  cases b with
  | true => exact h1 h₀ ζ1 ρ1 s1 _ P E ok rel1 a st' e2 fun ζ2 ρ2 h2' tk2 b2 G2 rel2 r2 => k ζ2 ρ2 h2' tk2 b2 ((G1.weak ok.bt).trans G2) rel2 r2
  | false => exact h2 h₀ ζ1 ρ1 s1 _ P E ok rel1 a st' e2 fun ζ2 ρ2 h2' tk2 b2 G2 rel2 r2 => k ζ2 ρ2 h2' tk2 b2 ((G1.weak ok.bt).trans G2) rel2 r2
theorem Sim_IfExp {test body orelse : PySem.Expr} {pos : Pos} {mt : M Bool} {m1 m2 : M V} (ht : SimB C (isTrue test C.env (eval test C.env)) mt) (h1 : SimE C (eval body C.env) m1) (h2 : SimE C (eval orelse C.env) m2) :
    SimE C (eval (.IfExp test body orelse pos) C.env) (do let b ← mt; if b then m1 else m2) := by
  intro h₀ ζ ρ st s P E ok rel a st' e k
  obtain ⟨b, s1, e1, e2⟩ := M.bind_some e
  refine wpAny_IfExp (ht h₀ ζ ρ st s _ E ok rel b _ e1 fun ζ1 ρ1 h1' tk1 y G1 rel1 r1 => ?_)
  cases r1
  cases b with
  | true => exact h1 h₀ ζ1 ρ1 s1 _ P E ok rel1 a st' e2 fun ζ2 ρ2 h2' tk2 b2 G2 rel2 r2 => k ζ2 ρ2 h2' tk2 b2 (G1.trans G2) rel2 r2
  | false => exact h2 h₀ ζ1 ρ1 s1 _ P E ok rel1 a st' e2 fun ζ2 ρ2 h2' tk2 b2 G2 rel2 r2 => k ζ2 ρ2 h2' tk2 b2 (G1.trans G2) rel2 r2
noncomputable def asBool : V → M Bool
  | .bool b => pure b
  | _ => M.fail
theorem Sim_truth {e : PySem.Expr} {m : M V} (h : SimE C (eval e C.env) m) (he : ∀ whole, isTrue e C.env whole = (do let v ← whole; standAt e.pos; holding [v] (truthy v)) := by intro _; rfl) : SimB C (isTrue e C.env (eval e C.env)) (do let v ← m; asBool v) := by
  intro h₀ ζ ρ st s P E ok rel a st' e' k
  obtain ⟨v, s1, e1, e2⟩ := M.bind_some e'
  refine wpAny_isTrue_value (h h₀ ζ ρ st s _ E ok rel v _ e1 fun ζ1 ρ1 h1' tk1 y G1 rel1 r1 => ?_) (he _)
  cases v with
  | bool b => simp only [VR] at r1; subst r1; cases e2; exact wpAny_truthy_bool (k ζ1 ρ1 h1' tk1 _ G1 rel1 rfl)
  | _ => cases e2
theorem Sim_testCompare {l r : PySem.Expr} {op : CmpOp} {pos : Pos} {whole : Sem Value} {m1 m2 : M V} {g : V → V → M V} (h1 : SimE C (eval l C.env) m1) (h2 : SimE C (eval r C.env) m2) (hg : SimK2 C (compareOp op) g (VR C.W)) (hm : behindInMarks op r = false := by with_unfolding_all rfl) :
    SimB C (isTrue (.Compare l [op] [r] pos) C.env whole) (do let a ← m1; let b ← m2; let c ← g a b; asBool c) := by
  intro h₀ ζ ρ st s P E ok rel a' st' e kk
  obtain ⟨a, s1, e1, e⟩ := M.bind_some e
  obtain ⟨b, s2, e2, e⟩ := M.bind_some e
  obtain ⟨c, s3, e3, e4⟩ := M.bind_some e
  refine wpAny_isTrue_Compare1 (h1 h₀ ζ ρ st s _ E ok rel a s1 e1 fun ζ1 ρ1 h1' tk1 x G1 rel1 r1 => ?_) hm
  refine h2 h₀ ζ1 ρ1 s1 _ _ E ok rel1 b s2 e2 fun ζ2 ρ2 h2' tk2 y G2 rel2 r2 => ?_
  refine hg h₀ ζ2 ρ2 s2 _ _ E a b x y ok rel2 (VR.gr rel1 G2 r1) r2 c s3 e3 fun ζ3 ρ3 h3 tk3 z G3 rel3 r3 => ?_
  cases c with
  | bool b => simp only [VR] at r3; subst r3; cases e4; exact wpAny_truthy_bool (kk ζ3 ρ3 h3 tk3 _ ((G1.trans G2).trans G3) rel3 rfl)
  | _ => cases e4
theorem Sim_testNot {x : PySem.Expr} {pos : Pos} {whole : Sem Value} {m : M Bool} (h : SimB C (isTrue x C.env (eval x C.env)) m) : SimB C (isTrue (.UnaryOp .Not x pos) C.env whole) (do let b ← m; pure (!b)) := by
  intro h₀ ζ ρ st s P E ok rel a st' e k
  obtain ⟨b, s1, e1, e2⟩ := M.bind_some e
  cases e2
  exact wpAny_isTrue_Not (h h₀ ζ ρ st s _ E ok rel b _ e1 fun ζ1 ρ1 h1' tk1 y G1 rel1 r1 => by cases r1; exact k ζ1 ρ1 h1' tk1 _ G1 rel1 rfl)
theorem Sim_testBool {op : BoolOp} {values : List PySem.Expr} {pos : Pos} {whole : Sem Value} {m : M Bool} (h : SimB C (allTrue op values C.env) m) : SimB C (isTrue (.BoolOp op values pos) C.env whole) m := by
  intro h₀ ζ ρ st s P E ok rel a st' e k
  exact wpAny_isTrue_BoolOp (h h₀ ζ ρ st s P E ok rel a st' e k)
theorem Sim_andNil : SimB C (allTrue .And [] C.env) (pure true) := by
  intro h₀ ζ ρ st s P E ok rel a st' e k
  cases e; exact wpAny_allTrue_And_nil (k ζ ρ s.heap s.toks _ (Gr.refl _ _ _ _) rel rfl)
theorem Sim_orNil : SimB C (allTrue .Or [] C.env) (pure false) := by
  intro h₀ ζ ρ st s P E ok rel a st' e k
  cases e; exact wpAny_allTrue_Or_nil (k ζ ρ s.heap s.toks _ (Gr.refl _ _ _ _) rel rfl)
theorem Sim_andCons {x : PySem.Expr} {rest : List PySem.Expr} {m1 m2 : M Bool} (h1 : SimB C (isTrue x C.env (eval x C.env)) m1) (h2 : SimB C (allTrue .And rest C.env) m2) :
    SimB C (allTrue .And (x :: rest) C.env) (do let b ← m1; if b then m2 else pure false) := by
  intro h₀ ζ ρ st s P E ok rel a st' e k
  obtain ⟨b, s1, e1, e2⟩ := M.bind_some e
  refine wpAny_allTrue_And_cons (h1 h₀ ζ ρ st s _ E ok rel b _ e1 fun ζ1 ρ1 h1' tk1 y G1 rel1 r1 => ?_)
  cases r1
  cases b with
  | true => exact h2 h₀ ζ1 ρ1 s1 _ P E ok rel1 a st' e2 fun ζ2 ρ2 h2' tk2 b2 G2 rel2 r2 => k ζ2 ρ2 h2' tk2 b2 (G1.trans G2) rel2 r2
  | false => cases e2; exact k ζ1 ρ1 h1' tk1 _ G1 rel1 rfl
theorem Sim_orCons {x : PySem.Expr} {rest : List PySem.Expr} {m1 m2 : M Bool} (h1 : SimB C (isTrue x C.env (eval x C.env)) m1) (h2 : SimB C (allTrue .Or rest C.env) m2) :
    SimB C (allTrue .Or (x :: rest) C.env) (do let b ← m1; if b then pure true else m2) := by
  intro h₀ ζ ρ st s P E ok rel a st' e k
  obtain ⟨b, s1, e1, e2⟩ := M.bind_some e
  refine wpAny_allTrue_Or_cons (h1 h₀ ζ ρ st s _ E ok rel b _ e1 fun ζ1 ρ1 h1' tk1 y G1 rel1 r1 => ?_)
  cases r1
  cases b with
  | false => exact h2 h₀ ζ1 ρ1 s1 _ P E ok rel1 a st' e2 fun ζ2 ρ2 h2' tk2 b2 G2 rel2 r2 => k ζ2 ρ2 h2' tk2 b2 (G1.trans G2) rel2 r2
  | true => cases e2; exact k ζ1 ρ1 h1' tk1 _ G1 rel1 rfl
theorem Sim_argsNil {pos : Pos} : SimEs C (spliced (backTo pos (starEach [] C.env))) (pure []) := by
  intro h₀ ζ ρ st s P E ok rel a st' e k
  cases e
  exact spliced_none (k ζ ρ s.heap s.toks _ (Gr.refl _ _ _ _) rel rfl)
theorem Sim_argsCons {pos : Pos} {e : PySem.Expr} {rest : List PySem.Expr} {m1 : M V} {m2 : M (List V)} (h1 : SimE C (eval e C.env) m1) (h2 : SimEs C (spliced (backTo pos (starEach rest C.env))) m2)
    (he : starEach (e :: rest) C.env = (false, eval e C.env) :: starEach rest C.env := by rfl) :
    SimEs C (spliced (backTo pos (starEach (e :: rest) C.env))) (do let v ← m1; let vs ← m2; pure (v :: vs)) := by
  intro h₀ ζ ρ st s P E ok rel a st' e' k
  obtain ⟨v, s1, e1, e2⟩ := M.bind_some e'
  obtain ⟨vs, s2, e3, e4⟩ := M.bind_some e2
  cases e4
  refine spliced_more (h1 h₀ ζ ρ st s _ E ok rel v _ e1 fun ζ1 ρ1 h1' tk1 y G1 rel1 r1 => ?_) he
  exact h2 h₀ ζ1 ρ1 s1 _ _ E ok rel1 vs _ e3 fun ζ2 ρ2 h2' tk2 ys G2 rel2 r2 => k ζ2 ρ2 h2' tk2 _ (G1.trans G2) rel2 ⟨y, ys, rfl, VR.gr rel1 G2 r1, r2⟩
noncomputable def lim : Nat := 2 ^ 20
theorem lim_le {n : Nat} (h : n ≤ lim) : n ≤ sizeLine := Nat.le_trans h (by show (2 : Nat) ^ 20 ≤ 2 ^ 24; decide)
noncomputable def M.guard (b : Bool) : M Unit := fun s => if b then some ((), s) else none
theorem M.guard_some {b : Bool} {s : St} {r} (h : M.guard b s = some r) : b = true ∧ r = ((), s) := by
  unfold M.guard at h
  split at h
  · cases h; exact ⟨by assumption, rfl⟩
  · cases h
noncomputable def mkTup (vs : List V) : M V := do M.guard (vs.all V.low && decide (vs.length ≤ lim)); pure (.tup vs)
noncomputable def M.new (n : Nat) (O : O) : M V := fun s => match s.hp n with
  | none => some (.ref n, { s with hp := upd s.hp n (some O) })
  | some _ => none
theorem M.new_some {n : Nat} {O : O} {s : St} {r} (h : M.new n O s = some r) : s.hp n = none ∧ r = (.ref n, { s with hp := upd s.hp n (some O) }) := by
  unfold M.new at h
  split at h
  · rename_i e; cases h; exact ⟨e, rfl⟩
  · cases h
noncomputable def mkList (c : Option Nat) (vs : List V) : M V := do
  M.guard (vs.all V.low && decide (vs.length ≤ lim))
  match c with
  | none => pure (.lst vs)
  | some n => M.new n (.list vs)
noncomputable def okSlot (C : Cx) : Option Nat → Prop
  | none => True
  | some n => n < C.T ∧ (n < 100 ∨ C.B ≤ n)
theorem Sim_Tuple {elts : List PySem.Expr} {k : Nat} {pos : Pos} {m : M (List V)} (h : SimEs C (spliced (backTo pos (starEach elts C.env))) m) : SimE C (eval (.Tuple elts k pos) C.env) (do let vs ← m; mkTup vs) := by
  intro h₀ ζ ρ st s P E ok rel a st' e k
  obtain ⟨vs, s1, e1, e2⟩ := M.bind_some e
  obtain ⟨_, s2, e3, e4⟩ := M.bind_some e2
  cases e4
  obtain ⟨hg, hs⟩ := M.guard_some e3
  cases hs
  simp only [Bool.and_eq_true, decide_eq_true_eq] at hg
  refine wpAny_Tuple_spliced (h h₀ ζ ρ st s _ E ok rel vs _ e1 fun ζ1 ρ1 h1 tk1 ys G1 rel1 r1 => ⟨lim_le (r1.length ▸ hg.2), ?_⟩)
  obtain ⟨R', G'⟩ := rel1.pushZ { cls := .type "tuple", data := .seq ys.toArray } rfl
  refine k _ _ _ _ _ (G1.trans G') R' ?_
  simp only [VR]
  exact ⟨_, _, ys.toArray, rfl, upd_same _ _ _, ⟨rfl, 0, rfl⟩, by simpa using (r1.gr rel1 G').toS hg.1⟩
theorem list_made {h₀ ζ : HM} {ρ : RM} {st st' : St} {h : Heap} {c : Option Nat} {vs : List V} {ys : List Value} {o : Obj} {v : V} (rel : Rel C h₀ ζ ρ st h) (hc : okSlot C c) (e : mkList c vs st = some (v, st')) (r : VRa C.W ζ ρ vs ys)
    (ho : LstIs o ys.toArray) (hf : o.isFreed = false) : ∃ ζ' ρ', Gr C.T h ζ ρ (h.push o) ζ' ρ' ∧ Rel C h₀ ζ' ρ' st' (h.push o) ∧ VR C.W ζ' ρ' v (.ref h.objs.size) := by
  obtain ⟨_, s2, e3, e4⟩ := M.bind_some e
  obtain ⟨hg, hs⟩ := M.guard_some e3
  cases hs
  simp only [Bool.and_eq_true, decide_eq_true_eq] at hg
  cases c with
  | none =>
    cases e4
    obtain ⟨R', G'⟩ := rel.pushZ o hf
    refine ⟨_, _, G', R', ?_⟩
    simp only [VR]
    exact ⟨_, _, _, rfl, upd_same _ _ _, ho, by simpa using (r.gr rel G').toS hg.1⟩
  | some n =>
    obtain ⟨hn, h2⟩ := M.new_some e4
    cases h2
    have hle : Le ρ (upd ρ n (some h.objs.size)) := upd_le (rel.dom n hn)
    obtain ⟨R', G'⟩ := rel.pushS n hn hc.1 hc.2 (.list vs) o hf ⟨_, ho, by simpa using (r.mono (Le.refl _) hle).toS hg.1⟩
    refine ⟨_, _, G', R', ?_⟩
    simp only [VR]
    exact ⟨_, upd_same _ _ _, rfl⟩
theorem Sim_List {elts : List PySem.Expr} {pos : Pos} {m : M (List V)} (c : Option Nat) (h : SimEs C (spliced (backTo pos (starEach elts C.env))) m) (hc : okSlot C c) : SimE C (eval (.List elts pos) C.env) (do let vs ← m; mkList c vs) := by
  intro h₀ ζ ρ st s P E ok rel a st' e k
  obtain ⟨vs, s1, e1, e2⟩ := M.bind_some e
  refine wpAny_List_spliced (h h₀ ζ ρ st s _ E ok rel vs _ e1 fun ζ1 ρ1 h1 tk1 ys G1 rel1 r1 => ?_)
  have hl : vs.length ≤ lim := by
    obtain ⟨_, s2, e3, e4⟩ := M.bind_some e2
    obtain ⟨hg, _⟩ := M.guard_some e3
    simp only [Bool.and_eq_true, decide_eq_true_eq] at hg; exact hg.2
  refine ⟨lim_le (r1.length ▸ hl), ?_⟩
  obtain ⟨ζ', ρ', G', R', hv⟩ := list_made (o := { cls := .type "list", data := .seq ys.toArray }) rel1 hc e2 r1 ⟨0, rfl⟩ rfl
  exact k _ _ _ _ _ (G1.trans G') R' hv
end Lay
end

section
open PySem PySem.W PyProof.Rows
set_option Elab.async false
set_option linter.unusedVariables false
namespace Lay
variable {C : Cx}
noncomputable def onInts (g : Int → Int → M V) : V → V → M V
  | .int i, .int j => g i j
  | _, _ => M.fail
noncomputable def vInt2 (f : Int → Int → Int) : V → V → M V := onInts fun i j => pure (.int (f i j))
noncomputable def vInt2G (g : Int → Int → Bool) (f : Int → Int → Int) : V → V → M V := onInts fun i j => do M.guard (g i j); pure (.int (f i j))
noncomputable def vCmp (f : Int → Int → Bool) : V → V → M V := onInts fun i j => pure (.bool (f i j))
inductive OnInts (g : Int → Int → M V) (W : Wd) (ζ : HM) (ρ : RM) (a b : V) (x y : Value) (st : St) (r : V × St) : Prop
  | mk (i j : Int) (t u : Tok) (hx : x = .int i t) (hy : y = .int j u) (e : g i j st = some r)
theorem onInts_some {g : Int → Int → M V} {W : Wd} {ζ : HM} {ρ : RM} {a b : V} {x y : Value} {st : St} {r : V × St} (e : onInts g a b st = some r) (ra : VR W ζ ρ a x) (rb : VR W ζ ρ b y) : OnInts g W ζ ρ a b x y st r := by
  unfold onInts at e
  split at e
  · simp only [VR] at ra rb
    obtain ⟨t, rfl⟩ := ra
    obtain ⟨u, rfl⟩ := rb
    exact ⟨_, _, t, u, rfl, rfl, e⟩
  · cases e
theorem VR.ofInt {W : Wd} {ζ : HM} {ρ : RM} (i : Int) (t : Tok) : VR W ζ ρ (.int i) (.int i t) := by simp only [VR]; exact ⟨_, rfl⟩
theorem VR.ofBool {W : Wd} {ζ : HM} {ρ : RM} (i : Bool) : VR W ζ ρ (.bool i) (.bool i) := by simp only [VR]
theorem vInt2G_K {op : Operator} {g : Int → Int → Bool} {f : Int → Int → Int} (h : ∀ (A : Around) (E : Value → Shared → Prop) (s : Shared) (Q : Value → Shared → Prop) (a b : Int) (t u : Tok), g a b = true → Q (.int (f a b) s.toks) { s with toks := s.toks + 1 } → wpAny (model C.W.prog C.W.w) A (binaryOp op (.int a t) (.int b u)) Q E s) :
    SimK2 C (binaryOp op) (vInt2G g f) (VR C.W) := by
  intro h₀ ζ ρ st s P E a b x y ok rel ra rb v st' e k
  obtain ⟨i, j, t, u, rfl, rfl, e⟩ := onInts_some e ra rb
  obtain ⟨_, s2, e1, e2⟩ := M.bind_some e
  obtain ⟨hg, hs⟩ := M.guard_some e1
  cases hs; cases e2
  exact h _ _ _ _ _ _ _ _ hg (k ζ ρ s.heap _ _ (Gr.refl _ _ _ _) rel (.ofInt _ _))
theorem vInt2_K {op : Operator} {f : Int → Int → Int} (h : ∀ (A : Around) (E : Value → Shared → Prop) (s : Shared) (Q : Value → Shared → Prop) (a b : Int) (t u : Tok), Q (.int (f a b) s.toks) { s with toks := s.toks + 1 } → wpAny (model C.W.prog C.W.w) A (binaryOp op (.int a t) (.int b u)) Q E s) :
    SimK2 C (binaryOp op) (vInt2 f) (VR C.W) := by
  intro h₀ ζ ρ st s P E a b x y ok rel ra rb v st' e k
  obtain ⟨i, j, t, u, rfl, rfl, e⟩ := onInts_some e ra rb
  cases e
  exact h _ _ _ _ _ _ _ _ (k ζ ρ s.heap _ _ (Gr.refl _ _ _ _) rel (.ofInt _ _))
theorem vCmp_K {op : CmpOp} {f : Int → Int → Bool} (h : ∀ (A : Around) (E : Value → Shared → Prop) (s : Shared) (Q : Value → Shared → Prop) (a b : Int) (t u : Tok), Q (.bool (f a b)) s → wpAny (model C.W.prog C.W.w) A (compareOp op (.int a t) (.int b u)) Q E s) :
    SimK2 C (compareOp op) (vCmp f) (VR C.W) := by
  intro h₀ ζ ρ st s P E a b x y ok rel ra rb v st' e k
  obtain ⟨i, j, t, u, rfl, rfl, e⟩ := onInts_some e ra rb
  cases e
  exact h _ _ _ _ _ _ _ _ (k ζ ρ s.heap _ _ (Gr.refl _ _ _ _) rel (.ofBool _))
noncomputable def vSub := vInt2 (· - ·)
noncomputable def vMul := vInt2G (fun i j => decide (i.natAbs < 2 ^ 63) || decide (j.natAbs < 2 ^ 63)) (· * ·)
noncomputable def vFloorDiv := vInt2G (fun _ j => decide (j ≠ 0) && decide (j.natAbs < 2 ^ 63)) Int.fdiv
noncomputable def vMod := vInt2G (fun _ j => decide (j ≠ 0)) Int.fmod
noncomputable def vAnd := vInt2 Builtin.bitAnd
noncomputable def vRShift := vInt2G (fun _ j => decide (0 ≤ j)) (fun i j => i.fdiv (2 ^ j.toNat))
noncomputable def vPow := vInt2G (fun i j => decide (0 ≤ j) && decide ((Builtin.Int.intBits i : Int) * j ≤ 2 ^ 27)) (fun i j => i ^ j.toNat)
noncomputable def vLt := vCmp (fun i j => decide (i < j))
noncomputable def vGt := vCmp (fun i j => decide (j < i))
theorem bits64 {i : Int} (h : i.natAbs < 2 ^ 63) : Builtin.Int.intBits i ≤ 64 := by
  unfold Builtin.Int.intBits
  split
  · (first | lia | omega)
  · rename_i h0
    have h0 : i ≠ 0 := by simpa using h0
    have : i.natAbs.log2 < 63 := (Nat.log2_lt (by (first | lia | omega))).mpr h
    (first | lia | omega)
theorem vSub_K : SimK2 C (binaryOp .Sub) vSub (VR C.W) := vInt2_K fun _ _ _ _ _ _ _ _ h => SiftDown.sub_int h
theorem vMul_K : SimK2 C (binaryOp .Mult) vMul (VR C.W) := vInt2G_K fun _ _ _ _ a b _ _ hg h => by
  refine mul_int h ?_
  simp only [Bool.or_eq_true, decide_eq_true_eq] at hg
  rcases hg with hg | hg
  · exact IntMulOk.of_left (bits64 hg)
  · exact IntMulOk.of_right (bits64 hg)
theorem vMod_K : SimK2 C (binaryOp .Mod) vMod (VR C.W) := vInt2G_K fun _ _ _ _ a b _ _ hg h => mod_int' (of_decide_eq_true hg) h
theorem vAnd_K : SimK2 C (binaryOp .BitAnd) vAnd (VR C.W) := vInt2_K fun _ _ _ _ _ _ _ _ h => and_int h
theorem vRShift_K : SimK2 C (binaryOp .RShift) vRShift (VR C.W) := vInt2G_K fun _ _ _ _ a b _ _ hg h => rshift_int (of_decide_eq_true hg) h
theorem vPow_K : SimK2 C (binaryOp .Pow) vPow (VR C.W) := vInt2G_K fun _ _ _ _ a b _ _ hg h => by
  simp only [Bool.and_eq_true, decide_eq_true_eq] at hg
  exact pow_int hg.1 hg.2 h
theorem vLt_K : SimK2 C (compareOp .Lt) vLt (VR C.W) := vCmp_K fun _ _ _ _ _ _ _ _ h => lt_int h
theorem vGt_K : SimK2 C (compareOp .Gt) vGt (VR C.W) := vCmp_K fun _ _ _ _ _ _ _ _ h => gt_int h
noncomputable def vNeg : V → M V
  | .int i => pure (.int (-i))
  | _ => M.fail
theorem vNeg_K : SimK1 C (unaryOp .USub) vNeg := by
  intro h₀ ζ ρ st s P E a x ok rel ra v st' e k
  cases a with
  | int i =>
    simp only [VR] at ra
    obtain ⟨t, rfl⟩ := ra
    cases e
    exact neg_int (k ζ ρ s.heap _ _ (Gr.refl _ _ _ _) rel (by simp only [VR]; exact ⟨_, rfl⟩))
  | _ => cases e
mutual
def V.py : V → Option PyData
  | .none => some .none
  | .bool b => some (.bool b)
  | .int i => some (.int i)
  | .str s => some (.str s)
  | .tup xs => (V.pys xs).map .tuple
  | .lst xs => (V.pys xs).map .list
  | .dct _ => .none
  | .ref _ => .none
  | .val _ => .none
  | .rng _ _ _ => .none
def V.pys : List V → Option (List PyData)
  | [] => some []
  | x :: xs => match V.py x, V.pys xs with
    | .some d, .some ds => .some (d :: ds)
    | _, _ => .none
end
mutual
theorem py_reads {W : Wd} {ζ : HM} {ρ : RM} {h : Heap} (hz : Le ζ h.get?) : ∀ (v : V) (x : Value) (d : PyData), V.py v = some d → VR W ζ ρ v x → ∃ as, Reads h x d as
  | .none, _, _, e, r => by simp only [VR] at r; subst r; simp only [V.py] at e; cases e; exact ⟨_, .none⟩
  | .bool b, _, _, e, r => by simp only [VR] at r; subst r; simp only [V.py] at e; cases e; exact ⟨_, .bool _⟩
  | .int i, _, _, e, r => by simp only [VR] at r; obtain ⟨t, rfl⟩ := r; simp only [V.py] at e; cases e; exact ⟨_, .int _ _⟩
  | .str i, _, _, e, r => by simp only [VR] at r; obtain ⟨t, rfl⟩ := r; simp only [V.py] at e; cases e; exact ⟨_, .str _ _⟩
  | .tup xs, _, _, e, r => by
    simp only [VR] at r
    obtain ⟨a, o, ys, rfl, h1, ⟨hc, n, hd⟩, h2⟩ := r
    simp only [V.py] at e
    cases q : V.pys xs with
    | none => rw [q] at e; cases e
    | some ds =>
      rw [q] at e; cases e
      obtain ⟨as, ra⟩ := pys_reads hz xs _ ds q h2
      exact ⟨_, .tuple (hz _ _ h1) hc hd ra⟩
  | .lst xs, _, _, e, r => by
    simp only [VR] at r
    obtain ⟨a, o, ys, rfl, h1, hl, h2⟩ := r
    obtain ⟨n, hd⟩ := hl.data
    have hc := hl.cls
    simp only [V.py] at e
    cases q : V.pys xs with
    | none => rw [q] at e; cases e
    | some ds =>
      rw [q] at e; cases e
      obtain ⟨as, ra⟩ := pys_reads hz xs _ ds q h2
      exact ⟨_, .list (hz _ _ h1) hc hd ra⟩
  | .dct _, _, _, e, _ => by simp only [V.py] at e; cases e
  | .ref _, _, _, e, _ => by simp only [V.py] at e; cases e
  | .val _, _, _, e, _ => by simp only [V.py] at e; cases e
  | .rng _ _ _, _, _, e, _ => by simp only [V.py] at e; cases e
theorem pys_reads {W : Wd} {ζ : HM} {ρ : RM} {h : Heap} (hz : Le ζ h.get?) : ∀ (v : List V) (x : List Value) (d : List PyData), V.pys v = some d → VRs W ζ ρ v x → ∃ as, ReadsAll h x d as
  | [], _, _, e, r => by simp only [VRs] at r; subst r; simp only [V.pys] at e; cases e; exact ⟨_, .nil⟩
  | v :: vs, _, _, e, r => by
    simp only [VRs] at r
    obtain ⟨y, r', rfl, _, h1, h2⟩ := r
    simp only [V.pys] at e
    split at e
    · rename_i d ds q1 q2
      cases e
      obtain ⟨as, ra⟩ := py_reads hz v _ d q1 h1
      obtain ⟨bs, rb⟩ := pys_reads hz vs _ ds q2 h2
      exact ⟨_, .cons ra rb⟩
    · cases e
end
noncomputable def dataOf (v : V) (s : St) : Option PyData := match v with
  | .ref n => (match s.hp n with
    | some (.list xs) => (V.pys xs).map .list
    | _ => none)
  | v => v.py
theorem data_reads {h₀ ζ : HM} {ρ : RM} {st : St} {h : Heap} (rel : Rel C h₀ ζ ρ st h) {v : V} {x : Value} {d : PyData} (e : dataOf v st = some d) (r : VR C.W ζ ρ v x) : ∃ as, Reads h x d as := by
  have hz : Le ζ h.get? := rel.frozen
  cases v with
  | ref n =>
    unfold dataOf at e
    simp only at e
    cases q : st.hp n with
    | none => rw [q] at e; cases e
    | some O =>
      rw [q] at e
      cases O with
      | list xs =>
        simp only at e
        cases q' : V.pys xs with
        | none => rw [q'] at e; cases e
        | some ds =>
          rw [q'] at e; cases e
          obtain ⟨a, o, h1, h2, ys, hl, h3⟩ := rel.slot n _ q
          obtain ⟨n', hd⟩ := hl.data
          have hc := hl.cls
          simp only [VR] at r
          obtain ⟨a', h1', rfl⟩ := r
          rw [h1] at h1'; cases h1'
          obtain ⟨as, ra⟩ := pys_reads hz xs _ ds q' h3
          exact ⟨_, .list h2 hc hd ra⟩
      | _ => cases e
  | _ => exact py_reads hz _ _ _ e r
noncomputable def vEq (neg : Bool) (a b : V) : M V := fun s => match dataOf a s, dataOf b s with
  | some d, some e => if SeqAt.shaped d && SeqAt.shaped e then some (.bool (PyData.eqv d e ^^ neg), s) else none
  | _, _ => none
theorem vEq_K : SimK2 C (compareOp .Eq) (vEq false) (VR C.W) := by
  intro h₀ ζ ρ st s P E a b x y ok rel ra rb v st' e k
  unfold vEq at e
  split at e
  · rename_i d d' q1 q2
    split at e
    · rename_i hs
      cases e
      simp only [Bool.and_eq_true] at hs
      obtain ⟨as, r1⟩ := data_reads rel q1 ra
      obtain ⟨bs, r2⟩ := data_reads rel q2 rb
      have hu := ok.room.units
      refine SeqAt.compareEq_shaped r1 r2 hs.1 hs.2 (by (first | lia | omega)) (k ζ ρ s.heap _ _ (Gr.refl _ _ _ _) rel (by simp only [VR, Bool.xor_false]))
    · cases e
  · cases e
theorem vNe_K : SimK2 C (compareOp .NotEq) (vEq true) (VR C.W) := by
  intro h₀ ζ ρ st s P E a b x y ok rel ra rb v st' e k
  unfold vEq at e
  split at e
  · rename_i d d' q1 q2
    split at e
    · rename_i hs
      cases e
      simp only [Bool.and_eq_true] at hs
      obtain ⟨as, r1⟩ := data_reads rel q1 ra
      obtain ⟨bs, r2⟩ := data_reads rel q2 rb
      have hu := ok.room.units
      refine SeqAt.compareNe_shaped r1 r2 hs.1 hs.2 (by (first | lia | omega)) (k ζ ρ s.heap _ _ (Gr.refl _ _ _ _) rel (by simp only [VR, Bool.xor_true]))
    · cases e
  · cases e
theorem VRk.get {K : Type} [DecidableEq K] {W : Wd} {ζ : HM} {ρ : RM} : ∀ {kvs : List (K × V)} {kys : List (K × Value)}, VRk W ζ ρ kvs kys → ∀ k, match kvGet kvs k with
    | none => valueAt kys k = none
    | some v => v.low = true ∧ ∃ y, valueAt kys k = some y ∧ VR W ζ ρ v y
  | [], _, h, k => by simp only [VRk] at h; subst h; rfl
  | (k', v) :: r, _, hH, k => by
    obtain ⟨y, r', e, hl, h1, h2⟩ := hH
    subst e
    by_cases q : k' = k
    · simp only [kvGet, valueAt, List.find?_cons, q, decide_true, Option.map_some]
      exact ⟨hl, y, rfl, h1⟩
    · have := h2.get k
      simp only [kvGet, valueAt, List.find?_cons, q, decide_false] at this ⊢
      exact this
theorem VRk.some_iff {K : Type} [DecidableEq K] {W : Wd} {ζ : HM} {ρ : RM} {kvs : List (K × V)} {kys : List (K × Value)} (h : VRk W ζ ρ kvs kys) (k : K) : (valueAt kys k).isSome = (kvGet kvs k).isSome := by
  have := h.get k
  split at this
  · rename_i e; rw [e, this]; rfl
  · rename_i v e; obtain ⟨_, y, h1, _⟩ := this; rw [e, h1]; rfl
theorem VRk.any {K : Type} [DecidableEq K] {W : Wd} {ζ : HM} {ρ : RM} (k : K) : ∀ {kvs : List (K × V)} {kys : List (K × Value)}, VRk W ζ ρ kvs kys → kys.any (fun kv => decide (kv.1 = k)) = kvs.any (fun kv => decide (kv.1 = k))
  | [], _, h => by simp only [VRk] at h; subst h; rfl
  | (k', v) :: r, _, hH => by obtain ⟨y, r', e, hl, h1, h2⟩ := hH; subst e; simp only [List.any_cons, VRk.any k h2]
theorem VRk.append {K : Type} {W : Wd} {ζ : HM} {ρ : RM} : ∀ {v v' : List (K × V)} {x x' : List (K × Value)}, VRk W ζ ρ v x → VRk W ζ ρ v' x' → VRk W ζ ρ (v ++ v') (x ++ x')
  | [], _, _, _, h, h' => by simp only [VRk] at h; subst h; exact h'
  | (_, _) :: _, _, _, _, hH, h' => by obtain ⟨y, r, e, hl, h1, h2⟩ := hH; subst e; exact ⟨y, _, rfl, hl, h1, h2.append h'⟩
theorem VRk.mapSet {K : Type} [DecidableEq K] {W : Wd} {ζ : HM} {ρ : RM} (k : K) {u : V} {z : Value} (hl : u.low = true) (hu : VR W ζ ρ u z) : ∀ {kvs : List (K × V)} {kys : List (K × Value)}, VRk W ζ ρ kvs kys →
    VRk W ζ ρ (kvs.map fun kv => if kv.1 = k then (kv.1, u) else kv) (kys.map fun kv => if kv.1 = k then (kv.1, z) else kv)
  | [], _, h => by simp only [VRk] at h; subst h; simp [VRk]
  | (k', v) :: r, _, hH => by
    obtain ⟨y, r', e, hl', h1, h2⟩ := hH
    subst e
    simp only [List.map_cons]
    by_cases q : k' = k
    · simp only [q, if_true]; exact ⟨z, _, rfl, hl, hu, VRk.mapSet k hl hu h2⟩
    · simp only [q, if_false]; exact ⟨y, _, rfl, hl', h1, VRk.mapSet k hl hu h2⟩
theorem VRk.stored {K : Type} [DecidableEq K] {W : Wd} {ζ : HM} {ρ : RM} {kvs : List (K × V)} {kys : List (K × Value)} (h : VRk W ζ ρ kvs kys) (k : K) {v : V} {y : Value} (hl : v.low = true) (hv : VR W ζ ρ v y) : VRk W ζ ρ (kvSet kvs k v) (stored kys k y) := by
  unfold kvSet PySem.stored
  rw [h.any k]
  split
  · exact VRk.mapSet k hl hv h
  · exact h.append ⟨y, [], rfl, hl, hv, rfl⟩
theorem VRk.length {K : Type} {W : Wd} {ζ : HM} {ρ : RM} : ∀ {v : List (K × V)} {x : List (K × Value)}, VRk W ζ ρ v x → x.length = v.length
  | [], _, h => by simp only [VRk] at h; subst h; rfl
  | (_, _) :: _, _, hH => by obtain ⟨y, r, e, hl, h1, h2⟩ := hH; subst e; simp [h2.length]
theorem Ent.dictOf {W : Wd} {K : Type} [DecidableEq K] {knd : KeyKind W.prog W.w K} {es : Array DictEntry} {kys : List (K × Value)} {n : Nat} {h : Heap} {a : Addr} (e : Ent W knd es kys) (ho : h.get? a = some (dctO es n)) : h.DictOf knd a kys :=
  ⟨_, es, n, ho, ⟨rfl, rfl, rfl⟩, rfl, e.1, e.2.1, e.2.2⟩
theorem Ent.back {W : Wd} {K : Type} [DecidableEq K] {knd : KeyKind W.prog W.w K} {kys : List (K × Value)} {h : Heap} {a : Addr} (e : h.DictOf knd a kys) : ∃ es n, h.get? a = some (dctO es n) ∧ Ent W knd es kys := by
  obtain ⟨o, es, ep, ho, ⟨h1, h2, h3⟩, hd, hk, hp, hn⟩ := e
  refine ⟨es, ep, ?_, hk, hp, hn⟩
  obtain ⟨c, d, dt, sl⟩ := o
  simp only at h1 h2 h3 hd
  subst h1 h2 h3 hd
  exact ho
noncomputable def dView (v : V) (s : St) : Option (List (Int × V)) := match v with
  | .dct kvs => some kvs
  | .ref n => (match s.hp n with | some (.idict kvs) => some kvs | _ => none)
  | _ => none
theorem dView_at {h₀ ζ : HM} {ρ : RM} {st : St} {h : Heap} (rel : Rel C h₀ ζ ρ st h) {v : V} {x : Value} {kvs : List (Int × V)} (e : dView v st = some kvs) (r : VR C.W ζ ρ v x) :
    ∃ a kys, x = .ref a ∧ (a == sysModules) = false ∧ h.DictOf (intKind C.W.prog C.W.w) a kys ∧ VRk C.W ζ ρ kvs kys := by
  unfold dView at e
  split at e
  · cases e
    simp only [VR] at r
    obtain ⟨a, es, n, kys, rfl, h1, h2, h3⟩ := r
    refine ⟨a, kys, rfl, ?_, h2.dictOf (rel.frozen _ _ h1), VRk_p.mpr h3⟩
    rw [beq_eq_false_iff_ne]; intro q; rw [q, rel.sysz] at h1; cases h1
  · split at e
    · rename_i n _ kvs' q
      cases e
      simp only [VR] at r
      obtain ⟨a', h1', rfl⟩ := r
      obtain ⟨a, o, h1, h2, es, n', kys, rfl, h3, h4⟩ := rel.slot n _ q
      obtain rfl : a = a' := Option.some.inj (h1.symm.trans h1')
      refine ⟨a, kys, rfl, ?_, h3.dictOf h2, h4⟩
      rw [beq_eq_false_iff_ne]; intro q; exact rel.sysr n (q ▸ h1)
    · cases e
  · cases e
theorem isInt_self (i : Int) (t : Tok) {W : Wd} : (intKind W.prog W.w).is i (.int i t) = true := by simp [intKind, Value.isInt]
noncomputable def intsOf : List V → Option (List Int)
  | [] => some []
  | .int i :: r => (intsOf r).map (i :: ·)
  | _ :: _ => none
theorem ints_map (l : List Int) : intsOf (l.map V.int) = some l := by
  induction l with
  | nil => rfl
  | cons i r ih => simp [intsOf, ih]
theorem ints_are {W : Wd} {ζ : HM} {ρ : RM} : ∀ {vs : List V} {l : List Int} {ys : List Value}, intsOf vs = some l → VRs W ζ ρ vs ys → ItemsAre (intKind W.prog W.w) l ys
  | [], _, _, e, h => by cases e; simp only [VRs] at h; subst h; exact .nil
  | .int i :: r, _, _, e, h => by
    simp only [intsOf] at e
    obtain ⟨l', e', rfl⟩ := Option.map_eq_some_iff.mp e
    simp only [VRs, VR] at h
    obtain ⟨y, r', rfl, _, ⟨t, rfl⟩, h2⟩ := h
    exact .cons (isInt_self i t) (ints_are e' h2)
  | .none :: _, _, _, e, _ => by cases e
  | .bool _ :: _, _, _, e, _ => by cases e
  | .str _ :: _, _, _, e, _ => by cases e
  | .tup _ :: _, _, _, e, _ => by cases e
  | .lst _ :: _, _, _, e, _ => by cases e
  | .dct _ :: _, _, _, e, _ => by cases e
  | .ref _ :: _, _, _, e, _ => by cases e
  | .val _ :: _, _, _, e, _ => by cases e
  | .rng _ _ _ :: _, _, _, e, _ => by cases e
theorem tup_key {h₀ ζ : HM} {ρ : RM} {st : St} {h : Heap} (rel : Rel C h₀ ζ ρ st h) {vs : List V} {l : List Int} {x : Value} (e : intsOf vs = some l) (r : VR C.W ζ ρ (.tup vs) x) :
    ∃ a, x = .ref a ∧ IsTupleKey (intKind C.W.prog C.W.w) h l a ∧ ∃ o ks, ζ a = some o ∧ TupIs o ks ∧ ItemsAre (intKind C.W.prog C.W.w) l ks.toList := by
  simp only [VR] at r
  obtain ⟨a, o, ys, rfl, h1, ⟨hc, n, hd⟩, h2⟩ := r
  exact ⟨a, rfl, ⟨o, ys, n, rel.frozen _ _ h1, hc, hd, ints_are e h2⟩, o, ys, h1, ⟨hc, n, hd⟩, ints_are e h2⟩
theorem TKeys.at {h₀ ζ : HM} {ρ : RM} {st : St} {h : Heap} (rel : Rel C h₀ ζ ρ st h) : ∀ {kvs : List (List Int × V)} {kys : List (List Int × Addr × Value)}, TKeys C.W ζ ρ kvs kys → ∀ x ∈ kys, IsTupleKey (intKind C.W.prog C.W.w) h x.1 x.2.1
  | [], _, e, x, hx => by simp only [TKeys] at e; subst e; cases hx
  | (_, _) :: _, _, hH, x, hx => by
    obtain ⟨a, y, r, ks, o, e, h0, ⟨hc, n, hd⟩, h1, hl, h2, h3⟩ := hH
    subst e
    rcases List.mem_cons.mp hx with rfl | hx
    · exact ⟨o, ks, n, rel.frozen _ _ h0, hc, hd, h1⟩
    · exact h3.at rel x hx
theorem TKeys.get {W : Wd} {ζ : HM} {ρ : RM} : ∀ {kvs : List (List Int × V)} {kys : List (List Int × Addr × Value)}, TKeys W ζ ρ kvs kys → ∀ k, match kvGet kvs k with
    | none => atKey kys k = none
    | some v => v.low = true ∧ ∃ p, atKey kys k = some p ∧ VR W ζ ρ v p.2
  | [], _, h, k => by simp only [TKeys] at h; subst h; rfl
  | (k', v) :: r, _, hH, k => by
    obtain ⟨a, y, r', ks, o, e, h0, ht, h1, hl, h2, h3⟩ := hH
    subst e
    by_cases q : k' = k
    · simp only [kvGet, atKey, List.find?_cons, q, decide_true, Option.map_some]
      exact ⟨hl, _, rfl, h2⟩
    · have := h3.get k
      simp only [kvGet, atKey, List.find?_cons, q, decide_false] at this ⊢
      exact this
theorem TKeys.some_iff {W : Wd} {ζ : HM} {ρ : RM} {kvs : List (List Int × V)} {kys : List (List Int × Addr × Value)} (h : TKeys W ζ ρ kvs kys) (k : List Int) : (atKey kys k).isSome = (kvGet kvs k).isSome := by
  have := h.get k
  split at this
  · rename_i e; rw [e, this]; rfl
  · rename_i v e; obtain ⟨_, y, h1, _⟩ := this; rw [e, h1]; rfl
theorem tdict_at {h₀ ζ : HM} {ρ : RM} {st : St} {h : Heap} (rel : Rel C h₀ ζ ρ st h) {n : Nat} {kvs : List (List Int × V)} (e : st.hp n = some (.tdict kvs)) {x : Value} (r : VR C.W ζ ρ (.ref n) x) :
    ∃ a kys, x = .ref a ∧ ρ n = some a ∧ (a == sysModules) = false ∧ h.DictOfH (tupleKind (intKind C.W.prog C.W.w)) a kys ∧ TKeys C.W ζ ρ kvs kys := by
  simp only [VR] at r
  obtain ⟨a', h1', rfl⟩ := r
  obtain ⟨a, o, h1, h2, es, n', kys, rfl, h3, h4, h5⟩ := rel.slot n _ e
  obtain rfl : a = a' := Option.some.inj (h1.symm.trans h1')
  refine ⟨a, kys, rfl, h1, ?_, ⟨_, es, n', h2, ⟨rfl, rfl, rfl⟩, rfl, h3, h5.at rel, h4⟩, h5⟩
  rw [beq_eq_false_iff_ne]; intro q; exact rel.sysr n (q ▸ h1)
noncomputable def vIn (neg : Bool) (x c : V) : M V := fun s =>
  match x, dView c s with
  | .int i, some kvs => some (.bool ((kvGet kvs i).isSome ^^ neg), s)
  | x, _ => match x, (match c with | .ref n => s.hp n | _ => none) with
    | .tup vs, some (.tdict kvs) => (match intsOf vs with
      | some l => some (.bool ((kvGet kvs l).isSome ^^ neg), s)
      | none => none)
    | x, _ => match dataOf x s, dataOf c s with
      | some d, some (.list ds) => if SeqAt.shaped d && SeqAt.shaped (.list ds) then some (.bool ((ds.any fun y => PyData.eqv y d) ^^ neg), s) else none
      | some d, some (.tuple ds) => if SeqAt.shaped d && SeqAt.shaped (.tuple ds) then some (.bool ((ds.any fun y => PyData.eqv y d) ^^ neg), s) else none
      | _, _ => none
theorem shaped_list {ds : List PyData} (h : SeqAt.shaped (.list ds) = true) : PyData.canLayAll0 ds = true ∧ PyData.depthAll ds ≤ 64 := by
  have h1 := SeqAt.canLay_of_shaped h
  have h2 := SeqAt.depth_of_shaped h
  simp only [PyData.canLay0, PyData.depth] at h1 h2
  exact ⟨h1, by (first | lia | omega)⟩
theorem shaped_tuple {ds : List PyData} (h : SeqAt.shaped (.tuple ds) = true) : PyData.canLayAll0 ds = true ∧ PyData.depthAll ds ≤ 64 := by
  have h1 := SeqAt.canLay_of_shaped h
  have h2 := SeqAt.depth_of_shaped h
  simp only [PyData.canLay0, PyData.depth] at h1 h2
  exact ⟨h1, by (first | lia | omega)⟩
theorem vIn_K' (neg : Bool) : SimK2 C (compareOp (if neg then .NotIn else .In)) (vIn neg) (VR C.W) := by
  intro h₀ ζ ρ st s P E a b x y ok rel ra rb v st' e k
  have hu := ok.room.units
  unfold vIn at e
  split at e
  · rename_i i kvs q
    cases e
    obtain ⟨ad, kys, rfl, hsys, hd, hk⟩ := dView_at rel q rb
    simp only [VR] at ra
    obtain ⟨t, rfl⟩ := ra
    have fin : P (.bool ((valueAt kys i).isSome ^^ neg)) { s with toks := s.toks + 1 } := by
      rw [hk.some_iff i]
      exact k ζ ρ s.heap _ _ (Gr.refl _ _ _ _) rel (by simp only [VR])
    cases neg with
    | false => exact wpAny_in_of (isInt_self i t) hsys hd.mapOf (by simpa using fin)
    | true => exact wpAny_notIn_of (isInt_self i t) hsys hd.mapOf (by simpa using fin)
  · split at e
    · rename_i vs kvs q qq
      split at e
      · rename_i l ql
        cases e
        split at q
        · rename_i n
          obtain ⟨ax, rfl, hkey, _⟩ := tup_key rel ql ra
          obtain ⟨ad, kys, rfl, _, hsys, hd, hk⟩ := tdict_at rel q rb
          have fin : ∀ m, P (.bool ((atKey kys l).isSome ^^ neg)) { s with toks := m } := fun m => by
            rw [hk.some_iff l]
            exact k ζ ρ s.heap _ _ (Gr.refl _ _ _ _) rel (by simp only [VR])
          cases neg with
          | false => exact wpAny_in_heap (knd := tupleKind (intKind C.W.prog C.W.w)) (by show C.A.units + 1 < cLine; (first | lia | omega)) hkey hsys hd (by simpa using fin _)
          | true => exact wpAny_notIn_heap (knd := tupleKind (intKind C.W.prog C.W.w)) (by show C.A.units + 1 < cLine; (first | lia | omega)) hkey hsys hd (by simpa using fin _)
        · cases q
      · cases e
    · split at e
      · rename_i d ds q1 q2
        split at e
        · rename_i hs
          cases e
          simp only [Bool.and_eq_true] at hs
          obtain ⟨as, r1⟩ := data_reads rel q1 ra
          obtain ⟨bs, r2⟩ := data_reads rel q2 rb
          obtain ⟨h1, h2⟩ := shaped_list hs.2
          have h3 : min (PyData.depthAll ds) d.depth ≤ PyData.depthAll ds := Nat.min_le_left _ _
          have fin := k ζ ρ s.heap s.toks (.bool ((ds.any fun y => PyData.eqv y d) ^^ neg)) (Gr.refl _ _ _ _) rel (by simp only [VR])
          cases neg with
          | false => exact SeqAt.in_list_reads r2 r1 h1 (SeqAt.canLay_of_shaped hs.1) (by (first | lia | omega)) (by simpa using fin)
          | true => exact SeqAt.notIn_list_reads r2 r1 h1 (SeqAt.canLay_of_shaped hs.1) (by (first | lia | omega)) (by simpa using fin)
        · cases e
      · rename_i d ds q1 q2
        split at e
        · rename_i hs
          cases e
          simp only [Bool.and_eq_true] at hs
          obtain ⟨as, r1⟩ := data_reads rel q1 ra
          obtain ⟨bs, r2⟩ := data_reads rel q2 rb
          obtain ⟨h1, h2⟩ := shaped_tuple hs.2
          have h3 : min (PyData.depthAll ds) d.depth ≤ PyData.depthAll ds := Nat.min_le_left _ _
          have fin := k ζ ρ s.heap s.toks (.bool ((ds.any fun y => PyData.eqv y d) ^^ neg)) (Gr.refl _ _ _ _) rel (by simp only [VR])
          cases neg with
          | false => exact SeqAt.in_tuple_reads r2 r1 h1 (SeqAt.canLay_of_shaped hs.1) (by (first | lia | omega)) (by simpa using fin)
          | true => exact SeqAt.notIn_tuple_reads r2 r1 h1 (SeqAt.canLay_of_shaped hs.1) (by (first | lia | omega)) (by simpa using fin)
        · cases e
      · cases e
theorem vIn_K : SimK2 C (compareOp .In) (vIn false) (VR C.W) := vIn_K' false
theorem vNotIn_K : SimK2 C (compareOp .NotIn) (vIn true) (VR C.W) := vIn_K' true
noncomputable def V.isNone : V → Bool
  | .none => true
  | _ => false
noncomputable def V.isVal : V → Bool
  | .val _ => true
  | _ => false
noncomputable def vIsNone (neg : Bool) (x y : V) : M V := if y.isNone && !x.isVal then pure (.bool (x.isNone ^^ neg)) else M.fail
theorem isNone_eq {v : V} (h : v.isNone = true) : v = .none := by
  cases v <;> first | rfl | cases h
theorem isNone_of {W : Wd} {ζ : HM} {ρ : RM} {v : V} {x : Value} (r : VR W ζ ρ v x) (h : ∀ y, v ≠ .val y) : (x == Value.none) = v.isNone := by
  cases v with
  | none => simp only [VR] at r; subst r; rfl
  | bool b => simp only [VR] at r; subst r; rfl
  | int b => simp only [VR] at r; obtain ⟨_, rfl⟩ := r; rfl
  | str b => simp only [VR] at r; obtain ⟨_, rfl⟩ := r; rfl
  | tup b => simp only [VR] at r; obtain ⟨_, _, _, rfl, _⟩ := r; rfl
  | lst b => simp only [VR] at r; obtain ⟨_, _, _, rfl, _⟩ := r; rfl
  | dct b => simp only [VR] at r; obtain ⟨_, _, _, _, rfl, _⟩ := r; rfl
  | ref b => simp only [VR] at r; obtain ⟨_, _, rfl⟩ := r; rfl
  | rng _ _ _ => simp only [VR] at r; obtain ⟨_, _, _, _, rfl, _⟩ := r; rfl
  | val y => exact absurd rfl (h y)
inductive IsNoneSome (neg : Bool) (a b : V) (st : St) (r : V × St) : Prop
  | mk (hb : b = .none) (ha : ∀ y, a ≠ .val y) (hr : r = (.bool (a.isNone ^^ neg), st))
theorem vIsNone_some {neg : Bool} {a b : V} {st : St} {r : V × St} (e : vIsNone neg a b st = some r) : IsNoneSome neg a b st r := by
  unfold vIsNone at e
  split at e
  · rename_i h
    have h := Bool.and_eq_true_iff.mp h
    cases e
    exact ⟨isNone_eq h.1, fun y q => by rw [q] at h; exact absurd h.2 nofun, rfl⟩
  · cases e
theorem vIs_K' (neg : Bool) : SimK2 C (compareOp (if neg then .IsNot else .Is)) (vIsNone neg) (VR C.W) := by
  intro h₀ ζ ρ st s P E a b x y ok rel ra rb v st' e k
  obtain ⟨rfl, hne, hr⟩ := vIsNone_some e
  cases hr
  simp only [VR] at rb
  subst rb
  have hb := isNone_of ra hne
  have fin := k ζ ρ s.heap s.toks (.bool ((x == Value.none) ^^ neg)) (Gr.refl _ _ _ _) rel (by simp only [VR]; rw [hb])
  cases neg with
  | false => exact is_none (by simpa using fin)
  | true => exact isNot_none (by simpa using fin)
theorem vIsNot_K : SimK2 C (compareOp .IsNot) (vIsNone true) (VR C.W) := vIs_K' true
end Lay
end

section
open PySem PySem.W PyProof.Rows
set_option Elab.async false
set_option linter.unusedVariables false
namespace Lay
noncomputable abbrev Hp := Nat → Option O
noncomputable abbrev FM := List V → Hp → Option (V × Hp)
noncomputable def callPost (P : Value → Shared → Prop) (E : Value → Shared → Prop) (r : Result) (s' : Shared) : Prop := match r with
  | .ok (.ret v) => P v s'
  | .ok _ => False
  | .error e => E e s'
noncomputable def FnSim (W : Wd) (f : Value) (B k : Nat) (fm : FM) : Prop :=
  ∀ (A : Around) (h₀ ζ : HM) (ρ : RM) (σ : Hp) (s : Shared) (args : List V) (xs : List Value) (P : Value → Shared → Prop) (E : Value → Shared → Prop),
    Room A k → SRel W h₀ ζ ρ σ s.heap → (∀ n, B ≤ n → σ n = none) → VRa W ζ ρ args xs → ∀ v σ', fm args σ = some (v, σ') →
    (∀ ζ' ρ' h' tk' x, Gr B s.heap ζ ρ h' ζ' ρ' → SRel W h₀ ζ' ρ' σ' h' → (∀ n, 100 ≤ n → σ n = none → σ' n = none) → VR W ζ' ρ' v x → P x { s with heap := h', toks := tk' }) →
    codeAny (model W.prog W.w) A (.call f ⟨xs, []⟩) (callPost P E) s
noncomputable def leaveV (B : Nat) (v : V) (σ : Hp) : Option V := match v with
  | .ref n => if n < B then some (.ref n) else match σ n with
    | some (.list xs) => some (.lst xs)
    | some (.idict kvs) => some (.dct kvs)
    | _ => none
  | v => some v
noncomputable def cut (B : Nat) (σ : Hp) : Hp := fun n => if n < B then σ n else none
noncomputable def flV : Fl → Option V
  | .ret v => some v
  | .next => some .none
  | _ => none
noncomputable def runF (B n : Nat) (mb : M Fl) : FM := fun args σ =>
  if args.length = n then
    match mb ⟨fun i => args[i]?, σ⟩ with
    | none => none
    | some (f, st') => match flV f with
      | none => none
      | some v => match leaveV B v st'.hp with
        | none => none
        | some v' => some (v', cut B st'.hp)
  else none
noncomputable def plOf (names : List (Str × NameKind)) (L : Addr) (cells : List (Str × Addr)) : Nat → Option Place := fun i => match names[i]? with
  | some (x, .local) => some (.loc L x)
  | some (x, .cell) => (cells.lookup x).map .cell
  | _ => none
noncomputable def fnCx (W : Wd) (A : Around) (f : Addr) (qual : Str) (scope : Scope) (cdv : Value) (L : Addr) (k B T : Nat) (mid : Nat → Prop) : Cx where
  W := W
  A := A.deeper (envOfC qual scope L f cdv)
  env := envOfC qual scope L f cdv
  k := k
  B := B
  T := T
  pl := plOf scope.names L (cellsFrom (L + 1) scope.names [])
  mid := mid
noncomputable def fnOk (scope : Scope) (n : Nat) : Bool :=
  scope.kind == .function && !scope.isCoroutine && !scope.isGenerator && decide ((scope.names.map (·.1)).Nodup) && decide (n ≤ scope.names.length) &&
    (scope.names.take n).all (fun x => x.2 == .local || x.2 == .cell)
theorem lookup_of_mem {α : Type} : ∀ {l : List (Str × α)} {x : Str} {k : α}, (l.map (·.1)).Nodup → (x, k) ∈ l → l.lookup x = some k
  | [], _, _, _, h => nomatch h
  | (y, k') :: r, x, k, hn, h => by
    rw [List.map_cons, List.nodup_cons] at hn
    rcases List.mem_cons.mp h with e | h'
    · cases e; simp [List.lookup]
    · have : x ≠ y := fun q => hn.1 (List.mem_map.mpr ⟨(x, k), h', q⟩)
      rw [List.lookup_cons]
      have hb : (x == y) = false := beq_eq_false_iff_ne.mpr this
      rw [hb]
      exact lookup_of_mem hn.2 h'
theorem mem_of_lookup' {α : Type} : ∀ {l : List (Str × α)} {x : Str} {k : α}, l.lookup x = some k → (x, k) ∈ l
  | [], _, _, h => nomatch h
  | (y, k') :: r, x, k, h => by
    rw [List.lookup_cons] at h
    by_cases q : x = y
    · subst q; simp at h; subst h; exact .head _
    · have hb : (x == y) = false := beq_eq_false_iff_ne.mpr q
      rw [hb] at h; exact .tail _ (mem_of_lookup' h)
theorem bindL_off (kd : Str → Option NameKind) : ∀ (b : List (Str × Value)) (m : Str → Option Value) (x : Str), x ∉ b.map (·.1) → bindL kd b m x = m x
  | [], _, _, _ => rfl
  | (y, v) :: r, m, x, h => by
    simp only [List.map_cons, List.mem_cons, not_or] at h
    unfold bindL
    rw [bindL_off kd r _ x h.2]
    split
    · simp [h.1]
    · rfl
theorem bindL_on (kd : Str → Option NameKind) : ∀ (b : List (Str × Value)) (m : Str → Option Value) (x : Str) (v : Value), (b.map (·.1)).Nodup → (x, v) ∈ b → kd x = some .local → bindL kd b m x = some v
  | [], _, _, _, _, h, _ => nomatch h
  | (y, u) :: r, m, x, v, hn, h, hk => by
    rw [List.map_cons, List.nodup_cons] at hn
    unfold bindL
    rcases List.mem_cons.mp h with e | h
    · injection e with e1 e2
      subst e1 e2
      rw [bindL_off kd r _ _ hn.1, if_pos hk]; simp
    · exact bindL_on kd r _ x v hn.2 h hk
theorem bindC_off (kd : Str → Option NameKind) : ∀ (b : List (Str × Value)) (m : Str → Option Value) (x : Str), x ∉ b.map (·.1) → bindC kd b m x = m x
  | [], _, _, _ => rfl
  | (y, v) :: r, m, x, h => by
    simp only [List.map_cons, List.mem_cons, not_or] at h
    unfold bindC
    rw [bindC_off kd r _ x h.2]
    split
    · rfl
    · simp [h.1]
theorem bindC_on (kd : Str → Option NameKind) : ∀ (b : List (Str × Value)) (m : Str → Option Value) (x : Str) (v : Value), (b.map (·.1)).Nodup → (x, v) ∈ b → kd x ≠ some .local → bindC kd b m x = some v
  | [], _, _, _, _, h, _ => nomatch h
  | (y, u) :: r, m, x, v, hn, h, hk => by
    rw [List.map_cons, List.nodup_cons] at hn
    unfold bindC
    rcases List.mem_cons.mp h with e | h
    · injection e with e1 e2
      subst e1 e2
      rw [bindC_off kd r _ _ hn.1, if_neg hk]; simp
    · exact bindC_on kd r _ x v hn.2 h hk
theorem cellsFrom_has : ∀ (names : List (Str × NameKind)) (n : Nat) (acc : List (Str × Addr)) (x : Str), (x, .cell) ∈ names ∨ (acc.lookup x).isSome = true → ((cellsFrom n names acc).lookup x).isSome = true
  | [], _, _, _, h => h.elim (fun h => nomatch h) id
  | (y, k) :: r, n, acc, x, h => by
    unfold cellsFrom
    split
    · refine cellsFrom_has r (n + 1) _ x ?_
      by_cases q : x = y
      · subst q; exact .inr (by simp [List.lookup])
      · rcases h with h | h
        · rcases List.mem_cons.mp h with e | h
          · cases e; exact absurd rfl q
          · exact .inl h
        · refine .inr ?_
          rw [List.lookup_cons, beq_eq_false_iff_ne.mpr q]; exact h
    · rename_i hk
      refine cellsFrom_has r n acc x ?_
      rcases h with h | h
      · rcases List.mem_cons.mp h with e | h
        · cases e; exact absurd rfl hk
        · exact .inl h
      · exact .inr h
theorem VRa.get {W : Wd} {ζ : HM} {ρ : RM} : ∀ {v : List V} {x : List Value}, VRa W ζ ρ v x → ∀ (i : Nat) (u : V), v[i]? = some u → ∃ y, x[i]? = some y ∧ VR W ζ ρ u y
  | [], _, _, i, u, e => by simp at e
  | a :: r, _, hH, i, u, e => by
    obtain ⟨y, r', e', h1, h2⟩ := hH
    subst e'
    cases i with
    | zero => simp at e; subst e; exact ⟨y, by simp, h1⟩
    | succ i => simp at e; obtain ⟨z, hz⟩ := h2.get i u e; exact ⟨z, by simpa using hz⟩
theorem leave_rel {C : Cx} {h₀ ζ : HM} {ρ : RM} {st : St} {h : Heap} (rel : Rel C h₀ ζ ρ st h) (b100 : 100 ≤ C.B) {v v' : V} {x : Value} (e : leaveV C.B v st.hp = some v') (r : VR C.W ζ ρ v x) :
    ∃ ζ' ρ', Le ζ ζ' ∧ (∀ n a, n < C.B → ρ n = some a → ρ' n = some a) ∧ (∀ a o, ζ' a = some o → ζ a = some o ∨ ∃ n, C.B ≤ n ∧ ρ n = some a) ∧ (∀ n a, ρ' n = some a → ρ n = some a) ∧
      SRel C.W h₀ ζ' ρ' (cut C.B st.hp) h ∧ VR C.W ζ' ρ' v' x := by
  let ρ' : RM := fun n => if n < C.B then ρ n else none
  have r1 : ∀ n a, n < C.B → ρ n = some a → ρ' n = some a := fun n a q e => by simp only [ρ', if_pos q]; exact e
  have r2 : ∀ n a, ρ' n = some a → ρ n = some a ∧ n < C.B := fun n a e => by
    simp only [ρ'] at e
    split at e
    · exact ⟨e, by assumption⟩
    · cases e
  have hlow : LowLe ρ ρ' := fun n a q e => r1 n a (Nat.lt_of_lt_of_le q b100) e
  have base : ∀ ζ' : HM, Le ζ ζ' → (∀ a o, ζ' a = some o → ζ a = some o ∨ (∃ n, C.B ≤ n ∧ ρ n = some a) ∧ h.get? a = some o) → SRel C.W h₀ ζ' ρ' (cut C.B st.hp) h := by
    intro ζ' le hz
    refine ⟨rel.ok, rel.kept, fun a o e => ?_, fun a o e => ?_, fun n O e => ?_, fun n e => ?_, fun n m a e e' => rel.inj n m a (r2 _ _ e).1 (r2 _ _ e').1, fun n a e => ?_, fun n a e => rel.offk n a (r2 _ _ e).1, rel.good, fun n e => rel.sysr n (r2 _ _ e).1, ?_⟩
    · rcases hz a o e with q | q
      · exact rel.frozen a o q
      · exact q.2
    · trivial
    · unfold cut at e
      split at e
      · rename_i q
        obtain ⟨a, o, h1, h2, h3⟩ := rel.slot n O e
        exact ⟨a, o, r1 n a q h1, h2, h3.mono le hlow⟩
      · cases e
    · unfold cut at e
      split at e
      · rename_i q; simp only [ρ', if_pos q]; exact rel.dom n e
      · rename_i q; simp only [ρ', if_neg q]
    · cases q : ζ' a with
      | none => rfl
      | some o =>
        obtain ⟨e1, e2⟩ := r2 _ _ e
        rcases hz a o q with q | ⟨⟨m, hm, q⟩, _⟩
        · rw [rel.offz n a e1] at q; cases q
        · have := rel.inj n m a e1 q; (first | lia | omega)
    · cases q : ζ' sysModules with
      | none => rfl
      | some o =>
        rcases hz _ o q with q | ⟨⟨m, hm, q⟩, _⟩
        · rw [rel.sysz] at q; cases q
        · exact absurd q (rel.sysr m)
  unfold leaveV at e
  split at e
  · rename_i n
    split at e
    · rename_i q
      cases e
      refine ⟨ζ, ρ', Le.refl _, r1, fun a o e => .inl e, fun n a e => (r2 _ _ e).1, base ζ (Le.refl _) fun a o e => .inl e, ?_⟩
      simp only [VR] at r ⊢
      obtain ⟨a, h1, h2⟩ := r
      exact ⟨a, r1 n a q h1, h2⟩
    · rename_i q
      have q' : C.B ≤ n := Nat.le_of_not_lt q
      simp only [VR] at r
      obtain ⟨a, h1, rfl⟩ := r
      split at e
      · rename_i xs hx
        cases e
        obtain ⟨a', o, h2, h3, ys, h4, h5⟩ := rel.slot n _ hx
        obtain rfl : a = a' := Option.some.inj (h1.symm.trans h2)
        have le : Le ζ (upd ζ a (some o)) := upd_le (rel.offz n a h1)
        have hz : ∀ b o', upd ζ a (some o) b = some o' → ζ b = some o' ∨ (∃ n, C.B ≤ n ∧ ρ n = some b) ∧ h.get? b = some o' := fun b o' e => by
          by_cases p : b = a
          · subst p; rw [upd_same] at e; cases e; exact .inr ⟨⟨n, q', h1⟩, h3⟩
          · rw [upd_ne _ _ p] at e; exact .inl e
        refine ⟨upd ζ a (some o), ρ', le, r1, fun b o' e => (hz b o' e).imp id (fun x => x.1), fun n a e => (r2 _ _ e).1, base _ le hz, ?_⟩
        simp only [VR]
        exact ⟨a, o, ys, rfl, upd_same _ _ _, h4, VRs.mono le hlow _ _ h5⟩
      · rename_i kvs hx
        cases e
        obtain ⟨a', o, h2, h3, es, n', kys, h4, h5, h6⟩ := rel.slot n _ hx
        obtain rfl : a = a' := Option.some.inj (h1.symm.trans h2)
        have le : Le ζ (upd ζ a (some o)) := upd_le (rel.offz n a h1)
        have hz : ∀ b o', upd ζ a (some o) b = some o' → ζ b = some o' ∨ (∃ n, C.B ≤ n ∧ ρ n = some b) ∧ h.get? b = some o' := fun b o' e => by
          by_cases p : b = a
          · subst p; rw [upd_same] at e; cases e; exact .inr ⟨⟨n, q', h1⟩, h3⟩
          · rw [upd_ne _ _ p] at e; exact .inl e
        refine ⟨upd ζ a (some o), ρ', le, r1, fun b o' e => (hz b o' e).imp id (fun x => x.1), fun n a e => (r2 _ _ e).1, base _ le hz, ?_⟩
        simp only [VR]
        exact ⟨a, es, n', kys, rfl, by rw [upd_same, h4], h5, VRk_p.mp (h6.mono le hlow)⟩
      · cases e
  · rename_i hv
    cases e
    refine ⟨ζ, ρ', Le.refl _, r1, fun a o e => .inl e, fun n a e => (r2 _ _ e).1, base ζ (Le.refl _) fun a o e => .inl e, ?_⟩
    refine VR.lowMono (Le.refl _) hlow v x ?_ r
    cases v with
    | ref n => exact absurd rfl (hv n)
    | _ => rfl
theorem zip_nodup : ∀ (l : List Str) (xs : List Value), l.Nodup → ((l.zip xs).map (·.1)).Nodup
  | [], _, _ => by simp
  | _ :: _, [], _ => by simp
  | a :: l, x :: xs, h => by
    rw [List.nodup_cons] at h
    simp only [List.zip_cons_cons, List.map_cons, List.nodup_cons]
    refine ⟨fun q => ?_, zip_nodup l xs h.2⟩
    obtain ⟨p, hp, e⟩ := List.mem_map.mp q
    obtain ⟨b, y⟩ := p
    cases e
    exact h.1 (List.of_mem_zip hp).1
theorem FnSim_def {W : Wd} {f : Addr} {n B T k : Nat} {name qual : Str} {params : Arguments} {body : List Stmt} {scope : Scope} {dV kV doc pm cdv ct oc : Value} {an od : Option Addr} {osl : Array (Option Value)}
    (ho : W.K.lookup f = some ⟨oc, od, .func (fnOf name qual params body scope dV kV doc pm an cdv ct), osl⟩) (hcd : codeIn W.K cdv qual = true) (hok : fnOk scope n = true)
    (hbind : ∀ (s : Shared) (xs : List Value), xs.length = n → W.K.In s.heap → BindsTo s (fnOf name qual params body scope dV kV doc pm an cdv ct) ⟨xs, []⟩ ((scope.names.map (·.1)).zip xs))
    {mb : M Fl} (hbody : ∀ A L mid, SimF (fnCx W A f qual scope cdv L k B T mid) (execs body (envOfC qual scope L f cdv)) mb) (hB : 100 ≤ B := by decide) (hT : B ≤ T := by decide) : FnSim W (.ref f) B (k + 1) (runF B n mb) := by
  intro A h₀ ζ ρ σ s args xs P E room S hσ ha v σ' e kk
  simp only [fnOk, Bool.and_eq_true, beq_iff_eq, decide_eq_true_eq, Bool.not_eq_true', List.all_eq_true, Bool.or_eq_true] at hok
  obtain ⟨⟨⟨⟨⟨ok1, ok2⟩, ok3⟩, ok4⟩, ok5⟩, ok6⟩ := hok
  unfold runF at e
  split at e
  · rename_i hlen
    split at e
    · cases e
    · rename_i fl st' hm
      split at e
      · cases e
      · rename_i v0 hv0
        split at e
        · cases e
        · rename_i v' hv'
          cases e
          have hxl : xs.length = n := ha.length.trans hlen
          have hd := room.depth
          refine codeAny_call_function (by (first | lia | omega)) (S.ok.1 _ _ ho) rfl ok2 ok3 rfl (codeRec_of S.ok.1 hcd) (hbind s xs hxl S.ok.1 _ _ _ _ ?_)
          have hbk : ∀ x ∈ (scope.names.map (·.1)).zip xs, ∃ (i : Nat) (kd : NameKind), scope.names[i]? = some (x.1, kd) ∧ xs[i]? = some x.2 ∧ (kd = .local ∨ kd = .cell) ∧ scope.names.lookup x.1 = some kd := by
            intro x hx
            obtain ⟨i, hi, e⟩ := List.mem_iff_getElem.mp hx
            have hi1 : i < scope.names.length := by simp at hi; (first | lia | omega)
            have hi2 : i < xs.length := by simp at hi; (first | lia | omega)
            rw [List.getElem_zip] at e
            refine ⟨i, scope.names[i].2, ?_, ?_, ?_, ?_⟩
            · rw [List.getElem?_eq_getElem hi1, ← e]; simp
            · rw [List.getElem?_eq_getElem hi2, ← e]
            · refine ok6 _ ?_
              rw [List.mem_iff_getElem]
              exact ⟨i, by simp; (first | lia | omega), by simp⟩
            · refine lookup_of_mem ok4 ?_
              rw [List.mem_iff_getElem]
              exact ⟨i, hi1, by rw [← e]; simp⟩
          have hnd : (((scope.names.map (·.1)).zip xs).map (·.1)).Nodup := zip_nodup _ _ ok4
          refine wpAny_newFunctionEnv_cells ok1 (fun x hx => ?_) fun env' he s' x => ?_
          · obtain ⟨i, kd, _, _, hk, hl⟩ := hbk x hx
            rcases hk with rfl | rfl
            · exact .inl hl
            · refine .inr ⟨hl, cellsFrom_has _ _ _ _ (.inl (mem_of_lookup' hl))⟩
          · subst he
            refine ⟨(S.ok.2.nolimit).keeps x.toInCall.keep, codeAny_func ?_⟩
            obtain ⟨h₁, tk, rfl, _⟩ := x.done
            have keep : Le s.heap.get? h₁.get? := fun b o e => x.toInCall.keep b o e
            have fresh : ∀ b, s.heap.objs.size ≤ b → s.heap.get? b = none := fun b hb => by
              cases q : s.heap.get? b with
              | none => rfl
              | some o => exact absurd (Heap.lt_size q) (Nat.not_lt.mpr hb)
            have hplnew : ∀ i pl, plOf scope.names s.heap.objs.size (cellsFrom (s.heap.objs.size + 1) scope.names []) i = some pl → s.heap.objs.size ≤ pl.addr := by
              intro i pl e
              unfold plOf at e
              split at e
              · cases e; exact Nat.le_refl _
              · obtain ⟨c, hc, rfl⟩ := Option.map_eq_some_iff.mp e
                have := x.above _ _ (mem_of_lookup' hc)
                exact Nat.le_of_lt this
              · cases e
            have offnew : ∀ b, s.heap.get? b = none → ζ b = none ∧ h₀ b = none ∧ ∀ n, ρ n ≠ some b := by
              intro b hb
              refine ⟨?_, ?_, ?_⟩
              · cases q : ζ b with
                | none => rfl
                | some o => rw [S.frozen b o q] at hb; cases hb
              · cases q : h₀ b with
                | none => rfl
                | some o => rw [S.kept b o q] at hb; cases hb
              · intro m q
                cases q' : σ m with
                | none => rw [S.dom m q'] at q; cases q
                | some O =>
                  obtain ⟨c, o, h1, h2, _⟩ := S.slot m O q'
                  rw [q] at h1; cases h1; rw [hb] at h2; cases h2
            have S' : SRel W h₀ ζ ρ σ h₁ := S.off (fun _ => False) (fun b o _ e => keep b o e) (fun _ x => x.elim)
            have rel : Rel (fnCx W A f qual scope cdv s.heap.objs.size k B T (fun n => σ n ≠ none)) h₀ ζ ρ ⟨fun i => args[i]?, σ⟩ h₁ := by
              refine ⟨S', fun m hm => hσ m (Nat.le_trans hT hm), fun m _ _ q => q, fun i u e => ?_, fun i pl e => ?_, fun i pl e => offnew _ (fresh _ (hplnew i pl e)), fun i j pl e e' => ?_⟩
              · obtain ⟨y, hy, hr⟩ := ha.get i u e
                have hi : i < xs.length := (List.getElem?_eq_some_iff.mp hy).1
                have hi1 : i < scope.names.length := by (first | lia | omega)
                have hmem : (scope.names[i].1, y) ∈ (scope.names.map (·.1)).zip xs := by
                  rw [List.mem_iff_getElem]
                  refine ⟨i, by simp; (first | lia | omega), ?_⟩
                  rw [List.getElem_zip]
                  rw [List.getElem?_eq_getElem hi] at hy
                  simp only [List.getElem_map, Option.some.inj hy]
                have hkd : scope.names[i].2 = .local ∨ scope.names[i].2 = .cell := ok6 _ (by rw [List.mem_iff_getElem]; exact ⟨i, by simp; (first | lia | omega), by simp⟩)
                have hlk : scope.names.lookup scope.names[i].1 = some scope.names[i].2 := lookup_of_mem ok4 (List.getElem_mem hi1)
                rcases hkd with hkd | hkd
                · refine ⟨.loc s.heap.objs.size scope.names[i].1, y, ?_, ⟨_, x.toInCall.ns, bindL_on _ _ _ _ _ hnd hmem (by rw [← hkd]; exact hlk)⟩, hr⟩
                  show plOf _ _ _ i = _
                  unfold plOf
                  rw [List.getElem?_eq_getElem hi1]
                  cases q : scope.names[i] with
                  | mk a b => rw [q] at hkd; cases hkd; rfl
                · have hsome := cellsFrom_has scope.names (s.heap.objs.size + 1) [] scope.names[i].1 (.inl (by
                    have := List.getElem_mem hi1
                    rw [← hkd]; exact this))
                  obtain ⟨c, hc⟩ := Option.isSome_iff_exists.mp hsome
                  refine ⟨.cell c, y, ?_, ?_, hr⟩
                  · show plOf _ _ _ i = _
                    unfold plOf
                    rw [List.getElem?_eq_getElem hi1]
                    cases q : scope.names[i] with
                    | mk a b => rw [q] at hkd hc; cases hkd; simp only [hc, Option.map_some]
                  · have := x.cell _ c hc
                    rw [bindC_on _ _ _ _ _ hnd hmem (by show scope.names.lookup _ ≠ _; rw [hlk, hkd]; exact nofun)] at this
                    exact this
              · show pl.ok h₁
                unfold fnCx plOf at e
                simp only at e
                split at e
                · cases e; exact ⟨_, x.toInCall.ns⟩
                · obtain ⟨c, hc, rfl⟩ := Option.map_eq_some_iff.mp e
                  exact ⟨_, x.cell _ c hc⟩
                · cases e
              · show i = j
                unfold fnCx plOf at e e'
                simp only at e e'
                have inj : ∀ (i j : Nat) (a b : Str × NameKind), scope.names[i]? = some a → scope.names[j]? = some b → a.1 = b.1 → i = j := by
                  intro i j a b h1 h2 h3
                  obtain ⟨l1, g1⟩ := List.getElem?_eq_some_iff.mp h1
                  obtain ⟨l2, g2⟩ := List.getElem?_eq_some_iff.mp h2
                  have l1' : i < (scope.names.map (·.1)).length := by simpa using l1
                  have l2' : j < (scope.names.map (·.1)).length := by simpa using l2
                  refine (List.getElem?_inj l1' ok4).mp ?_
                  rw [List.getElem?_eq_getElem l1', List.getElem?_eq_getElem l2']
                  simp only [List.getElem_map, g1, g2, h3]
                split at e
                · rename_i y hy
                  cases e
                  split at e'
                  · rename_i z hz; cases e'; exact inj i j _ _ hy hz rfl
                  · obtain ⟨c, hc, q⟩ := Option.map_eq_some_iff.mp e'; cases q
                  · cases e'
                · rename_i y hy
                  obtain ⟨c, hc, rfl⟩ := Option.map_eq_some_iff.mp e
                  split at e'
                  · cases e'
                  · rename_i z hz
                    obtain ⟨c', hc', q⟩ := Option.map_eq_some_iff.mp e'
                    cases q
                    have := name_of_addr x.apart (mem_of_lookup' hc) (mem_of_lookup' hc')
                    exact inj i j _ _ hy hz this
                  · cases e'
                · cases e
            have okC : (fnCx W A f qual scope cdv s.heap.objs.size k B T (fun n => σ n ≠ none)).Ok := ⟨⟨by show A.depth + 1 + k < _; (first | lia | omega), by have := room.units; show A.units + 3 + 8 * k + 100 < _; (first | lia | omega), room.handled⟩, ok1, rfl, rfl, hT, hB⟩
            refine hbody A s.heap.objs.size (fun n => σ n ≠ none) h₀ ζ ρ _ _ _ _ okC rel fl st' hm fun ζ1 ρ1 h1 tk1 b G1 rel1 r1 => ?_
            have hback : ∃ y, (b = .ret y ∨ (b = .next ∧ y = .none)) ∧ VR W ζ1 ρ1 v0 y := by
              cases fl with
              | next => cases hv0; cases r1; exact ⟨.none, .inr ⟨rfl, rfl⟩, by simp only [VR]⟩
              | brk => cases hv0
              | cont => cases hv0
              | ret u => cases hv0; obtain ⟨y, rfl, hy⟩ := r1; exact ⟨y, .inl rfl, hy⟩
            obtain ⟨y, hy, hyr⟩ := hback
            obtain ⟨ζ2, ρ2, z1, z2, z3, z4, z5, z6⟩ := leave_rel rel1 hB hv' hyr
            have dm0 : ∀ a, s.heap.get? a ≠ none → h₁.get? a ≠ none := fun a q => by
              cases q' : s.heap.get? a with
              | none => exact absurd q' q
              | some o => rw [keep a o q']; exact nofun
            have fin := kk ζ2 ρ2 h1 tk1 y ⟨G1.zl.trans z1, fun m a hm q => z2 m a hm (G1.rl m a hm q), fun a o q => ?_, fun m a q => ?_, fun a q => G1.dm a (dm0 a q)⟩ z5 (fun m hm q => Classical.byContradiction fun q' => ?_) z6
            · rcases hy with rfl | ⟨rfl, rfl⟩ <;> exact fin
            · have dn : ∀ a, h₁.get? a = none → s.heap.get? a = none := fun a q => Classical.byContradiction fun q' => dm0 a q' q
              rcases z3 a o q with q | ⟨m, hm, q⟩
              · exact (G1.zn a o q).imp id (dn a)
              · rcases G1.rn m a q with q | q
                · have := S.dom m (hσ m hm); rw [this] at q; cases q
                · exact .inr (dn a q)
            · exact (G1.rn m a (z4 m a q)).imp id fun q => Classical.byContradiction fun q' => dm0 a q' q
            · unfold cut at q'
              split at q'
              · rename_i hlt; exact rel1.mid m hm hlt q' q
              · exact q' rfl
  · cases e
end Lay
end

section
open PySem PySem.W PyProof.Rows
set_option Elab.async false
set_option linter.unusedVariables false
namespace Lay
variable {C : Cx}
noncomputable abbrev SimC (C : Cx) (f : Value) (g : List V → M V) : Prop := SimK C C.T (VRa C.W) (fun xs => call f xs) g (VR C.W)
noncomputable def callM (fm : FM) (vs : List V) : M V := fun st => match fm vs st.hp with
  | none => none
  | some (v, σ') => some (v, { st with hp := σ' })
open Classical in
noncomputable def offSlots (ρ : RM) (h : Heap) : HM := fun a => if ∃ n, ρ n = some a then none else h.get? a
theorem fn_code {f : Value} {B k : Nat} {fm : FM} (hf : FnSim C.W f B k fm) (hB : C.T ≤ B) {A' : Around} (room : Room A' k) {h₀ ζ : HM} {ρ : RM} {st : St} {s : Shared} {P : Value → Shared → Prop} {E : Value → Shared → Prop} {vs : List V} {xs : List Value} (ok : C.Ok) (rel : Rel C h₀ ζ ρ st s.heap)
    (ra : VRa C.W ζ ρ vs xs) {v : V} {st' : St} (e : callM fm vs st = some (v, st'))
    (kk : ∀ ζ' ρ' h' tk' b', Gr C.T s.heap ζ ρ h' ζ' ρ' → Rel C h₀ ζ' ρ' st' h' → VR C.W ζ' ρ' v b' → P b' { s with heap := h', toks := tk' }) : codeAny (model C.W.prog C.W.w) A' (.call f ⟨xs, []⟩) (callPost P E) s := by
  unfold callM at e
  split at e
  · cases e
  · rename_i v' σ' e'
    cases e
    have le : Le h₀ (offSlots ρ s.heap) := fun a o q => by
      unfold offSlots
      rw [if_neg (fun ⟨n, hn⟩ => by rw [rel.offk n a hn] at q; cases q)]
      exact rel.kept a o q
    have S : SRel C.W (offSlots ρ s.heap) ζ ρ st.hp s.heap := ⟨rel.ok, fun a o q => by unfold offSlots at q; split at q <;> first | cases q | exact q, rel.frozen, rel.fcls, rel.slot, rel.dom, rel.inj, rel.offz,
      fun n a q => by unfold offSlots; rw [if_pos ⟨n, q⟩], fun h' q => rel.good h' (le.trans q), rel.sysr, rel.sysz⟩
    refine hf A' (offSlots ρ s.heap) ζ ρ st.hp s vs xs P E room S (fun n hn => rel.fresh n (Nat.le_trans hB hn)) ra v σ' e' fun ζ' ρ' h' tk' x G S' hσ hx => ?_
    have hrd : ∀ n a, ρ n = some a → ρ' n = some a := fun n a q => G.rl n a (Nat.lt_of_lt_of_le (rel.rdom q) hB) q
    have hpl : ∀ i pl, C.pl i = some pl → ∀ o, s.heap.get? pl.addr = some o → h'.get? pl.addr = some o := fun i pl q o q' =>
      S'.kept _ _ (by unfold offSlots; rw [if_neg (fun ⟨n, hn⟩ => (rel.ploff i pl q).2.2 n hn)]; exact q')
    refine kk ζ' ρ' h' tk' x ⟨G.zl, fun n a _ q => hrd n a q, G.zn, G.rn, G.dm⟩ ?_ hx
    refine ⟨⟨S'.ok, fun a o q => S'.kept a o (le a o q), S'.frozen, S'.fcls, S'.slot, S'.dom, S'.inj, S'.offz, fun n a q => ?_, rel.good, S'.sysr, S'.sysz⟩, fun n hn => ?_, fun n h1 h2 h3 => ?_, fun i v q => ?_, fun i pl q => (rel.plok i pl q).ok_keeps (hpl i pl q), fun i pl q => ?_, rel.plinj⟩
    · rcases G.rn n a q with q' | q'
      · exact rel.offk n a q'
      · cases q2 : h₀ a with
        | none => rfl
        | some o => rw [rel.kept a o q2] at q'; cases q'
    · have h100 : 100 ≤ n := Nat.le_trans ok.b100 (Nat.le_trans ok.bt hn)
      exact hσ n h100 (rel.fresh n hn)
    · exact rel.mid n h1 h2 fun q => h3 (hσ n h1 q)
    · obtain ⟨pl, y, h1, h2, h3⟩ := rel.var i v q
      exact ⟨pl, y, h1, h2.has_keeps (hpl i pl h1), h3.mono G.zl hrd⟩
    · obtain ⟨q1, q2, q3⟩ := rel.ploff i pl q
      have hex := (rel.plok i pl q).ok_some
      refine ⟨?_, q2, fun n q' => ?_⟩
      · cases e1 : ζ' pl.addr with
        | none => rfl
        | some o =>
          rcases G.zn _ _ e1 with e2 | e2
          · rw [q1] at e2; cases e2
          · exact absurd e2 hex
      · rcases G.rn _ _ q' with e2 | e2
        · exact q3 n e2
        · exact absurd e2 hex
theorem SimC_fn {f : Value} {B k : Nat} {fm : FM} (hf : FnSim C.W f B k fm) (hB : C.T ≤ B) (hk : k ≤ C.k) : SimC C f (callM fm) := by
  intro h₀ ζ ρ st s P E vs xs ok rel ra v st' e kk
  exact wpAny_call (codeAny_mono (fn_code hf hB ⟨by have := ok.room.depth; (first | lia | omega), by have := ok.room.units; (first | lia | omega), ok.room.handled⟩ ok rel ra e kk) fun r s' z => z)
noncomputable def CallOk (W : Wd) (f : Value) : Prop := ∀ (A : Around) (pos : Pos) (first : List Value) (trees : List (Bool × Sem Value)) (s : Shared) (P : Value → Shared → Prop) (E : Value → Shared → Prop), trees.any (·.1) = false →
  wpAny (model W.prog W.w) A (evalArgs f true trees []) (fun a s₁ => W.Ok s₁.heap ∧ wpAny (model W.prog W.w) A (call f (first ++ a.pos) a.kw) P E s₁) E s → wpAny (model W.prog W.w) A (callWith pos f first trees []) P E s
theorem CallOk.K {W : Wd} {f : Value} (hk : keepIn W.K f = true) : CallOk W f := fun A pos first trees s P E ht h =>
  callWith_of (P := W.K.In) (by simp [ht]) (keeps_K hk) (wpAny_mono h (fun a s₁ h₁ => ⟨h₁.1.1, h₁.2⟩) fun _ _ x => x)
theorem CallOk.builtin {W : Wd} {id : String} : CallOk W (.builtin id) := fun A pos first trees s P E ht h =>
  Calls.callWith_builtin ht (wpAny_mono h (fun a s₁ h₁ => h₁.2) fun _ _ x => x)
theorem CallOk.type {W : Wd} {id : String} : CallOk W (.type id) := fun A pos first trees s P E ht h =>
  PyProof.Rows.callWith_type ht (wpAny_mono h (fun a s₁ h₁ => h₁.2) fun _ _ x => x)
theorem evalArgs_any {M : Model} {A : Around} {E : Value → Shared → Prop} {s : Shared} {f : Value} {trees : List (Bool × Sem Value)} {Q : Args → Shared → Prop} (ht : trees = [] ∨ ∃ x r, trees = (false, x) :: r)
    (h : wpAny M A (spliced trees) (fun vs s' => Q ⟨vs, []⟩ s') E s) : wpAny M A (evalArgs f true trees []) Q E s := by
  rcases ht with rfl | ⟨x, r, rfl⟩
  · unfold evalArgs
    show wpAny M A (spliced [] >>= _) Q E s
    refine wpAny_bind (wpAny_mono h (fun vs s' h' => ?_) fun _ _ x => x)
    refine wpAny_bind (wpAny_pure ?_)
    refine wpAny_holding ?_
    exact wpAny_bind (wpAny_pure (wpAny_bind (wpAny_pure (wpAny_pure h'))))
  · exact Calls.evalArgs_plain h
noncomputable def TreesOk (trees : List (Bool × Sem Value)) : Prop := trees.any (·.1) = false ∧ (trees = [] ∨ ∃ x r, trees = (false, x) :: r)
theorem TreesOk.nil : TreesOk [] := ⟨rfl, .inl rfl⟩
theorem TreesOk.cons {x : Sem Value} {r : List (Bool × Sem Value)} (h : TreesOk r) : TreesOk ((false, x) :: r) := ⟨by simpa using h.1, .inr ⟨x, r, rfl⟩⟩
theorem VRa.append {W : Wd} {ζ : HM} {ρ : RM} : ∀ {v v' : List V} {x x' : List Value}, VRa W ζ ρ v x → VRa W ζ ρ v' x' → VRa W ζ ρ (v ++ v') (x ++ x')
  | [], _, _, _, h, h' => by simp only [VRa] at h; subst h; exact h'
  | a :: r, _, _, _, hH, h' => by obtain ⟨y, r', e, h1, h2⟩ := hH; subst e; exact ⟨y, _, rfl, h1, h2.append h'⟩
theorem Sim_callWith {f : Value} {pos : Pos} {trees : List (Bool × Sem Value)} {ma : M (List V)} {g : List V → M V} (hok : CallOk C.W f) (ht : TreesOk trees) (hargs : SimEs C (spliced trees) ma) (hc : SimC C f g) :
    SimK C C.T (VRa C.W) (fun first => callWith pos f first trees []) (fun fv => do let vs ← ma; g (fv ++ vs)) (VR C.W) := by
  intro h₀ ζ ρ st s P E fv first ok rel rf v st' e kk
  obtain ⟨vs, s1, e1, e2⟩ := M.bind_some e
  refine hok _ _ _ _ _ _ _ ht.1 (evalArgs_any ht.2 (hargs h₀ ζ ρ st s _ E ok rel vs s1 e1 fun ζ1 ρ1 h1 tk1 ys G1 rel1 r1 => ⟨rel1.ok, ?_⟩))
  exact hc h₀ ζ1 ρ1 s1 _ P E _ _ ok rel1 ((rf.gr rel G1).append r1) v st' e2 fun ζ2 ρ2 h2 tk2 y G2 rel2 r2 => kk ζ2 ρ2 h2 tk2 y (G1.trans G2) rel2 r2
theorem Sim_CallName {x : Str} {p pos : Pos} {args : List PySem.Expr} {f : Value} {ma : M (List V)} {g : List V → M V} (hf : SimE C (eval (.Name x p) C.env) (pure (.val f))) (hok : CallOk C.W f)
    (hargs : SimEs C (spliced (backTo pos (starEach args C.env))) ma) (ht : TreesOk (backTo pos (starEach args C.env))) (hc : SimC C f g) :
    SimE C (eval (.Call (.Name x p) args [] pos) C.env) (do let vs ← ma; g vs) := by
  intro h₀ ζ ρ st s P E ok rel v st' e kk
  refine wpAny_Call_NameR (hf h₀ ζ ρ st s _ E ok rel _ _ rfl fun ζ1 ρ1 h1 tk1 y G1 rel1 r1 => ?_)
  simp only [VR] at r1
  subst r1
  exact Sim_callWith hok ht hargs hc h₀ ζ1 ρ1 st _ P E [] [] ok rel1 rfl v st' (by simpa using e) fun ζ2 ρ2 h2 tk2 y G2 rel2 r2 => kk ζ2 ρ2 h2 tk2 y (G1.trans G2) rel2 r2
noncomputable def MethAt (C : Cx) (name : Str) (f : Value) (ok : V → St → Prop) : Prop :=
  ∀ (h₀ ζ : HM) (ρ : RM) (st : St) (s : Shared) (pl : Sem Bool) (P : Value × List Value → Shared → Prop) (E : Value → Shared → Prop) (v : V) (x : Value), C.Ok → Rel C h₀ ζ ρ st s.heap → VR C.W ζ ρ v x → ok v st →
    P (f, [x]) s → wpAny (model C.W.prog C.W.w) C.A (getMethod x name pl) P E s
open Classical in
theorem Sim_CallMeth {o : PySem.Expr} {name : Str} {apos pos : Pos} {args : List PySem.Expr} {mo : M V} {ma : M (List V)} {f : Value} {g : List V → M V} {okp : V → St → Bool} (pl : Sem Bool)
    (ho : SimE C (eval o C.env) mo) (hargs : SimEs C (spliced (backTo pos (starEach args C.env))) ma) (ht : TreesOk (backTo pos (starEach args C.env))) (hm : MethAt C name f (fun v s => okp v s = true)) (hok : CallOk C.W f) (hc : SimC C f g)
    (he : eval (.Call (.Attribute o name apos) args [] pos) C.env = (do
      let ov ← eval o C.env
      standAt apos.atName
      let (f, first) ← holding [ov] (getMethod ov name pl)
      callWith pos f first (backTo pos (starEach args C.env)) []) := by rfl) :
    SimE C (eval (.Call (.Attribute o name apos) args [] pos) C.env) (do let v ← mo; (fun s => M.guard (okp v s) s); let vs ← ma; g (v :: vs)) := by
  intro h₀ ζ ρ st s P E ok rel v st' e kk
  obtain ⟨u, s1, e1, e2⟩ := M.bind_some e
  obtain ⟨_, s2, e3, e4⟩ := M.bind_some e2
  obtain ⟨hg, hs⟩ := M.guard_some e3
  cases hs
  rw [he]
  refine wpAny_bind (ho h₀ ζ ρ st s _ E ok rel u _ e1 fun ζ1 ρ1 h1 tk1 y G1 rel1 r1 => wpAny_bind (wpAny_standAt (wpAny_bind (wpAny_holding ?_))))
  refine hm h₀ ζ1 ρ1 s1 _ pl _ E u y ok rel1 r1 hg ?_
  exact Sim_callWith hok ht hargs hc h₀ ζ1 ρ1 s1 _ P E [u] [y] ok rel1 ⟨y, [], rfl, r1, rfl⟩ v st' e4 fun ζ2 ρ2 h2 tk2 z G2 rel2 r2 => kk ζ2 ρ2 h2 tk2 z (G1.trans G2) rel2 r2
noncomputable def instOf (v : V) (s : St) : Option (Addr × List (Str × V)) := match v with
  | .ref n => match s.hp n with
    | some (.inst Cl d) => match s.hp d with
      | some (.attrs kvs) => some (Cl, kvs)
      | _ => none
    | _ => none
  | _ => none
inductive InstOf (v : V) (st : St) (Cl : Addr) (kvs : List (Str × V)) : Prop
  | mk (a d : Nat) (hv : v = .ref a) (q1 : st.hp a = some (.inst Cl d)) (q2 : st.hp d = some (.attrs kvs))
theorem instOf_some {v : V} {st : St} {Cl : Addr} {kvs : List (Str × V)} (e : instOf v st = some (Cl, kvs)) : InstOf v st Cl kvs := by
  unfold instOf at e
  split at e
  · split at e
    · rename_i q1
      split at e
      · rename_i q2
        cases e
        exact ⟨_, _, rfl, q1, q2⟩
      · cases e
    · cases e
  · cases e
inductive InstIs (C : Cx) (ζ : HM) (ρ : RM) (st : St) (h : Heap) (v : V) (x : Value) (Cl : Addr) (kvs : List (Str × V)) : Prop
  | mk (a d : Nat) (dx : Addr) (es : Array DictEntry) (n : Nat) (od : Obj) (hv : v = .ref a) (q1 : st.hp a = some (.inst Cl d)) (q2 : st.hp d = some (.attrs kvs)) (h1 : ρ d = some dx) (h2 : h.get? dx = some od) (hd : od.data = .dict es n) (h3 : AttrsAre C.W ζ ρ kvs es)
      (ax : Addr) (h4 : ρ a = some ax) (hx : x = .ref ax) (hi : InstAt h ax ⟨.ref Cl, some dx, .plain, #[]⟩ Cl (some od))
theorem inst_at {h₀ ζ : HM} {ρ : RM} {st : St} {h : Heap} (rel : Rel C h₀ ζ ρ st h) {v : V} {x : Value} {Cl : Addr} {kvs : List (Str × V)} (e : instOf v st = some (Cl, kvs)) (r : VR C.W ζ ρ v x) : InstIs C ζ ρ st h v x Cl kvs := by
  obtain ⟨a, d, rfl, q1, q2⟩ := instOf_some e
  obtain ⟨dx, o, h1, h2, es, n, hdat, h3⟩ := rel.slot d _ q2
  obtain ⟨ax, o', h4, h5, _, dx', h6, rfl⟩ := rel.slot a _ q1
  rw [h1] at h6; cases h6
  simp only [VR] at r
  obtain ⟨ax', h7, rfl⟩ := r
  rw [h4] at h7; cases h7
  exact ⟨a, d, dx, es, n, o, rfl, q1, q2, h1, h2, hdat, h3, ax, h4, rfl, h5, rfl, rfl, h2⟩
theorem look_attr {W : Wd} {ζ : HM} {ρ : RM} {kvs : List (Str × V)} {es : Array DictEntry} {n : Nat} {od : Obj} (hd : od.data = .dict es n) (h : AttrsAre W ζ ρ kvs es) (x : Str) : lookIn x od = some (nsFind es x) := by
  unfold lookIn nsFind findBy
  rw [hd]
  simp only
  cases q : es.toList.find? (·.key.isStr x) with
  | some en => rw [← Array.find?_toList]; simp only [q, Option.map_some]
  | none =>
    have hr : es.toList.any (·.refKey) = false := by
      rw [List.any_eq_false]
      intro e he
      obtain ⟨nm, t, hk⟩ := h.1 e (Array.mem_toList_iff.mp he)
      simp [DictEntry.refKey, hk]
    rw [← Array.find?_toList, hr]; simp [q]
theorem MethAt.inst {Cl : Addr} {name : Str} {f : Addr} (hg : plainGet C.W.K Cl name = true) (hf : findIn C.W.K (.ref Cl) name = some (some (.ref f))) (ht : isFn C.W.K (.ref f) = true) :
    MethAt C name (.ref f) (fun v s => (match instOf v s with | some (c, kvs) => decide (c = Cl) && (kvGet kvs name).isNone | none => false) = true) := by
  intro h₀ ζ ρ st s pl P E v x ok rel r hv k
  split at hv
  · rename_i c kvs q
    simp only [Bool.and_eq_true, decide_eq_true_eq] at hv
    obtain ⟨rfl, hn⟩ := hv
    obtain ⟨a, d, dx, es, n, od, rfl, _, _, _, _, hdat, ha, ax, _, rfl, I⟩ := inst_at rel q r
    refine method_fn rel.ok.1 I (plainGet_of hg).1 (plainGet_of hg).2 hf (beq_iff_eq.mp ht) ?_ k
    have h2 := ha.2.2 name
    have hl := look_attr hdat ha name
    cases q2 : kvGet kvs name with
    | some u => rw [q2] at hn; cases hn
    | none =>
      rw [q2] at h2
      simp only at h2
      rw [h2] at hl
      show (lookIn name od).map _ = _
      rw [hl]; rfl
  · cases hv
noncomputable def AttrOk (W : Wd) (Cl : Addr) (name : Str) : Prop := plainGet W.K Cl name = true ∧ hasDictIn W.K Cl = true ∧ ∃ attr, findIn W.K (.ref Cl) name = some attr ∧ noGet W.K attr = true
noncomputable def getAC (Cl : Addr) (name : Str) (v : V) : M V := fun s => match instOf v s with
  | some (c, kvs) => if c = Cl then match kvGet kvs name with
    | some u => (match u with | .val _ => none | u => some (u, s))
    | none => none
    else none
  | none => none
theorem handed_of {W : Wd} {ζ : HM} {ρ : RM} {v : V} {x : Value} (r : VR W ζ ρ v x) (h : ∀ y, v ≠ .val y) : handedIn x = true := by
  cases v with
  | none => simp only [VR] at r; subst r; rfl
  | bool b => simp only [VR] at r; subst r; rfl
  | int b => simp only [VR] at r; obtain ⟨_, rfl⟩ := r; rfl
  | str b => simp only [VR] at r; obtain ⟨_, rfl⟩ := r; rfl
  | tup b => simp only [VR] at r; obtain ⟨_, _, _, rfl, _⟩ := r; rfl
  | lst b => simp only [VR] at r; obtain ⟨_, _, _, rfl, _⟩ := r; rfl
  | dct b => simp only [VR] at r; obtain ⟨_, _, _, _, rfl, _⟩ := r; rfl
  | ref b => simp only [VR] at r; obtain ⟨_, _, rfl⟩ := r; rfl
  | rng _ _ _ => simp only [VR] at r; obtain ⟨_, _, _, _, rfl, _⟩ := r; rfl
  | val y => exact absurd rfl (h y)
theorem getAC_K {Cl : Addr} {name : Str} {expr : Bool} (ha : AttrOk C.W Cl name) : SimK1 C (fun x => getAttr x name expr) (getAC Cl name) := by
  intro h₀ ζ ρ st s P E v x ok rel r u st' e k
  unfold getAC at e
  split at e
  · rename_i c kvs q
    split at e
    · rename_i hc
      subst hc
      split at e
      · rename_i w hw
        have hne : (∀ y, w ≠ .val y) ∧ w = u ∧ st = st' := by
          cases w <;> cases e <;> exact ⟨nofun, rfl, rfl⟩
        obtain ⟨hne, rfl, rfl⟩ := hne
        obtain ⟨a, d, dx, es, n, od, rfl, _, _, _, _, hdat, hat, ax, _, rfl, I⟩ := inst_at rel q r
        obtain ⟨h1, h2, attr, h3, h4⟩ := ha
        have h5 := hat.2.2 name
        rw [hw] at h5
        obtain ⟨_, y, h6, h7⟩ := h5
        have hl := look_attr hdat hat name
        rw [h6] at hl
        exact get_value rel.ok.1 I (plainGet_of h1).1 (findObj_own h2 h3 h4 hl) (handed_of h7 hne) (k ζ ρ s.heap _ y (Gr.refl _ _ _ _) rel h7)
      · cases e
    · cases e
  · cases e
theorem Sim_Attr {Cl : Addr} {n attr : Str} {np pos : Pos} {m : M V} (ha : AttrOk C.W Cl attr) (h : SimE C (eval (.Name n np) C.env) m) : SimE C (eval (.Attribute (.Name n np) attr pos) C.env) (m >>= getAC Cl attr) :=
  Sim.step (fun h => Attribute_name h) h (getAC_K ha) fun _ => Nat.le_refl _
end Lay
end

section
open PySem PySem.W PyProof.Rows
set_option Elab.async false
set_option linter.unusedVariables false
namespace Lay
variable {C : Cx}
noncomputable def lView (v : V) (s : St) : Option (List V) := match v with
  | .lst xs => some xs
  | .ref n => (match s.hp n with | some (.list xs) => some xs | _ => none)
  | _ => none
theorem lView_at {h₀ ζ : HM} {ρ : RM} {st : St} {h : Heap} (rel : Rel C h₀ ζ ρ st h) {v : V} {x : Value} {xs : List V} (e : lView v st = some xs) (r : VR C.W ζ ρ v x) :
    ∃ a ys, x = .ref a ∧ h.IsList a ys ∧ VRs C.W ζ ρ xs ys.toList := by
  unfold lView at e
  split at e
  · cases e
    simp only [VR] at r
    obtain ⟨a, o, ys, rfl, h1, hl, h2⟩ := r
    exact ⟨a, ys, rfl, ⟨o, rel.frozen _ _ h1, hl.cls, hl.data⟩, h2⟩
  · split at e
    · rename_i n _ xs' q
      cases e
      simp only [VR] at r
      obtain ⟨a', h1', rfl⟩ := r
      obtain ⟨a, o, h1, h2, ys, hl, h4⟩ := rel.slot n _ q
      obtain rfl : a = a' := Option.some.inj (h1.symm.trans h1')
      exact ⟨a, ys, rfl, ⟨o, h2, hl.cls, hl.data⟩, h4⟩
    · cases e
  · cases e
theorem tup_at {h₀ ζ : HM} {ρ : RM} {st : St} {h : Heap} (rel : Rel C h₀ ζ ρ st h) {x : Value} {xs : List V} (r : VR C.W ζ ρ (.tup xs) x) :
    ∃ a ys, x = .ref a ∧ IsTup h a ys ∧ VRs C.W ζ ρ xs ys.toList := by
  simp only [VR] at r
  obtain ⟨a, o, ys, rfl, h1, ⟨hc, n, hd⟩, h2⟩ := r
  exact ⟨a, ys, rfl, ⟨o, rel.frozen _ _ h1, hc, n, hd⟩, h2⟩
noncomputable def sView (v : V) (s : St) : Option (List (Str × V)) := match v with
  | .ref n => (match s.hp n with | some (.sdict kvs) => some kvs | _ => none)
  | _ => none
theorem sView_at {h₀ ζ : HM} {ρ : RM} {st : St} {h : Heap} (rel : Rel C h₀ ζ ρ st h) {v : V} {x : Value} {kvs : List (Str × V)} (e : sView v st = some kvs) (r : VR C.W ζ ρ v x) :
    ∃ n a kys, v = .ref n ∧ ρ n = some a ∧ st.hp n = some (.sdict kvs) ∧ x = .ref a ∧ (a == sysModules) = false ∧ h.DictOf (strKind C.W.prog C.W.w) a kys ∧ VRk C.W ζ ρ kvs kys := by
  unfold sView at e
  split at e
  · split at e
    · rename_i n _ kvs' q
      cases e
      simp only [VR] at r
      obtain ⟨a', h1', rfl⟩ := r
      obtain ⟨a, o, h1, h2, es, n', kys, rfl, h3, h4⟩ := rel.slot n _ q
      obtain rfl : a = a' := Option.some.inj (h1.symm.trans h1')
      refine ⟨n, a, kys, rfl, h1, q, rfl, ?_, h3.dictOf h2, h4⟩
      rw [beq_eq_false_iff_ne]; intro q; exact rel.sysr n (q ▸ h1)
    · cases e
  · cases e
noncomputable def tView (v : V) (s : St) : Option (List (List Int × V)) := match v with
  | .ref n => (match s.hp n with | some (.tdict kvs) => some kvs | _ => none)
  | _ => none
theorem tView_at {h₀ ζ : HM} {ρ : RM} {st : St} {h : Heap} (rel : Rel C h₀ ζ ρ st h) {v : V} {x : Value} {kvs : List (List Int × V)} (e : tView v st = some kvs) (r : VR C.W ζ ρ v x) :
    ∃ n a kys, v = .ref n ∧ ρ n = some a ∧ st.hp n = some (.tdict kvs) ∧ x = .ref a ∧ (a == sysModules) = false ∧ h.DictOfH (tupleKind (intKind C.W.prog C.W.w)) a kys ∧ TKeys C.W ζ ρ kvs kys := by
  unfold tView at e
  split at e
  · split at e
    · rename_i n _ kvs' q
      cases e
      obtain ⟨a, kys, rfl, h1, h2, h3, h4⟩ := tdict_at rel q r
      exact ⟨n, a, kys, rfl, h1, q, rfl, h2, h3, h4⟩
    · cases e
  · cases e
theorem isStr_self (i : Str) (t : Tok) {W : Wd} : (strKind W.prog W.w).is i (.str i t) = true := by simp [PySem.strKind, Value.isStrOf]
noncomputable def vItem (v i : V) : M V := fun s => match i with
  | .int k => (match v with
    | .tup xs => if decide (-(2 ^ 63) ≤ k) && decide (k < 2 ^ 63) then (match seqIndex? k xs.length with
      | some j => (xs[j]?).map fun u => (u, s)
      | none => none) else none
    | v => match lView v s with
      | some xs => if decide (-(2 ^ 63) ≤ k) && decide (k < 2 ^ 63) then (match seqIndex? k xs.length with
        | some j => (xs[j]?).map fun u => (u, s)
        | none => none) else none
      | none => match dView v s with
        | some kvs => (kvGet kvs k).map fun u => (u, s)
        | none => none)
  | .str x => (match sView v s with
    | some kvs => (kvGet kvs x).map fun u => (u, s)
    | none => none)
  | .tup ks => (match tView v s, intsOf ks with
    | some kvs, some l => (kvGet kvs l).map fun u => (u, s)
    | _, _ => none)
  | _ => none
theorem seqIndex_some {k : Int} {n j : Nat} (h : seqIndex? k n = some j) : (0 ≤ k ∧ k < n ∧ j = k.toNat) ∨ (k < 0 ∧ -(n : Int) ≤ k ∧ j = (k + n).toNat) := by
  unfold seqIndex? at h
  by_cases q : k < 0
  · simp only [q, if_true] at h
    split at h
    · rename_i hc
      simp only [Bool.and_eq_true, decide_eq_true_eq] at hc
      cases h
      exact .inr ⟨q, by (first | lia | omega), rfl⟩
    · cases h
  · simp only [q, if_false] at h
    split at h
    · rename_i hc
      simp only [Bool.and_eq_true, decide_eq_true_eq] at hc
      cases h
      exact .inl ⟨by (first | lia | omega), by (first | lia | omega), rfl⟩
    · cases h
theorem vItem_type {h₀ ζ : HM} {ρ : RM} {st : St} {s : Shared} (rel : Rel C h₀ ζ ρ st s.heap) {v i : V} {x : Value} {r : V × St} (e : vItem v i st = some r) (rv : VR C.W ζ ρ v x) :
    ∃ T id, s.TypeIs x T ∧ typeLookup (.type T) "__getitem__" = pure (some (.builtin id)) := by
  have L : ∀ {a ys}, s.heap.IsList a ys → s.TypeIs (.ref a) "list" := fun h => h.typeIs
  unfold vItem at e
  split at e
  · split at e
    · obtain ⟨a, ys, rfl, ⟨o, h1, h2, _⟩, _⟩ := tup_at rel rv
      exact ⟨"tuple", _, ⟨o, h1, h2⟩, PyProof.Rows.slot_tuple_getitem.lookup⟩
    · split at e
      · rename_i xs q
        obtain ⟨a, ys, rfl, h1, _⟩ := lView_at rel q rv
        exact ⟨"list", _, h1.typeIs, slot_list_getitem.lookup⟩
      · split at e
        · rename_i kvs q
          obtain ⟨a, kys, rfl, _, h1, _⟩ := dView_at rel q rv
          exact ⟨"dict", _, h1.typeIs, slot_dict_getitem.lookup⟩
        · cases e
  · split at e
    · rename_i kvs q
      obtain ⟨n, a, kys, rfl, _, _, rfl, _, h1, _⟩ := sView_at rel q rv
      exact ⟨"dict", _, h1.typeIs, slot_dict_getitem.lookup⟩
    · cases e
  · split at e
    · rename_i kvs l q _
      obtain ⟨n, a, kys, rfl, _, _, rfl, _, ⟨o, _, _, h1, h2, _⟩, _⟩ := tView_at rel q rv
      exact ⟨"dict", _, ⟨o, h1, h2.1⟩, slot_dict_getitem.lookup⟩
    · cases e
  · cases e
theorem vItem_K : SimK2 C getItem vItem (VR C.W) := by
  intro h₀ ζ ρ st s P E a b x y ok rel ra rb v st' e k
  have hu := ok.room.units
  unfold vItem at e
  split at e
  · rename_i kk
    simp only [VR] at rb
    obtain ⟨t, rfl⟩ := rb
    split at e
    · rename_i xs
      split at e
      · rename_i hb
        simp only [Bool.and_eq_true, decide_eq_true_eq] at hb
        split at e
        · rename_i j hj
          obtain ⟨u, hu', e'⟩ := Option.map_eq_some_iff.mp e
          cases e'
          obtain ⟨a, ys, rfl, h1, h2⟩ := tup_at rel ra
          obtain ⟨z, hz, _, hr⟩ := h2.get j v hu'
          have hl : ys.size = xs.length := by rw [← h2.length]; simp
          exact PyProof.Rows.getItem_tuple h1 hb.1 hb.2 (by rw [hl]; exact hj) (by simpa using hz) (k ζ ρ s.heap _ _ (Gr.refl _ _ _ _) rel hr)
        · cases e
      · cases e
    · split at e
      · rename_i xs q
        split at e
        · rename_i hb
          simp only [Bool.and_eq_true, decide_eq_true_eq] at hb
          split at e
          · rename_i j hj
            obtain ⟨u, hu', e'⟩ := Option.map_eq_some_iff.mp e
            cases e'
            obtain ⟨a, ys, rfl, h1, h2⟩ := lView_at rel q ra
            obtain ⟨z, hz, _, hr⟩ := h2.get j v hu'
            have hl : ys.size = xs.length := by rw [← h2.length]; simp
            have fin := k ζ ρ s.heap s.toks z (Gr.refl _ _ _ _) rel hr
            rcases seqIndex_some hj with ⟨q1, q2, rfl⟩ | ⟨q1, q2, rfl⟩
            · exact wpAny_getItem_list h1 q1 hb.2 (by simpa using hz) fin
            · exact wpAny_getItem_list_neg h1 q1 (by rw [hl]; exact q2) hb.1 (by rw [hl]; simpa using hz) fin
          · cases e
        · cases e
      · split at e
        · rename_i kvs q
          obtain ⟨u, hu', e'⟩ := Option.map_eq_some_iff.mp e
          cases e'
          obtain ⟨a, kys, rfl, _, h1, h2⟩ := dView_at rel q ra
          have h3 := h2.get kk
          rw [hu'] at h3
          obtain ⟨_, z, h4, h5⟩ := h3
          exact wpAny_getItem_of (isInt_self kk t) h1.mapOf h4 (k ζ ρ s.heap _ _ (Gr.refl _ _ _ _) rel h5)
        · cases e
  · rename_i x'
    simp only [VR] at rb
    obtain ⟨t, rfl⟩ := rb
    split at e
    · rename_i kvs q
      obtain ⟨u, hu', e'⟩ := Option.map_eq_some_iff.mp e
      cases e'
      obtain ⟨n, a, kys, rfl, _, _, rfl, _, h1, h2⟩ := sView_at rel q ra
      have h3 := h2.get x'
      rw [hu'] at h3
      obtain ⟨_, z, h4, h5⟩ := h3
      exact wpAny_getItem_of (isStr_self x' t) h1.mapOf h4 (k ζ ρ s.heap _ _ (Gr.refl _ _ _ _) rel h5)
    · cases e
  · split at e
    · rename_i kvs l q ql
      obtain ⟨u, hu', e'⟩ := Option.map_eq_some_iff.mp e
      cases e'
      obtain ⟨n, a, kys, rfl, _, _, rfl, _, h1, h2⟩ := tView_at rel q ra
      obtain ⟨ax, rfl, hkey, _⟩ := tup_key rel ql rb
      have h3 := h2.get l
      rw [hu'] at h3
      obtain ⟨_, z, h4, h5⟩ := h3
      exact wpAny_getItem_heap (knd := tupleKind (intKind C.W.prog C.W.w)) (by show C.A.units + 1 < cLine; (first | lia | omega)) hkey h1 h4 (k ζ ρ s.heap _ _ (Gr.refl _ _ _ _) rel h5)
    · cases e
  · cases e
theorem Sim_Subscript {value slice : PySem.Expr} {pos : Pos} {m1 m2 : M V} (h1 : SimE C (eval value C.env) m1) (h2 : SimE C (eval slice C.env) m2)
    (hs : ∀ o i, subscripted slice false o i = operate [o, i] (getItem o i) := by intro _ _; with_unfolding_all rfl) :
    SimE C (eval (.Subscript value slice pos) C.env) (do let a ← m1; let b ← m2; vItem a b) := by
  refine Sim_two (fun h => Subscript_ h) h1 h2 ?_
  intro h₀ ζ ρ st s P E a b x y ok rel ra rb v st' e k
  obtain ⟨T, id, hT, hl⟩ := vItem_type rel e ra
  exact tail_any hT hl (vItem_K h₀ ζ ρ st s P E a b x y ok rel ra rb v st' e k) (hs x y)
theorem dict_set {h₀ ζ : HM} {ρ : RM} {st : St} {h h' : Heap} {K : Type} [DecidableEq K] {knd : KeyKind C.W.prog C.W.w K} {mk : List (K × V) → O} (hmk : ∀ kvs o, (∃ es n kys, o = dctO es n ∧ Ent C.W knd es kys ∧ VRk C.W ζ ρ kvs kys) → OR C.W ζ ρ (mk kvs) o)
    (rel : Rel C h₀ ζ ρ st h) {n : Nat} {a : Addr} (hn : ρ n = some a) {kvs : List (K × V)} {kys : List (K × Value)} (hk : VRk C.W ζ ρ kvs kys) {k : K} {v : V} {y : Value} (hl : v.low = true) (hv : VR C.W ζ ρ v y)
    (hd : h'.DictOf knd a (stored kys k y)) (hs : Heap.SameBut a h h') : Rel C h₀ ζ ρ { st with hp := upd st.hp n (some (mk (kvSet kvs k v))) } h' ∧ Gr C.T h ζ ρ h' ζ ρ := by
  obtain ⟨es, m, ho, he⟩ := Ent.back hd
  exact rel.set hn hs ho (hmk _ _ ⟨es, m, _, rfl, he, hk.stored k hl hv⟩)
noncomputable def setI (v i u : V) : M Unit := fun s => match v with
  | .ref n => if u.low then (match s.hp n, i with
    | some (.idict kvs), .int k => if kvs.length < lim then some ((), { s with hp := upd s.hp n (some (.idict (kvSet kvs k u))) }) else none
    | some (.sdict kvs), .str k => if kvs.length < lim then some ((), { s with hp := upd s.hp n (some (.sdict (kvSet kvs k u))) }) else none
    | some (.tdict kvs), .tup ks => (match intsOf ks with
      | some l => if kvs.length < lim then some ((), { s with hp := upd s.hp n (some (.tdict (kvSet kvs l u))) }) else none
      | none => none)
    | _, _ => none) else none
  | _ => none
theorem TKeys.any {W : Wd} {ζ : HM} {ρ : RM} : ∀ {kvs : List (List Int × V)} {kys : List (List Int × Addr × Value)}, TKeys W ζ ρ kvs kys → kys.map (·.1) = kvs.map (·.1)
  | [], _, h => by simp only [TKeys] at h; subst h; rfl
  | (k', v) :: r, _, hH => by obtain ⟨a, y, r', ks, o, e, h0, ht, h1, hl, h2, h3⟩ := hH; subst e; simp [h3.any]
theorem TKeys.append {W : Wd} {ζ : HM} {ρ : RM} : ∀ {kvs kvs' : List (List Int × V)} {kys kys' : List (List Int × Addr × Value)}, TKeys W ζ ρ kvs kys → TKeys W ζ ρ kvs' kys' → TKeys W ζ ρ (kvs ++ kvs') (kys ++ kys')
  | [], _, _, _, h, h' => by simp only [TKeys] at h; subst h; exact h'
  | (k', v) :: r, _, _, _, hH, h' => by obtain ⟨a, y, r', ks, o, e, h0, ht, h1, hl, h2, h3⟩ := hH; subst e; exact ⟨a, y, _, ks, o, rfl, h0, ht, h1, hl, h2, h3.append h'⟩
theorem TKeys.mapSet {W : Wd} {ζ : HM} {ρ : RM} (k : List Int) {u : V} {z : Value} (hl : u.low = true) (hu : VR W ζ ρ u z) : ∀ {kvs : List (List Int × V)} {kys : List (List Int × Addr × Value)}, TKeys W ζ ρ kvs kys →
    TKeys W ζ ρ (kvs.map fun kv => if kv.1 = k then (kv.1, u) else kv) (kys.map (putAt k z))
  | [], _, h => by simp only [TKeys] at h; subst h; simp [TKeys]
  | (k', v) :: r, _, hH => by
    obtain ⟨a, y, r', ks, o, e, h0, ht, h1, hl', h2, h3⟩ := hH
    subst e
    simp only [List.map_cons]
    by_cases q : k' = k
    · simp only [q, putAt, if_true]; exact ⟨a, z, _, ks, o, rfl, h0, ht, q ▸ h1, hl, hu, TKeys.mapSet k hl hu h3⟩
    · simp only [q, putAt, if_false]; exact ⟨a, y, _, ks, o, rfl, h0, ht, h1, hl', h2, TKeys.mapSet k hl hu h3⟩
theorem TKeys.stored {W : Wd} {ζ : HM} {ρ : RM} {kvs : List (List Int × V)} {kys : List (List Int × Addr × Value)} (h : TKeys W ζ ρ kvs kys) (k : List Int) {a : Addr} {o : Obj} {ks : Array Value} (h0 : ζ a = some o) (ht : TupIs o ks) (h1 : ItemsAre (intKind W.prog W.w) k ks.toList)
    {v : V} {y : Value} (hl : v.low = true) (hv : VR W ζ ρ v y) : TKeys W ζ ρ (kvSet kvs k v) (storedH kys k a y) := by
  unfold kvSet storedH
  rw [kvGet_some_of_any, h.some_iff k]
  split
  · exact TKeys.mapSet k hl hv h
  · exact h.append ⟨a, y, [], ks, o, rfl, h0, ht, h1, hl, hv, rfl⟩
theorem TKeys.length {W : Wd} {ζ : HM} {ρ : RM} {kvs : List (List Int × V)} {kys : List (List Int × Addr × Value)} (h : TKeys W ζ ρ kvs kys) : kys.length = kvs.length := by
  have := congrArg List.length h.any; simpa using this
theorem setI_K : SimK3 C (fun v o i => setItem o i v) (fun u v i => setI v i u) := by
  intro h₀ ζ ρ st s P E u v i y x z ok rel ru rv ri a st' e k
  have hu := ok.room.units
  unfold setI at e
  dsimp only at e ⊢
  split at e
  · rename_i n
    split at e
    · rename_i hl
      split at e
      · rename_i kvs kk q
        split at e
        · rename_i hlen
          cases e
          simp only [VR] at ri
          obtain ⟨t, rfl⟩ := ri
          obtain ⟨ad, kys, rfl, hsys, hd, hk⟩ := dView_at (v := .ref n) (kvs := kvs) rel (by unfold dView; simp only [q]) rv
          simp only [VR] at rv
          obtain ⟨a', hn, e'⟩ := rv
          cases e'
          refine wpAny_setItem_pairs (isInt_self kk t) hd (fun h' hd' hs => ?_) (by have := hk.length; have := lim_le (n := kys.length) (by (first | lia | omega)); (first | lia | omega))
          obtain ⟨R', G'⟩ := dict_set (mk := .idict) (fun _ _ h => h) rel hn hk hl ru hd' hs
          exact k _ _ _ _ G' R'
        · cases e
      · rename_i kvs kk q
        split at e
        · rename_i hlen
          cases e
          simp only [VR] at ri
          obtain ⟨t, rfl⟩ := ri
          obtain ⟨n', ad, kys, e1, hn, q', rfl, hsys, hd, hk⟩ := sView_at (v := .ref n) (kvs := kvs) rel (by unfold sView; simp only [q]) rv
          cases e1
          refine wpAny_setItem_pairs (isStr_self kk t) hd (fun h' hd' hs => ?_) (by have := hk.length; have := lim_le (n := kys.length) (by (first | lia | omega)); (first | lia | omega))
          obtain ⟨R', G'⟩ := dict_set (mk := .sdict) (fun _ _ h => h) rel hn hk hl ru hd' hs
          exact k _ _ _ _ G' R'
        · cases e
      · rename_i kvs ks q
        split at e
        · rename_i l ql
          split at e
          · rename_i hlen
            cases e
            obtain ⟨n', ad, kys, e1, hn, q', rfl, hsys, hd, hk⟩ := tView_at (v := .ref n) (kvs := kvs) rel (by unfold tView; simp only [q]) rv
            cases e1
            obtain ⟨ax, rfl, hkey, o, kz, h0, ht, h1⟩ := tup_key rel ql ri
            refine wpAny_setItem_heap (knd := tupleKind (intKind C.W.prog C.W.w)) (by show C.A.units + 1 < cLine; (first | lia | omega)) hkey hd (fun h' hd' hs => ?_) (by have := hk.length; have := lim_le (n := kys.length) (by (first | lia | omega)); (first | lia | omega))
            obtain ⟨o', es, ep, ho, ⟨x1, x2, x3⟩, hdat, hes, _, hnd⟩ := hd'
            obtain ⟨R', G'⟩ := rel.set hn hs ho (O := .tdict (kvSet kvs l u)) ⟨es, ep, _, by
              obtain ⟨c, d, dt, sl⟩ := o'
              simp only at x1 x2 x3 hdat
              subst x1 x2 x3 hdat
              rfl, hes, hnd, hk.stored l h0 ht h1 hl ru⟩
            exact k _ _ _ _ G' R'
          · cases e
        · cases e
      · cases e
    · cases e
  · cases e
theorem Sim_AssignSub {o i : PySem.Expr} {pos' pos : Pos} {value : PySem.Expr} {m mo mi : M V} (h : SimE C (eval value C.env) m) (ho : SimE C (eval o C.env) mo) (hi : SimE C (eval i C.env) mi) (hs : swapsWith value (some (.Subscript o i pos')) pos.line C.env = pure false := by rfl) :
    SimF C (exec (.Assign [.Subscript o i pos'] value pos) C.env) (do let u ← m; let v ← mo; let k ← mi; setI v k u; pure .next) := by
  intro h₀ ζ ρ st s P E ok rel a st' e k
  obtain ⟨u, s1, e1, e⟩ := M.bind_some e
  obtain ⟨v, s2, e2, e⟩ := M.bind_some e
  obtain ⟨i', s3, e3, e⟩ := M.bind_some e
  obtain ⟨x', s4, e4, e5⟩ := M.bind_some e
  cases e5
  refine wpAny_Assign_Subscript (h h₀ ζ ρ st s _ E ok rel u s1 e1 fun ζ1 ρ1 h1 tk1 y G1 rel1 r1 => ?_) hs
  refine ho h₀ ζ1 ρ1 s1 _ _ E ok rel1 v s2 e2 fun ζ2 ρ2 h2 tk2 x G2 rel2 r2 => ?_
  refine hi h₀ ζ2 ρ2 s2 _ _ E ok rel2 i' s3 e3 fun ζ3 ρ3 h3 tk3 z G3 rel3 r3 => ?_
  exact setI_K h₀ ζ3 ρ3 s3 _ _ E u v i' y x z ok rel3 (VR.gr rel2 G3 (VR.gr rel1 G2 r1)) (VR.gr rel2 G3 r2) r3 _ _ e4 fun ζ4 ρ4 h4 tk4 G4 rel4 => k ζ4 ρ4 h4 tk4 _ ((((G1.trans G2).trans G3).trans G4).weak ok.bt) rel4 rfl
end Lay
end

section
open PySem PySem.W PyProof.Rows
set_option Elab.async false
set_option linter.unusedVariables false
namespace Lay
variable {C : Cx}
noncomputable def M.whileN (mt : M Bool) (mb : M Fl) : Nat → M Fl
  | 0 => M.fail
  | n + 1 => do
    let b ← mt
    if b then do
      let f ← mb
      match f with
      | .next => M.whileN mt mb n
      | .cont => M.whileN mt mb n
      | .brk => pure .next
      | .ret v => pure (.ret v)
    else pure .next
open Classical in
noncomputable def M.whileW (mt : M Bool) (mb : M Fl) : M Fl := fun s =>
  if h : ∃ n r, M.whileN mt mb n s = some r then some (choose (choose_spec h)) else none
theorem M.whileW_some {mt : M Bool} {mb : M Fl} {s : St} {r} (h : M.whileW mt mb s = some r) : ∃ n, M.whileN mt mb n s = some r := by
  unfold M.whileW at h
  split at h
  · rename_i h'
    refine ⟨Classical.choose h', ?_⟩
    rw [Classical.choose_spec (Classical.choose_spec h')]; exact h
  · cases h
inductive WhI (C : Cx) (h₀ ζ : HM) (ρ : RM) (s : Shared) (mt : M Bool) (mb : M Fl) (r : Fl × St) (n : Nat) (s' : Shared) : Prop
  | mk (ζ1 : HM) (ρ1 : RM) (st1 : St) (h1 : Heap) (tk1 : Tok) (e : s' = { s with heap := h1, toks := tk1 }) (G : Gr C.B s.heap ζ ρ h1 ζ1 ρ1) (rel : Rel C h₀ ζ1 ρ1 st1 h1) (e1 : M.whileN mt mb n st1 = some r)
theorem Sim_While {test : PySem.Expr} {body : List Stmt} {pos : Pos} {mt : M Bool} {mb : M Fl} (ht : SimB C (isTrue test C.env (eval test C.env)) mt) (hb : SimF C (execs body C.env) mb) :
    SimF C (exec (.While test body [] pos) C.env) (M.whileW mt mb) := by
  intro h₀ ζ ρ st s P E ok rel a st' e k
  obtain ⟨n, e⟩ := M.whileW_some e
  refine wpAny_While (codeAny_whileLoop (WhI C h₀ ζ ρ s mt mb (a, st')) (fun n s' hI => ?_) n ⟨ζ, ρ, st, s.heap, s.toks, rfl, Gr.refl _ _ _ _, rel, e⟩)
  obtain ⟨ζ1, ρ1, st1, h1, tk1, rfl, G1, rel1, e1⟩ := hI
  cases n with
  | zero => cases e1
  | succ n =>
    obtain ⟨b, s2, e2, e3⟩ := M.bind_some e1
    refine ht h₀ ζ1 ρ1 st1 _ _ _ ok rel1 b s2 e2 fun ζ2 ρ2 h2 tk2 b' G2 rel2 r2 => ?_
    cases r2
    have G2' := G1.trans (G2.weak ok.bt)
    cases b with
    | false =>
      cases e3
      exact wpAny_execs_nil (k ζ2 ρ2 h2 tk2 _ G2' rel2 rfl)
    | true =>
      simp only [if_true] at e3 ⊢
      obtain ⟨f, s3, e4, e5⟩ := M.bind_some e3
      refine hb h₀ ζ2 ρ2 s2 _ _ _ ok rel2 f s3 e4 fun ζ3 ρ3 h3 tk3 b3 G3 rel3 r3 => ?_
      have G3' := G2'.trans G3
      cases f with
      | next => cases r3; exact ⟨n, Nat.lt_succ_self n, ζ3, ρ3, s3, h3, tk3, rfl, G3', rel3, e5⟩
      | cont => cases r3; exact ⟨n, Nat.lt_succ_self n, ζ3, ρ3, s3, h3, tk3, rfl, G3', rel3, e5⟩
      | brk => cases r3; cases e5; exact k ζ3 ρ3 h3 tk3 _ G3' rel3 rfl
      | ret v => obtain ⟨y, rfl, hy⟩ := r3; cases e5; exact k ζ3 ρ3 h3 tk3 _ G3' rel3 ⟨y, rfl, hy⟩
theorem Rel.addK {h₀ ζ : HM} {ρ : RM} {st : St} {h : Heap} (R : Rel C h₀ ζ ρ st h) {I : Addr} {o : Obj} (hI : h.get? I = some o) (off : ζ I = none ∧ h₀ I = none ∧ ∀ n, ρ n ≠ some I) (hp : ∀ i pl, C.pl i = some pl → pl.addr ≠ I) : Rel C (upd h₀ I (some o)) ζ ρ st h := by
  have le : Le h₀ (upd h₀ I (some o)) := upd_le off.2.1
  refine ⟨⟨R.ok, fun a o' e => ?_, R.frozen, R.fcls, R.slot, R.dom, R.inj, R.offz, fun n a e => ?_, fun h' q => R.good h' (le.trans q), R.sysr, R.sysz⟩, R.fresh, R.mid, R.var, R.plok, fun i pl e => ⟨(R.ploff i pl e).1, ?_, (R.ploff i pl e).2.2⟩, R.plinj⟩
  · by_cases q : a = I
    · subst q; rw [upd_same] at e; cases e; exact hI
    · rw [upd_ne _ _ q] at e; exact R.kept a o' e
  · have : a ≠ I := fun q => off.2.2 n (q ▸ e)
    rw [upd_ne _ _ this]; exact R.offk n a e
  · rw [upd_ne _ _ (hp i pl e)]; exact (R.ploff i pl e).2.1
theorem Rel.dropK {h₀ h₁ ζ : HM} {ρ : RM} {st : St} {h : Heap} (R : Rel C h₁ ζ ρ st h) (le : Le h₀ h₁) (good : ∀ h' : Heap, Le h₀ h'.get? → C.W.Ok h') : Rel C h₀ ζ ρ st h := by
  have dn : ∀ a, h₁ a = none → h₀ a = none := fun a e => by
    cases q : h₀ a with
    | none => rfl
    | some o => rw [le a o q] at e; cases e
  exact ⟨⟨R.ok, le.trans R.kept, R.frozen, R.fcls, R.slot, R.dom, R.inj, R.offz, fun n a e => dn a (R.offk n a e), good, R.sysr, R.sysz⟩, R.fresh, R.mid, R.var, R.plok, fun i pl e => ⟨(R.ploff i pl e).1, dn _ (R.ploff i pl e).2.1, (R.ploff i pl e).2.2⟩, R.plinj⟩
structure Off (C : Cx) (h₀ ζ : HM) (ρ : RM) (I : Addr) : Prop where
  z : ζ I = none
  k : h₀ I = none
  r : ∀ n, ρ n ≠ some I
  p : ∀ i pl, C.pl i = some pl → pl.addr ≠ I
theorem Rel.offNew {h₀ ζ : HM} {ρ : RM} {st : St} {h : Heap} (R : Rel C h₀ ζ ρ st h) {a : Addr} (ha : h.get? a = none) : Off C h₀ ζ ρ a :=
  let ⟨⟨a1, a2, a3⟩, a4⟩ := R.newOff ha; ⟨a1, a2, a3, a4⟩
theorem Off.gr {h₀ ζ ζ' : HM} {ρ ρ' : RM} {I : Addr} {B : Nat} {h h' : Heap} (x : Off C h₀ ζ ρ I) (G : Gr B h ζ ρ h' ζ' ρ') (hI : h.get? I ≠ none) : Off C h₀ ζ' ρ' I where
  z := by
    cases q : ζ' I with
    | none => rfl
    | some o => rcases G.zn _ _ q with q | q
                · rw [x.z] at q; cases q
                · exact absurd q hI
  k := x.k
  r := fun n q => by
    rcases G.rn _ _ q with q | q
    · exact x.r n q
    · exact absurd q hI
  p := x.p
structure Src (C : Cx) (v : V) (items : St → Option (List V)) (J : Value → Nat → Obj → Prop) : Prop where
  start : ∀ (h₀ ζ : HM) (ρ : RM) (st : St) (s : Shared) (P : Value → Shared → Prop) (E : Value → Shared → Prop) (x : Value) (xs : List V), C.Ok → Rel C h₀ ζ ρ st s.heap → VR C.W ζ ρ v x → items st = some xs →
    (∀ o, J x 0 o → o.isFreed = false → P (.ref s.heap.objs.size) { s with heap := s.heap.push o }) → wpAny (model C.W.prog C.W.w) C.A (pyIter x) P E s
  next : ∀ (h₀ ζ : HM) (ρ : RM) (st : St) (s : Shared) (P : Option Value → Shared → Prop) (E : Value → Shared → Prop) (x : Value) (xs : List V) (I : Addr) (i : Nat) (o : Obj), C.Ok → Rel C h₀ ζ ρ st s.heap → VR C.W ζ ρ v x → items st = some xs →
    s.heap.get? I = some o → J x i o → Off C h₀ ζ ρ I →
    (∀ u y h' o' tk, xs[i]? = some u → VR C.W ζ ρ u y → Heap.SameBut I s.heap h' → h'.get? I = some o' → J x (i + 1) o' → P (some y) { s with heap := h', toks := tk }) →
    (xs[i]? = none → ∀ h', Heap.ExtBut I s.heap h' → P none { s with heap := h' }) → wpAny (model C.W.prog C.W.w) C.A (pyNext (.ref I)) P E s
  lot : ∀ (target : PySem.Expr) (s : Shared) (P : Unit → Shared → Prop) (E : Value → Shared → Prop) (x : Value) (I : Addr) (i : Nat) (o : Obj) (y : Value), s.heap.get? I = some o → J x i o → P () s →
    wpAny (model C.W.prog C.W.w) C.A (letOwnedTupleGo target (.ref I) y) P E s
  self : ∀ (s : Shared) (P : Value → Shared → Prop) (E : Value → Shared → Prop) (x : Value) (I : Addr) (i : Nat) (o : Obj), s.heap.get? I = some o → J x i o → P (.ref I) s → wpAny (model C.W.prog C.W.w) C.A (pyIter (.ref I)) P E s
noncomputable def isLotType (n : String) : Bool := ["enumerate", "zip", "dict_itemiterator", "dict_reverseitemiterator", "odict_iterator", "itertools.zip_longest", "itertools.pairwise"].contains n
theorem lot_plain {M' : Model} {A : Around} {target : PySem.Expr} {s : Shared} {P : Unit → Shared → Prop} {E : Value → Shared → Prop} {I : Addr} {o : Obj} {y : Value} {n : String} (ho : s.heap.get? I = some o) (hc : o.cls = .type n) (hn : isLotType n = false) (h : P () s) :
    wpAny M' A (letOwnedTupleGo target (.ref I) y) P E s := by
  unfold letOwnedTupleGo
  split
  · cases y with
    | ref a =>
      refine wpAny_bind (wpAny_load ho ?_)
      rw [hc]
      split
      · rename_i n' vs e1 e2
        cases e1
        have hn' : ((["enumerate", "zip", "dict_itemiterator", "dict_reverseitemiterator", "odict_iterator", "itertools.zip_longest", "itertools.pairwise"] : List String).contains n) = false := hn
        simp only [hn', Bool.false_and, Bool.false_eq_true, if_false]
        exact wpAny_pure h
      · exact wpAny_pure h
    | _ => exact wpAny_pure h
  · cases y with
    | ref a =>
      refine wpAny_bind (wpAny_load ho ?_)
      rw [hc]
      split
      · rename_i n' vs e1 e2
        cases e1
        have hn' : ((["enumerate", "zip", "dict_itemiterator", "dict_reverseitemiterator", "odict_iterator", "itertools.zip_longest", "itertools.pairwise"] : List String).contains n) = false := hn
        simp only [hn', Bool.false_and, Bool.false_eq_true, if_false]
        exact wpAny_pure h
      · exact wpAny_pure h
    | _ => exact wpAny_pure h
  · exact wpAny_pure h
noncomputable def JList (x : Value) (i : Nat) (o : Obj) : Prop := ∃ l, x = .ref l ∧ o.cls = .type "list_iterator" ∧ o.data = .fields #[.ref l, .int i 0]
theorem Src.list {v : V} : Src C v (lView v) JList where
  start := fun h₀ ζ ρ st s P E x xs ok rel r e k => by
    obtain ⟨a, ys, rfl, h1, _⟩ := lView_at rel e r
    exact wpAny_pyIter_list h1 (k _ ⟨a, rfl, rfl, rfl⟩ rfl)
  next := fun h₀ ζ ρ st s P E x xs I i o ok rel r e ho hj off k1 k2 => by
    obtain ⟨a, ys, rfl, h1, h2⟩ := lView_at rel e r
    obtain ⟨l, e1, hc, hd⟩ := hj
    cases e1
    cases q : xs[i]? with
    | some u =>
      obtain ⟨y, hy, _, hr⟩ := h2.get i u q
      refine wpAny_pyNext_list_item ⟨o, ho, hc, hd⟩ h1 (by simpa using hy) fun h' hit hs => ?_
      obtain ⟨o', ho', hc', hd'⟩ := hit
      exact k1 u y h' o' s.toks q hr hs ho' ⟨_, rfl, hc', hd'⟩
    | none =>
      refine wpAny_pyNext_list_end ok.room.handled ⟨o, ho, hc, hd⟩ h1 ?_ fun h' hs => k2 q h' hs
      have hl : ys.size = xs.length := by rw [← h2.length]; simp
      rw [List.getElem?_eq_none_iff] at q
      simp; (first | lia | omega)
  lot := fun target s P E x I i o y ho ⟨l, _, hc, _⟩ h => lot_plain ho hc rfl h
  self := fun s P E x I i o ho ⟨l, _, hc, hd⟩ h => wpAny_pyIter_listiter ⟨o, ho, hc, hd⟩ h
noncomputable def tView' (v : V) : Option (List V) := match v with
  | .tup xs => some xs
  | _ => none
noncomputable def JTup (x : Value) (i : Nat) (o : Obj) : Prop := ∃ l, x = .ref l ∧ o.cls = .type "tuple_iterator" ∧ o.data = .fields #[.ref l, .int i 0]
theorem Src.tuple {v : V} : Src C v (fun _ => tView' v) JTup where
  start := fun h₀ ζ ρ st s P E x xs ok rel r e k => by
    unfold tView' at e
    split at e
    · cases e
      obtain ⟨a, ys, rfl, h1, _⟩ := tup_at rel r
      exact wpAny_pyIter_tuple h1 (k _ ⟨a, rfl, rfl, rfl⟩ rfl)
    · cases e
  next := fun h₀ ζ ρ st s P E x xs I i o ok rel r e ho hj off k1 k2 => by
    unfold tView' at e
    split at e
    · cases e
      obtain ⟨a, ys, rfl, h1, h2⟩ := tup_at rel r
      obtain ⟨l, e1, hc, hd⟩ := hj
      cases e1
      cases q : xs[i]? with
      | some u =>
        obtain ⟨y, hy, _, hr⟩ := h2.get i u q
        refine wpAny_pyNext_tuple_item ⟨o, ho, hc, hd⟩ h1 (by simpa using hy) fun h' hit hs => ?_
        obtain ⟨o', ho', hc', hd'⟩ := hit
        exact k1 u y h' o' s.toks q hr hs ho' ⟨_, rfl, hc', hd'⟩
      | none =>
        refine wpAny_pyNext_tuple_end ok.room.handled ⟨o, ho, hc, hd⟩ h1 ?_ fun h' hs => k2 q h' hs
        have hl : ys.size = xs.length := by rw [← h2.length]; simp
        rw [List.getElem?_eq_none_iff] at q
        simp; (first | lia | omega)
    · cases e
  lot := fun target s P E x I i o y ho ⟨l, _, hc, _⟩ h => lot_plain ho hc rfl h
  self := fun s P E x I i o ho ⟨l, _, hc, hd⟩ h => wpAny_pyIter_tupleiter ⟨o, ho, hc, hd⟩ h
noncomputable def rngItems (a b c : Int) : List V := (List.range (Builtin.Range.rangeSize a b c).toNat).map fun (i : Nat) => V.int (a + (i : Int) * c)
noncomputable def rView (v : V) : Option (List V) := match v with
  | .rng a b c => if Builtin.Range.small a b c then some (rngItems a b c) else none
  | _ => none
noncomputable def JRng (a b c : Int) (i : Nat) (o : Obj) : Prop := o = { cls := .type "range_iterator", data := .fields #[rawInt (a + i * c), rawInt (Builtin.Range.rangeSize a b c - i), rawInt c] }
theorem rangeSize_nonneg (a b c : Int) : 0 ≤ Builtin.Range.rangeSize a b c := by
  unfold Builtin.Range.rangeSize
  split
  · split
    · rename_i h1 h2
      have := Int.ediv_nonneg (a := b - a - 1) (b := c) (by (first | lia | omega)) (by (first | lia | omega))
      (first | lia | omega)
    · exact Int.le_refl _
  · split
    · rename_i h1 h2
      have h3 : 0 ≤ (a - b - 1) / (-c) := by
        by_cases h0 : c = 0
        · subst h0; simp
        · exact Int.ediv_nonneg (by (first | lia | omega)) (by (first | lia | omega))
      (first | lia | omega)
    · exact Int.le_refl _
theorem Src.range {a b c : Int} : Src C (.rng a b c) (fun _ => rView (.rng a b c)) (fun _ => JRng a b c) where
  start := fun h₀ ζ ρ st s P E x xs ok rel r e k => by
    unfold rView at e
    dsimp only at e
    split at e
    · rename_i hs
      cases e
      simp only [VR] at r
      obtain ⟨ad, t, u, w, rfl, h1⟩ := r
      have hj : JRng a b c (0 : Nat) { cls := .type "range_iterator", data := .fields #[rawInt a, rawInt (Builtin.Range.rangeSize a b c), rawInt c] } := by
        unfold JRng; simp
      exact wpAny_pyIter_range (t := t) (u := u) (v := w) (a := a) (b := b) (c := c) (rel.frozen _ _ h1) hs (k _ hj rfl)
    · cases e
  next := fun h₀ ζ ρ st s P E x xs I i o ok rel r e ho hj off k1 k2 => by
    unfold rView at e
    dsimp only at e
    split at e
    · rename_i hs
      cases e
      unfold JRng at hj
      subst hj
      have hnn := rangeSize_nonneg a b c
      by_cases q : (i : Int) < Builtin.Range.rangeSize a b c
      · refine wpAny_pyNext_range_item ho (by (first | lia | omega)) fun h' hit hs' => ?_
        refine k1 (.int (a + i * c)) _ h' _ _ ?_ (by simp only [VR]; exact ⟨_, rfl⟩) hs' hit ?_
        · unfold rngItems
          rw [List.getElem?_map, List.getElem?_range (by (first | lia | omega))]; rfl
        · have e1 : a + ((i + 1 : Nat) : Int) * c = a + (i : Int) * c + c := by rw [Int.natCast_succ, Int.add_mul]; (first | lia | omega)
          have e2 : Builtin.Range.rangeSize a b c - ((i + 1 : Nat) : Int) = Builtin.Range.rangeSize a b c - (i : Int) - 1 := by (first | lia | omega)
          unfold JRng
          rw [e1, e2]
      · refine wpAny_pyNext_range_end ok.room.handled ho (by (first | lia | omega)) fun h' hs' => k2 ?_ h' hs'
        rw [List.getElem?_eq_none_iff]
        unfold rngItems
        simp; (first | lia | omega)
    · cases e
  lot := fun target s P E x I i o y ho hj h => by
    unfold JRng at hj
    subst hj
    exact lot_plain ho rfl rfl h
  self := fun s P E x I i o ho hj h => by
    unfold JRng at hj
    subst hj
    exact wpAny_pyIter_rangeiter ho h
noncomputable def seqItems (v : V) (st : St) : Option (List V) := match v with
  | .tup xs => some xs
  | .rng a b c => rView (.rng a b c)
  | v => lView v st
noncomputable def JSeq (v : V) (x : Value) (i : Nat) (o : Obj) : Prop := match v with
  | .tup _ => JTup x i o
  | .rng a b c => JRng a b c i o
  | _ => JList x i o
theorem Src.seq (v : V) : Src C v (seqItems v) (JSeq v) := by
  cases v with
  | tup xs => exact Src.tuple
  | rng a b c => exact Src.range
  | none => exact Src.list
  | bool _ => exact Src.list
  | int _ => exact Src.list
  | str _ => exact Src.list
  | lst _ => exact Src.list
  | dct _ => exact Src.list
  | ref _ => exact Src.list
  | val _ => exact Src.list
noncomputable def V.stays (B : Nat) : V → Bool
  | .ref n => decide (n < B)
  | _ => true
theorem VR.stay {h₀ ζ ζ' : HM} {ρ ρ' : RM} {st : St} {h h' : Heap} {v : V} {x : Value} (hs : v.stays C.B = true) (b100 : 100 ≤ C.B) (G : Gr C.B h ζ ρ h' ζ' ρ') (r : VR C.W ζ ρ v x) : VR C.W ζ' ρ' v x := by
  cases v with
  | ref n =>
    simp only [V.stays, decide_eq_true_eq] at hs
    simp only [VR] at r ⊢
    obtain ⟨a, h1, h2⟩ := r
    exact ⟨a, G.rl n a hs h1, h2⟩
  | _ => exact VR.lowMono G.zl (fun n a q e => G.rl n a (Nat.lt_of_lt_of_le q b100) e) _ _ rfl r
noncomputable def M.forN (items : St → Option (List V)) (bind : V → M Unit) (body : M Fl) : Nat → Nat → M Fl
  | 0, _ => M.fail
  | f + 1, i => fun s => match items s with
    | none => none
    | some xs => match xs[i]? with
      | none => some (.next, s)
      | some x => (do
        bind x
        let fl ← body
        match fl with
        | .next => M.forN items bind body f (i + 1)
        | .cont => M.forN items bind body f (i + 1)
        | .brk => pure .next
        | .ret v => pure (.ret v) : M Fl) s
noncomputable def M.forS (v : V) (bind : V → M Unit) (body : M Fl) : M Fl := fun s => match seqItems v s with
  | none => none
  | some xs => M.forN (seqItems v) bind body (xs.length + 1) 0 s
noncomputable abbrev SimA (C : Cx) (target : PySem.Expr) (bind : V → M Unit) : Prop := SimK C C.T (VR C.W) (fun y => assign target C.env y) bind (fun _ _ _ _ => True)
theorem SimA.name {x : Str} {i : Nat} {pos : Pos} (h : SimSt C x i) : SimA C (.Name x pos) (fun v => M.setL i v) := by
  intro h₀ ζ ρ st s P E v y ok rel r a st' e k
  exact wpAny_assign_Name (h h₀ ζ ρ st s P E v y ok rel r a st' e k)
theorem same_off {I : Addr} {h h' : Heap} (hs : Heap.SameBut I h h') (b : Addr) (o : Obj) (hb : ¬ b = I) (e : h.get? b = some o) : h'.get? b = some o := (hs.2 b hb).trans e
inductive ForI (C : Cx) (h₀ ζ : HM) (ρ : RM) (s : Shared) (v : V) (x : Value) (I : Addr) (bind : V → M Unit) (mb : M Fl) (r : Fl × St) (n : Nat) (s' : Shared) : Prop
  | mk (ζ2 : HM) (ρ2 : RM) (st2 : St) (h2 : Heap) (tk2 : Tok) (i : Nat) (o : Obj) (e : s' = { s with heap := h2, toks := tk2 }) (G : Gr C.B s.heap ζ ρ h2 ζ2 ρ2) (rel : Rel C h₀ ζ2 ρ2 st2 h2) (rv : VR C.W ζ2 ρ2 v x) (ho : h2.get? I = some o) (hj : JSeq v x i o) (off : Off C h₀ ζ2 ρ2 I) (e1 : M.forN (seqItems v) bind mb n i st2 = some r)
theorem Sim_For {target iter : PySem.Expr} {body : List Stmt} {pos : Pos} {mi : M V} {bind : V → M Unit} {mb : M Fl} (hi : SimE C (eval iter C.env) mi) (ha : SimA C target bind) (hb : SimF C (execs body C.env) mb)
    (hs : ∀ x, foldedSetIterable iter C.env x = pure x := by intro _; rfl) :
    SimF C (exec (.For target iter body [] pos) C.env) (do let v ← mi; M.guard (v.stays C.B); M.forS v bind mb) := by
  intro h₀ ζ ρ st s P E ok rel a st' e k
  obtain ⟨v, s1, e1, e⟩ := M.bind_some e
  obtain ⟨_, s2, e2, e3⟩ := M.bind_some e
  obtain ⟨hst, hs2⟩ := M.guard_some e2
  cases hs2
  unfold M.forS at e3
  split at e3
  · cases e3
  · rename_i xs0 hx0
    refine wpAny_For (hi h₀ ζ ρ st s _ E ok rel v s1 e1 fun ζ1 ρ1 h1 tk1 x G1 rel1 r1 => ?_) hs
    refine (Src.seq v).start h₀ ζ1 ρ1 s1 _ _ _ x xs0 ok rel1 r1 hx0 fun o0 hj0 hf0 => ?_
    have hget0 : (h1.push o0).get? h1.objs.size = some o0 := Heap.get?_push_size h1 hf0
    have off0 := rel1.offNew (get_size h1)
    refine codeAny_forLoop_any (ForI C h₀ ζ ρ s v x h1.objs.size bind mb (a, st')) (fun n s' hI => ?_) (xs0.length + 1) ⟨ζ1, ρ1, s1, h1.push o0, tk1, 0, o0, rfl, (G1.weak ok.bt).trans (Gr.push _ _), rel1.push o0, r1, hget0, hj0, off0, e3⟩
    obtain ⟨ζ2, ρ2, st2, h2, tk2, i, o, rfl, G2, rel2, r2, ho, hj, off, e4⟩ := hI
    cases n with
    | zero => cases e4
    | succ n =>
      unfold M.forN at e4
      cases hx : seqItems v st2 with
      | none => rw [hx] at e4; cases e4
      | some xs =>
        rw [hx] at e4
        dsimp only at e4
        refine (Src.seq v).next h₀ ζ2 ρ2 st2 _ _ _ x xs h1.objs.size i o ok rel2 r2 hx ho hj off (fun u y h3 o3 tk3 hu hr hs3 ho3 hj3 => ?_) (fun hn h3 hs3 => ?_)
        · rw [hu] at e4
          dsimp only at e4
          refine (Src.seq v).lot target _ _ _ x h1.objs.size (i + 1) o3 y ho3 hj3 ?_
          have rel3 : Rel C h₀ ζ2 ρ2 st2 h3 := rel2.off (· = h1.objs.size) (fun b o hb e => same_off hs3 b o hb e) (fun b q => q ▸ ⟨off.z, off.k, off.r⟩) off.p
          have G3 : Gr C.B s.heap ζ ρ h3 ζ2 ρ2 := G2.trans (Gr.heap fun b q => by
            by_cases q' : b = h1.objs.size
            · subst q'; rw [ho3]; exact nofun
            · rw [hs3.2 b q']; exact q)
          have rel4 := rel3.addK ho3 ⟨off.z, off.k, off.r⟩ off.p
          obtain ⟨_, s5, e5, e6⟩ := M.bind_some e4
          obtain ⟨fl, s6, e7, e8⟩ := M.bind_some e6
          refine ha _ ζ2 ρ2 st2 _ _ _ u y ok rel4 hr () s5 e5 fun ζ5 ρ5 h5 tk5 _ G5 rel5 _ => ?_
          refine hb _ ζ5 ρ5 s5 _ _ _ ok rel5 fl s6 e7 fun ζ6 ρ6 h6 tk6 b6 G6 rel6 r6 => ?_
          have G56 : Gr C.B h3 ζ2 ρ2 h6 ζ6 ρ6 := (G5.weak ok.bt).trans G6
          have G6' := G3.trans G56
          have rel6' : Rel C h₀ ζ6 ρ6 s6 h6 := rel6.dropK (upd_le off.k) rel.good
          have ho6 : h6.get? h1.objs.size = some o3 := rel6.kept _ _ (upd_same _ _ _)
          have off6 : Off C h₀ ζ6 ρ6 h1.objs.size := Off.gr off G56 (by rw [ho3]; exact nofun)
          have r6' : VR C.W ζ6 ρ6 v x := VR.stay (h₀ := h₀) (st := s6) hst ok.b100 G56 r2
          cases fl with
          | next => cases r6; exact ⟨n, Nat.lt_succ_self n, ζ6, ρ6, s6, h6, tk6, i + 1, o3, rfl, G6', rel6', r6', ho6, hj3, off6, e8⟩
          | cont => cases r6; exact ⟨n, Nat.lt_succ_self n, ζ6, ρ6, s6, h6, tk6, i + 1, o3, rfl, G6', rel6', r6', ho6, hj3, off6, e8⟩
          | brk => cases r6; cases e8; exact k ζ6 ρ6 h6 tk6 _ G6' rel6' rfl
          | ret w => obtain ⟨z, rfl, hz⟩ := r6; cases e8; exact k ζ6 ρ6 h6 tk6 _ G6' rel6' ⟨z, rfl, hz⟩
        · rw [hn] at e4
          cases e4
          have rel3 : Rel C h₀ ζ2 ρ2 st' h3 := rel2.off (· = h1.objs.size) (fun b o hb e => hs3 b o hb e) (fun b q => q ▸ ⟨off.z, off.k, off.r⟩) off.p
          have G3 : Gr C.B s.heap ζ ρ h3 ζ2 ρ2 := ⟨G2.zl, G2.rl, G2.zn, G2.rn, fun b q => by
            have q1 : b ≠ h1.objs.size := fun q' => G1.dm b q (q' ▸ get_size h1)
            cases q2 : h2.get? b with
            | none => exact absurd q2 (G2.dm b q)
            | some o' => rw [hs3 b o' q1 q2]; exact nofun⟩
          exact wpAny_execs_nil (k ζ2 ρ2 h3 tk2 _ G3 rel3 rfl)
end Lay
end

section
open PySem PySem.W PyProof.Rows
set_option Elab.async false
set_option linter.unusedVariables false
namespace Lay
variable {C : Cx}
noncomputable def M.delL (i : Nat) : M Unit := fun s => some ((), { s with loc := upd s.loc i none })
noncomputable def M.compN (items : St → Option (List V)) (bind : V → M Unit) (test : M Bool) (elt : M V) : Nat → Nat → List V → M (List V)
  | 0, _, _ => M.fail
  | f + 1, i, acc => fun s => match items s with
    | none => none
    | some xs => match xs[i]? with
      | none => some (acc, s)
      | some x => (do
        bind x
        let b ← test
        if b then do
          let y ← elt
          M.guard (y.low && decide (acc.length < lim))
          M.compN items bind test elt f (i + 1) (acc ++ [y])
        else M.compN items bind test elt f (i + 1) acc : M (List V)) s
noncomputable def M.comp (c : Option Nat) (v : V) (j : Nat) (test : M Bool) (elt : M V) : M V := do
  let acc ← (fun s => match seqItems v s with
    | none => none
    | some xs => M.compN (seqItems v) (fun u => M.setL j u) test elt (xs.length + 1) 0 [] s : M (List V))
  M.delL j
  mkList c acc
noncomputable def compCx (C : Cx) (scope : Scope) (cl : List (Str × Addr)) (x : Str) (j : Nat) (L : Addr) : Cx :=
  { C with env := compEnvC scope cl L C.env, pl := upd C.pl j (some (.loc L x)) }
noncomputable def SimT (C : Cx) (ifs : List PySem.Expr) (m : M Bool) : Prop :=
  Sim C C.T (forIn ifs true fun c r => if r = true then do let ok ← isTrue c C.env (eval c C.env); pure (ForInStep.yield ok) else pure (ForInStep.yield r)) m (fun _ _ a b => a = b)
theorem SimT.nil : SimT C [] (pure true) := by
  intro h₀ ζ ρ st s P E ok rel a st' e k
  cases e
  exact wpAny_tests_nil (k ζ ρ s.heap s.toks _ (Gr.refl _ _ _ _) rel rfl)
theorem SimT.one {c : PySem.Expr} {m : M Bool} (h : SimB C (isTrue c C.env (eval c C.env)) m) : SimT C [c] m := by
  intro h₀ ζ ρ st s P E ok rel a st' e k
  exact wpAny_tests_one (h h₀ ζ ρ st s P E ok rel a st' e k)
theorem Rel.adoptZ {h₀ ζ : HM} {ρ : RM} {st : St} {h : Heap} (R : Rel C h₀ ζ ρ st h) {D : Addr} {o : Obj} (ho : h.get? D = some o) (off : Off C h₀ ζ ρ D) (hsys : D ≠ sysModules) :
    Rel C h₀ (upd ζ D (some o)) ρ st h := by
  have le : Le ζ (upd ζ D (some o)) := upd_le off.z
  refine ⟨⟨R.ok, R.kept, fun a o' e => ?_, fun _ _ _ => trivial, fun n O e => ?_, R.dom, R.inj, fun n a e => ?_, R.offk, R.good, R.sysr, ?_⟩, R.fresh, R.mid, fun i v e => ?_, R.plok, fun i pl e => ⟨?_, (R.ploff i pl e).2⟩, R.plinj⟩
  · by_cases q : a = D
    · subst q; rw [upd_same] at e; cases e; exact ho
    · rw [upd_ne _ _ q] at e; exact R.frozen a o' e
  · obtain ⟨a, o', h1, h2, h3⟩ := R.slot n O e
    exact ⟨a, o', h1, h2, h3.mono le fun _ _ _ e => e⟩
  · have : a ≠ D := fun q => off.r n (q ▸ e)
    rw [upd_ne _ _ this]; exact R.offz n a e
  · rw [upd_ne _ _ (Ne.symm hsys)]; exact R.sysz
  · obtain ⟨pl, x, h1, h2, h3⟩ := R.var i v e
    exact ⟨pl, x, h1, h2, h3.mono le (Le.refl _)⟩
  · rw [upd_ne _ _ (off.p i pl e)]; exact (R.ploff i pl e).1
theorem Rel.adoptS {h₀ ζ : HM} {ρ : RM} {st : St} {h : Heap} (R : Rel C h₀ ζ ρ st h) {D : Addr} {o : Obj} (ho : h.get? D = some o) (off : Off C h₀ ζ ρ D) (hsys : D ≠ sysModules) (n : Nat) (hn : st.hp n = none) (hT : n < C.T) (hB : n < 100 ∨ C.B ≤ n) (O : O)
    (hO : OR C.W ζ (upd ρ n (some D)) O o) : Rel C h₀ ζ (upd ρ n (some D)) { st with hp := upd st.hp n (some O) } h := by
  have le : Le ρ (upd ρ n (some D)) := upd_le (R.dom n hn)
  refine ⟨⟨R.ok, R.kept, R.frozen, R.fcls, fun m O' e => ?_, fun m e => ?_, fun m m' a e e' => ?_, fun m a e => ?_, fun m a e => ?_, R.good, fun m e => ?_, R.sysz⟩, fun m hm => ?_, fun m h1 h2 h3 => ?_, fun i v e => ?_, R.plok, fun i pl e => ⟨(R.ploff i pl e).1, (R.ploff i pl e).2.1, fun m q => ?_⟩, R.plinj⟩
  · by_cases q : m = n
    · subst q; simp only [upd_same] at e; cases e
      exact ⟨_, o, upd_same _ _ _, ho, hO⟩
    · simp only [upd_ne _ _ q] at e
      obtain ⟨a, o', h1, h2, h3⟩ := R.slot m O' e
      exact ⟨a, o', le _ _ h1, h2, h3.mono (Le.refl _) le.low⟩
  · by_cases q : m = n
    · subst q; simp only [upd_same] at e; cases e
    · simp only [upd_ne _ _ q] at e; rw [upd_ne _ _ q]; exact R.dom m e
  · by_cases q : m = n
    · by_cases q' : m' = n
      · rw [q, q']
      · rw [q, upd_same] at e; cases e; rw [upd_ne _ _ q'] at e'; exact absurd e' (off.r m')
    · by_cases q' : m' = n
      · rw [q', upd_same] at e'; cases e'; rw [upd_ne _ _ q] at e; exact absurd e (off.r m)
      · rw [upd_ne _ _ q] at e; rw [upd_ne _ _ q'] at e'; exact R.inj m m' a e e'
  · by_cases q : m = n
    · subst q; rw [upd_same] at e; cases e; exact off.z
    · rw [upd_ne _ _ q] at e; exact R.offz m a e
  · by_cases q : m = n
    · subst q; rw [upd_same] at e; cases e; exact off.k
    · rw [upd_ne _ _ q] at e; exact R.offk m a e
  · by_cases q : m = n
    · subst q; rw [upd_same] at e; exact hsys (Option.some.inj e)
    · rw [upd_ne _ _ q] at e; exact R.sysr m e
  · have : m ≠ n := by intro q; subst q; exact absurd hT (Nat.not_lt.mpr hm)
    show upd st.hp n (some O) m = none
    rw [upd_ne _ _ this]; exact R.fresh m hm
  · have : m ≠ n := by intro q; subst q; (first | lia | omega)
    exact R.mid m h1 h2 (fun q => h3 (by show upd st.hp n (some O) m = none; rw [upd_ne _ _ this]; exact q))
  · obtain ⟨pl, x, h1, h2, h3⟩ := R.var i v e
    exact ⟨pl, x, h1, h2, h3.mono (Le.refl _) le⟩
  · by_cases q' : m = n
    · subst q'; rw [upd_same] at q; exact off.p i pl e (Option.some.inj q).symm
    · rw [upd_ne _ _ q'] at q; exact (R.ploff i pl e).2.2 m q
theorem Rel.not_sys {h₀ ζ : HM} {ρ : RM} {st : St} {h : Heap} (R : Rel C h₀ ζ ρ st h) {D : Addr} (hD : h.objs.size ≤ D) : D ≠ sysModules := by
  have : mainGlobals < h.objs.size := R.ok.2.g.lt
  have h1 : sysModules < mainGlobals := by decide
  exact (Nat.ne_of_lt (Nat.lt_of_lt_of_le (Nat.lt_trans h1 this) hD)).symm
theorem list_adopt2 {h₀ ζ : HM} {ρ : RM} {st st' : St} {h hs : Heap} {c : Option Nat} {vs : List V} {ys : List Value} {D : Addr} {o : Obj} {v : V} (rel : Rel C h₀ ζ ρ st h) (hc : okSlot C c) (e : mkList c vs st = some (v, st')) (r : VRs C.W ζ ρ vs ys)
    (ho : h.get? D = some o) (hl : LstIs o ys.toArray) (off : Off C h₀ ζ ρ D) (hsys : D ≠ sysModules) (hnew : hs.get? D = none) (dm : ∀ a, hs.get? a ≠ none → h.get? a ≠ none) :
    ∃ ζ' ρ', Gr C.T hs ζ ρ h ζ' ρ' ∧ Rel C h₀ ζ' ρ' st' h ∧ VR C.W ζ' ρ' v (.ref D) ∧ (∀ a, a ≠ D → ζ' a = ζ a) ∧ (∀ n a, a ≠ D → ρ' n = some a → ρ n = some a) := by
  obtain ⟨_, s2, e3, e4⟩ := M.bind_some e
  obtain ⟨hg, hs'⟩ := M.guard_some e3
  cases hs'
  simp only [Bool.and_eq_true, decide_eq_true_eq] at hg
  cases c with
  | none =>
    cases e4
    have le : Le ζ (upd ζ D (some o)) := upd_le off.z
    refine ⟨_, ρ, ⟨le, fun _ _ _ q => q, fun a o' q => ?_, fun _ _ q => .inl q, dm⟩, rel.adoptZ ho off hsys, ?_, fun a q => upd_ne _ _ q, fun _ _ _ q => q⟩
    · by_cases q' : a = D
      · subst q'; exact .inr hnew
      · rw [upd_ne _ _ q'] at q; exact .inl q
    · simp only [VR]
      exact ⟨_, o, _, rfl, upd_same _ _ _, hl, by simpa using VRs.mono le (fun _ _ _ q => q) _ _ r⟩
  | some n =>
    obtain ⟨hn, h2⟩ := M.new_some e4
    cases h2
    have le : Le ρ (upd ρ n (some D)) := upd_le (rel.dom n hn)
    refine ⟨ζ, _, ⟨Le.refl _, fun m a _ q => le m a q, fun _ _ q => .inl q, fun m a q => ?_, dm⟩, rel.adoptS ho off hsys n hn hc.1 hc.2 (.list vs) ⟨_, hl, by simpa using VRs.mono (Le.refl _) le.low _ _ r⟩, ?_, fun _ _ => rfl, fun m a q q' => ?_⟩
    · by_cases q' : m = n
      · subst q'; rw [upd_same] at q; cases q; exact .inr hnew
      · rw [upd_ne _ _ q'] at q; exact .inl q
    · simp only [VR]
      exact ⟨_, upd_same _ _ _, rfl⟩
    · by_cases w : m = n
      · subst w; rw [upd_same] at q'; exact absurd (Option.some.inj q').symm q
      · rw [upd_ne _ _ w] at q'; exact q'
theorem list_adopt {h₀ ζ : HM} {ρ : RM} {st st' : St} {h hs : Heap} {c : Option Nat} {vs : List V} {ys : List Value} {D : Addr} {o : Obj} {v : V} (rel : Rel C h₀ ζ ρ st h) (hc : okSlot C c) (e : mkList c vs st = some (v, st')) (r : VRs C.W ζ ρ vs ys)
    (ho : h.get? D = some o) (hl : LstIs o ys.toArray) (off : Off C h₀ ζ ρ D) (hsys : D ≠ sysModules) (hnew : hs.get? D = none) (dm : ∀ a, hs.get? a ≠ none → h.get? a ≠ none) :
    ∃ ζ' ρ', Gr C.T hs ζ ρ h ζ' ρ' ∧ Rel C h₀ ζ' ρ' st' h ∧ VR C.W ζ' ρ' v (.ref D) := by
  obtain ⟨ζ', ρ', h1, h2, h3, _⟩ := list_adopt2 rel hc e r ho hl off hsys hnew dm
  exact ⟨ζ', ρ', h1, h2, h3⟩
theorem Rel.swapL {h₀ ζ : HM} {ρ : RM} {st : St} {h h' : Heap} {D : Addr} (R : Rel C h₀ ζ ρ st h) (off : Off C h₀ ζ ρ D) (hs : Heap.SameBut D h h') : Rel C h₀ ζ ρ st h' :=
  R.off (· = D) (fun b o hb q => (hs.2 b hb).trans q) (fun b q => q ▸ ⟨off.z, off.k, off.r⟩) off.p
structure CompEnd (C : Cx) (h₀ ζ₁ : HM) (ρ₁ : RM) (h₁ : Heap) (j : Nat) (acc : List V) (s3 : St) (ζ2 : HM) (ρ2 : RM) (g : Heap) (D L : Addr) (ys : Array Value) (nD : Nat) : Prop where
  rel : Rel C h₀ ζ2 ρ2 { s3 with loc := upd s3.loc j none } g
  gr : Gr C.T h₁ ζ₁ ρ₁ g ζ2 ρ2
  offL : Off C h₀ ζ2 ρ2 L
  offD : Off C h₀ ζ2 ρ2 D
  ne : D ≠ L
  d : g.get? D = some { cls := .type "list", data := .seq ys nD }
  new : h₁.get? D = none
  newL : h₁.get? L = none
  sys : D ≠ sysModules
  vals : VRs C.W ζ2 ρ2 acc ys.toList
  ns : ∃ m, g.Ns L m
theorem Rel.compIn {scope : Scope} {cl : List (Str × Addr)} {x : Str} {j : Nat} {L : Addr} {h₀ ζ : HM} {ρ : RM} {st : St} {h : Heap} (rel4 : Rel C h₀ ζ ρ st h) (hj : C.pl j = none) (offL : Off C h₀ ζ ρ L) (hns : ∃ m, h.Ns L m) : Rel (compCx C scope cl x j L) h₀ ζ ρ st h := by
  refine ⟨rel4.toSRel, rel4.fresh, rel4.mid, fun i u q => ?_, fun i pl q => ?_, fun i pl q => ?_, fun i i' pl q q' => ?_⟩
  · obtain ⟨pl, y, a1, a2, a3⟩ := rel4.var i u q
    refine ⟨pl, y, ?_, a2, a3⟩
    show upd C.pl j _ i = _
    rw [upd_ne _ _ (fun w => by rw [w, hj] at a1; cases a1)]; exact a1
  · by_cases w : i = j
    · subst w
      have : upd C.pl i (some (.loc L x)) i = some pl := q
      rw [upd_same] at this; cases this; exact hns
    · have : upd C.pl j (some (.loc L x)) i = some pl := q
      rw [upd_ne _ _ w] at this; exact rel4.plok i pl this
  · by_cases w : i = j
    · subst w
      have : upd C.pl i (some (.loc L x)) i = some pl := q
      rw [upd_same] at this; cases this; exact ⟨offL.z, offL.k, offL.r⟩
    · have : upd C.pl j (some (.loc L x)) i = some pl := q
      rw [upd_ne _ _ w] at this; exact rel4.ploff i pl this
  · have q1 : upd C.pl j (some (.loc L x)) i = some pl := q
    have q2 : upd C.pl j (some (.loc L x)) i' = some pl := q'
    by_cases w : i = j
    · by_cases w' : i' = j
      · rw [w, w']
      · rw [w, upd_same] at q1; cases q1
        rw [upd_ne _ _ w'] at q2; exact absurd rfl (offL.p i' _ q2)
    · by_cases w' : i' = j
      · rw [w', upd_same] at q2; cases q2
        rw [upd_ne _ _ w] at q1; exact absurd rfl (offL.p i _ q1)
      · rw [upd_ne _ _ w] at q1; rw [upd_ne _ _ w'] at q2; exact rel4.plinj i i' pl q1 q2
theorem Off.compIn {scope : Scope} {cl : List (Str × Addr)} {x : Str} {j : Nat} {L I : Addr} {h₀ ζ : HM} {ρ : RM} (off : Off C h₀ ζ ρ I) (hIL : I ≠ L) : Off (compCx C scope cl x j L) h₀ ζ ρ I := ⟨off.z, off.k, off.r, fun i pl q => by
  have q : upd C.pl j (some (.loc L x)) i = some pl := q
  by_cases w : i = j
  · subst w
    rw [upd_same] at q; cases q; exact fun w => hIL w.symm
  · rw [upd_ne _ _ w] at q; exact off.p i pl q⟩
theorem Off.compOut {scope : Scope} {cl : List (Str × Addr)} {x : Str} {j : Nat} {L I : Addr} {h₀ ζ : HM} {ρ : RM} (off : Off (compCx C scope cl x j L) h₀ ζ ρ I) (hj : C.pl j = none) : Off C h₀ ζ ρ I := ⟨off.z, off.k, off.r, fun i pl q => off.p i pl (by
  show upd C.pl j _ i = _
  rw [upd_ne _ _ (fun w => by rw [w, hj] at q; cases q)]; exact q)⟩
theorem Rel.compOut {scope : Scope} {cl : List (Str × Addr)} {x : Str} {j : Nat} {L : Addr} {h₀ ζ : HM} {ρ : RM} {s3 : St} {g : Heap} (rel6 : Rel (compCx C scope cl x j L) h₀ ζ ρ s3 g) (hj : C.pl j = none) (inj : ∀ i i' pl, C.pl i = some pl → C.pl i' = some pl → i = i') : Rel C h₀ ζ ρ { s3 with loc := upd s3.loc j none } g := by
  have a1 : ∀ i pl, C.pl i = some pl → (compCx C scope cl x j L).pl i = some pl := fun i pl q => by
    show upd C.pl j _ i = _
    rw [upd_ne _ _ (fun w => by rw [w, hj] at q; cases q)]; exact q
  refine ⟨rel6.toSRel, rel6.fresh, rel6.mid, fun i u q => ?_, fun i pl q => rel6.plok i pl (a1 i pl q), fun i pl q => rel6.ploff i pl (a1 i pl q), inj⟩
  by_cases w : i = j
  · subst w; simp only [upd_same] at q; cases q
  · simp only [upd_ne _ _ w] at q
    obtain ⟨pl, y, b1, b2, b3⟩ := rel6.var i u q
    have b1 : upd C.pl j (some (.loc L x)) i = some pl := b1
    rw [upd_ne _ _ w] at b1
    exact ⟨pl, y, b1, b2, b3⟩
inductive CompI (C CC : Cx) (h₀ ζ1 : HM) (ρ1 : RM) (h4 : Heap) (s : Shared) (v : V) (xv : Value) (I D : Addr) (j : Nat) (mt : M Bool) (me : M V) (r : List V × St) (n : Nat) (s' : Shared) : Prop
  | mk (ζ2 : HM) (ρ2 : RM) (st2 : St) (g2 : Heap) (tk2 : Tok) (i : Nat) (ac : List V) (ys : Array Value) (o : Obj) (e : s' = { s with heap := g2, toks := tk2 }) (G : Gr C.T h4 ζ1 ρ1 g2 ζ2 ρ2) (rel : Rel CC h₀ ζ2 ρ2 st2 g2) (rv : VR C.W ζ2 ρ2 v xv) (ho : g2.get? I = some o) (hj : JSeq v xv i o)
    (oI : Off CC h₀ ζ2 ρ2 I) (oD : Off CC h₀ ζ2 ρ2 D) (pl : g2.PlainList D ys) (hac : VRs C.W ζ2 ρ2 ac ys.toList) (e1 : M.compN (seqItems v) (fun u => M.setL j u) mt me n i ac st2 = some r)
theorem comp_core {use : Option (Value → Sem Unit)} {elt iter : PySem.Expr} {x : Str} {px : Pos} {ifs : List PySem.Expr} {scope : Scope} {pos pos' : Pos} {cl : List (Str × Addr)} {j : Nat} {mi : M V} {mt : M Bool} {me : M V}
    (hi : SimE C (eval iter C.env) mi) (hj : C.pl j = none) (hclos : closureFor scope C.env = pure cl)
    (ht : ∀ L, SimT (compCx C scope cl x j L) ifs mt) (he : ∀ L, SimE (compCx C scope cl x j L) (eval elt (compEnvC scope cl L C.env)) me)
    (hkind : scope.kind = .function) (hx : scope.names.lookup x = some .local)
    (hnames : (scope.names.all fun y => y.2 != .cell && (y.2 != .local || scope.names.lookup y.1 == some .local)) = true)
    (hs : ∀ x, foldedSetIterable iter C.env x = pure x) {h₀ ζ : HM} {ρ : RM} {st : St} {s : Shared} {P : Value → Shared → Prop} {E : Value → Shared → Prop} (ok : C.Ok) (rel : Rel C h₀ ζ ρ st s.heap) {v : V} {s1 s3 : St} {acc xs0 : List V}
    (e1 : mi st = some (v, s1)) (hst : v.stays C.T = true) (hx0 : seqItems v s1 = some xs0) (e4 : M.compN (seqItems v) (fun u => M.setL j u) mt me (xs0.length + 1) 0 [] s1 = some (acc, s3))
    (hend : ∀ ζ1 ρ1 h1 ζ2 ρ2 g tk D L ys nD f, Gr C.T s.heap ζ ρ h1 ζ1 ρ1 → CompEnd C h₀ ζ1 ρ1 h1 j acc s3 ζ2 ρ2 g D L ys nD → compPost (model C.W.prog C.W.w) C.A E use P (.ref D) L (.ok f) { s with heap := g, toks := tk }) :
    wpAny (model C.W.prog C.W.w) C.A (comprehension (.ListComp elt [⟨.Name x px, iter, ifs, 0⟩] scope pos) scope C.env pos' (newList []) false (eval iter C.env) use) P E s := by
  have hcell : ∀ y ∈ scope.names, y.2 ≠ .cell := fun y hy q => by
    have := List.all_eq_true.mp hnames y hy
    rw [q] at this; simp at this
  have hloc : ∀ y ∈ scope.names, y.2 = .local → scope.names.lookup y.1 = some .local := fun y hy q => by
    have := List.all_eq_true.mp hnames y hy
    rw [q] at this; simpa using this
  refine wpAny_comprehension_free (use := use) (g := ⟨.Name x px, iter, ifs, 0⟩) (gs := []) rfl hs hclos hkind hloc ?_
  refine hi h₀ ζ ρ st s _ E ok rel v s1 e1 fun ζ1 ρ1 h1 tk1 xv G1 rel1 r1 => ?_
  refine (Src.seq v).start h₀ ζ1 ρ1 s1 _ _ _ xv xs0 ok rel1 r1 hx0 fun o0 hj0 hf0 => ?_
  have hI0 : (h1.push o0).get? h1.objs.size = some o0 := Heap.get?_push_size h1 hf0
  have offI := rel1.offNew (get_size h1)
  have sysI := rel1.not_sys (Nat.le_refl _)
  have rel2 := rel1.push o0
  generalize hI : h1.objs.size = I at *
  generalize hH2 : h1.push o0 = h2 at *
  have hIlt : I < h2.objs.size := Heap.lt_size hI0
  refine wpAny_newObj_type ?_
  dsimp only
  have hD0 : (h2.push { cls := .type "list", data := .seq ([] : List Value).toArray }).get? h2.objs.size = some { cls := .type "list", data := .seq ([] : List Value).toArray } := Heap.get?_push_size h2 rfl
  have offD := rel2.offNew (get_size h2)
  have sysD := rel2.not_sys (Nat.le_refl _)
  have hDnone : h2.get? h2.objs.size = none := get_size h2
  have rel3 := rel2.push { cls := .type "list", data := .seq ([] : List Value).toArray }
  have keep3 := push_keeps h2 { cls := .type "list", data := .seq ([] : List Value).toArray }
  generalize hD : h2.objs.size = D at *
  generalize hH3 : h2.push { cls := .type "list", data := .seq ([] : List Value).toArray } = h3 at *
  have hDlt : D < h3.objs.size := Heap.lt_size hD0
  have hI3 : h3.get? I = some o0 := keep3 _ _ hI0
  have hID : I ≠ D := Nat.ne_of_lt hIlt
  refine wpAny_newFunctionEnv hcell (by intro y hy; simp at hy) (fun h4 hns hsb => ?_) hkind
  dsimp only at hns hsb ⊢
  have offL := rel3.offNew (get_size h3)
  have keep4 : ∀ b o, h3.get? b = some o → h4.get? b = some o := fun b o q => hsb.extBut b o (Nat.ne_of_lt (Heap.lt_size q)) (Heap.get?_push_of_some _ q)
  have rel4 : Rel C h₀ ζ1 ρ1 s1 h4 := rel3.off (fun _ => False) (fun b o _ q => keep4 b o q) (fun _ q => q.elim) (fun _ _ _ q => q)
  have hI4 := keep4 _ _ hI3
  have hD4 := keep4 _ _ hD0
  have hIL : I ≠ h3.objs.size := Nat.ne_of_lt (Heap.lt_size hI3)
  have hDL : D ≠ h3.objs.size := Nat.ne_of_lt hDlt
  generalize hLq : h3.objs.size = L at *
  have hcx : ∀ (env' : Env), True := fun _ => trivial
  have okC : (compCx C scope cl x j L).Ok := ⟨ok.room, hkind, ok.glob, ok.bins, ok.bt, ok.b100⟩
  have relC : Rel (compCx C scope cl x j L) h₀ ζ1 ρ1 s1 h4 := rel4.compIn hj offL ⟨_, hns⟩
  have offIC : Off (compCx C scope cl x j L) h₀ ζ1 ρ1 I := offI.compIn hIL
  have offDC : Off (compCx C scope cl x j L) h₀ ζ1 ρ1 D := offD.compIn hDL
  have hnone : ∀ b, h1.get? b ≠ none → b ≠ I ∧ b ≠ D ∧ b ≠ L := by
    intro b q
    have l1 : b < h1.objs.size := by
      cases w : h1.get? b with
      | none => exact absurd w q
      | some o => exact Heap.lt_size w
    have l2 : b < I := hI ▸ l1
    have l3 : b < D := Nat.lt_trans l2 hIlt
    exact ⟨Nat.ne_of_lt l2, Nat.ne_of_lt l3, Nat.ne_of_lt (Nat.lt_trans l3 hDlt)⟩
  have dm4 : ∀ b, h1.get? b ≠ none → h4.get? b ≠ none := by
    intro b q
    cases w : h1.get? b with
    | none => exact absurd w q
    | some o =>
      have : h2.get? b = some o := by rw [← hH2]; exact push_keeps _ _ _ _ w
      rw [keep4 _ _ (keep3 _ _ this)]; exact nofun
  have main : ∀ s' : Shared, s' = { s with heap := h4, toks := tk1 + ([] : List (Str × Value)).length } →
      codeAny (model C.W.prog C.W.w) C.A (.compLoop (.ListComp elt [⟨.Name x px, iter, ifs, 0⟩] scope pos) 0 (.ref I) (.ref D) (compEnvC scope cl L C.env)) (compPost (model C.W.prog C.W.w) C.A E use P (.ref D) L) s' := by
    rintro s' rfl
    refine codeAny_compLoop_tests (CompI C (compCx C scope cl x j L) h₀ ζ1 ρ1 h4 s v xv I D j mt me (acc, s3)) (fun n s' hInv => ?_) (xs0.length + 1)
      ⟨ζ1, ρ1, s1, h4, _, 0, [], #[], o0, rfl, Gr.refl _ _ _ _, relC, r1, hI4, hj0, offIC, offDC, ⟨0, hD4⟩, by simp [VRs], e4⟩
    obtain ⟨ζ2, ρ2, st2, g2, tk2, i, ac, ys, o, rfl, G2, rel5, r5, ho, hjj, oI, oD, ⟨nD, hD5⟩, hac, e8⟩ := hInv
    cases n with
    | zero => cases e8
    | succ n =>
      unfold M.compN at e8
      cases hxs : seqItems v st2 with
      | none => simp only [hxs] at e8; cases e8
      | some xs =>
        simp only [hxs] at e8
        refine (Src.seq (C := compCx C scope cl x j L) v).next h₀ ζ2 ρ2 st2 _ _ _ xv xs I i o okC rel5 r5 hxs ho hjj oI (fun u y g3 o3 tk3 hu hr hs3 ho3 hj3 => ?_) (fun hn g3 hs3 => ?_)
        · simp only [hu] at e8
          obtain ⟨_, s5, e9, e10⟩ := M.bind_some e8
          obtain ⟨b, s6, e11, e12⟩ := M.bind_some e10
          have rel6 : Rel (compCx C scope cl x j L) h₀ ζ2 ρ2 st2 g3 := rel5.off (· = I) (fun b o hb q => same_off hs3 b o hb q) (fun b q => q ▸ ⟨oI.z, oI.k, oI.r⟩) oI.p
          have hD6 : g3.get? D = some { cls := .type "list", data := .seq ys nD } := (hs3.2 D (Ne.symm hID)).trans hD5
          have G3 : Gr C.T h4 ζ1 ρ1 g3 ζ2 ρ2 := G2.trans (Gr.heap fun b q => by
            by_cases q' : b = I
            · subst q'; rw [ho3]; exact nofun
            · rw [hs3.2 b q']; exact q)
          have relK := (rel6.addK ho3 ⟨oI.z, oI.k, oI.r⟩ oI.p).addK hD6 ⟨oD.z, by rw [upd_ne _ _ (Ne.symm hID)]; exact oD.k, oD.r⟩ oD.p
          have leK : Le h₀ (upd (upd h₀ I (some o3)) D (some { cls := .type "list", data := .seq ys nD })) := (upd_le oI.k).trans (upd_le (by rw [upd_ne _ _ (Ne.symm hID)]; exact oD.k))
          have hpl : (compCx C scope cl x j L).pl j = some (.loc (compCx C scope cl x j L).env.locals x) := upd_same _ _ _
          have hkd : (compCx C scope cl x j L).env.kindOf x = some .local := lookup_relabel_local hx
          refine wpAny_assign_Name (Sim_storeLocal hkd hpl _ ζ2 ρ2 st2 _ _ _ u y okC relK hr () s5 e9 fun ζ5 ρ5 g5 tk5 _ G5 rel7 _ => ?_)
          refine ht L _ ζ5 ρ5 s5 _ _ _ okC rel7 b s6 e11 fun ζ6 ρ6 g6 tk6 b' G6 rel8 rb => ?_
          cases rb
          have G56 : Gr C.T g3 ζ2 ρ2 g6 ζ6 ρ6 := G5.trans G6
          cases b with
          | false =>
            simp only [Bool.false_eq_true, if_false] at e12 ⊢
            have hI6 : g6.get? I = some o3 := rel8.kept _ _ (by rw [upd_ne _ _ hID]; exact upd_same _ _ _)
            have hD7 : g6.get? D = some { cls := .type "list", data := .seq ys nD } := rel8.kept _ _ (upd_same _ _ _)
            exact ⟨n, Nat.lt_succ_self n, ζ6, ρ6, s6, g6, tk6, i + 1, ac, ys, o3, rfl, G3.trans G56, rel8.dropK leK rel.good, VR.gr rel6 G56 r5, hI6, hj3, oI.gr G56 (by rw [ho3]; exact nofun), oD.gr G56 (by rw [hD6]; exact nofun), ⟨nD, hD7⟩, VRs.mono G56.zl (Gr.le rel6 G56).low _ _ hac, e12⟩
          | true =>
            simp only [if_true] at e12 ⊢
            obtain ⟨w, s7, e13, e14⟩ := M.bind_some e12
            obtain ⟨_, s8, e15, e16⟩ := M.bind_some e14
            obtain ⟨hg, hs8⟩ := M.guard_some e15
            cases hs8
            simp only [Bool.and_eq_true, decide_eq_true_eq] at hg
            refine he L _ ζ6 ρ6 s6 _ _ _ okC rel8 w s7 e13 fun ζ7 ρ7 g7 tk7 z G7 rel9 rz => ?_
            have G57 : Gr C.T g3 ζ2 ρ2 g7 ζ7 ρ7 := G56.trans G7
            have hI7 : g7.get? I = some o3 := rel9.kept _ _ (by rw [upd_ne _ _ hID]; exact upd_same _ _ _)
            have hD7 : g7.get? D = some { cls := .type "list", data := .seq ys nD } := rel9.kept _ _ (upd_same _ _ _)
            have rel9' := rel9.dropK leK rel.good
            have oI7 := oI.gr G57 (by rw [ho3]; exact nofun)
            have oD7 := oD.gr G57 (by rw [hD6]; exact nofun)
            have hac7 := VRs.mono G57.zl (Gr.le rel6 G57).low _ _ hac
            have hlen : ys.size = ac.length := by rw [← hac.length]; simp
            refine wpAny_list_append_plain ⟨nD, hD7⟩ (fun g8 hD8 hs8 => ?_) (by rw [hlen]; exact lim_le (Nat.le_of_lt hg.2))
            have rel10 : Rel (compCx C scope cl x j L) h₀ ζ7 ρ7 s7 g8 := rel9'.off (· = D) (fun b o hb q => same_off hs8 b o hb q) (fun b q => q ▸ ⟨oD7.z, oD7.k, oD7.r⟩) oD7.p
            have G8 : Gr C.T g3 ζ2 ρ2 g8 ζ7 ρ7 := G57.trans (Gr.heap fun b q => by
              by_cases q' : b = D
              · subst q'; obtain ⟨m', hm'⟩ := hD8; rw [hm']; exact nofun
              · rw [hs8.2 b q']; exact q)
            exact ⟨n, Nat.lt_succ_self n, ζ7, ρ7, s7, g8, tk7, i + 1, ac ++ [w], ys.push z, o3, rfl, G3.trans G8, rel10, VR.gr rel6 G57 r5, (hs8.2 I hID).trans hI7, hj3, oI7, oD7, hD8, by simpa using hac7.snoc hg.1 rz, e16⟩
        · simp only [hn] at e8
          cases e8
          have rel6 : Rel (compCx C scope cl x j L) h₀ ζ2 ρ2 s3 g3 := rel5.off (· = I) (fun b o hb q => hs3 b o hb q) (fun b q => q ▸ ⟨oI.z, oI.k, oI.r⟩) oI.p
          have hD6 : g3.get? D = some { cls := .type "list", data := .seq ys nD } := hs3 D _ (Ne.symm hID) hD5
          obtain ⟨mL, hnL⟩ := rel6.plok j (.loc L x) (upd_same _ _ _)
          have hDL' : D ≠ L := hDL
          have lpl : ∀ i pl, C.pl i = some pl → pl.addr ≠ L := fun i pl q => offL.p i pl q
          have oL := rel6.ploff j (.loc L x) (upd_same _ _ _)
          have relB : Rel C h₀ ζ2 ρ2 { s3 with loc := upd s3.loc j none } g3 := rel6.compOut hj rel.plinj
          have oDB : Off C h₀ ζ2 ρ2 D := oD.compOut hj
          have dmB : ∀ b, h1.get? b ≠ none → g3.get? b ≠ none := fun b q => by
            obtain ⟨n1, n2, n3⟩ := hnone b q
            cases w : g2.get? b with
            | none => exact absurd w (G2.dm b (dm4 b q))
            | some o' => rw [hs3 b o' n1 w]; exact nofun
          have hDn : h1.get? D = none := by
            cases w : h1.get? D with
            | none => rfl
            | some o => have := (hnone D (by rw [w]; exact nofun)).2.1; exact absurd rfl this
          have hLn : h1.get? L = none := by
            cases w : h1.get? L with
            | none => rfl
            | some o => have := (hnone L (by rw [w]; exact nofun)).2.2; exact absurd rfl this
          have G12 : Gr C.T h1 ζ1 ρ1 g3 ζ2 ρ2 := by
            have dn : ∀ b, h4.get? b = none → h1.get? b = none := fun b q => Classical.byContradiction fun q' => dm4 b q' q
            exact ⟨G2.zl, G2.rl, fun a o q => (G2.zn a o q).imp id (dn a), fun n a q => (G2.rn n a q).imp id (dn a), dmB⟩
          exact hend ζ1 ρ1 h1 ζ2 ρ2 g3 tk2 D L ys nD _ G1 ⟨relB, G12, ⟨oL.1, oL.2.1, oL.2.2, lpl⟩, oDB, hDL', hD6, hDn, hLn, sysD, hac, mL, hnL⟩
  exact codeAny_compStart_list (main _ rfl) ((Src.seq (C := C) v).self _ _ _ xv I 0 o0 hI4 hj0 (main _ rfl))
theorem Sim_Comp {elt iter : PySem.Expr} {x : Str} {px : Pos} {ifs : List PySem.Expr} {scope : Scope} {pos : Pos} {cl : List (Str × Addr)} {j : Nat} {mi : M V} {mt : M Bool} {me : M V} (c : Option Nat) (hc : okSlot C c)
    (hi : SimE C (eval iter C.env) mi) (hj : C.pl j = none) (hclos : closureFor scope C.env = pure cl)
    (ht : ∀ L, SimT (compCx C scope cl x j L) ifs mt) (he : ∀ L, SimE (compCx C scope cl x j L) (eval elt (compEnvC scope cl L C.env)) me)
    (hkind : scope.kind = .function := by rfl) (hx : scope.names.lookup x = some .local := by rfl)
    (hnames : (scope.names.all fun y => y.2 != .cell && (y.2 != .local || scope.names.lookup y.1 == some .local)) = true := by rfl)
    (hs : ∀ x, foldedSetIterable iter C.env x = pure x := by intro _; rfl) :
    SimE C (eval (.ListComp elt [⟨.Name x px, iter, ifs, 0⟩] scope pos) C.env) (do let v ← mi; M.guard (v.stays C.T); M.comp c v j mt me) := by
  intro h₀ ζ ρ st s P E ok rel a st' e k
  obtain ⟨v, s1, e1, e⟩ := M.bind_some e
  obtain ⟨_, s2, e2, e3⟩ := M.bind_some e
  obtain ⟨hst, hs2⟩ := M.guard_some e2
  cases hs2
  unfold M.comp at e3
  obtain ⟨acc, s3, e4, e5⟩ := M.bind_some e3
  obtain ⟨_, s4, e6, e7⟩ := M.bind_some e5
  cases e6
  cases hx0 : seqItems v s1 with
  | none => simp only [hx0] at e4; cases e4
  | some xs0 =>
  simp only [hx0] at e4
  rw [eval_ListComp]
  refine comp_core (use := none) hi hj hclos ht he hkind hx hnames hs ok rel e1 hst hx0 e4 fun ζ1 ρ1 h1 ζ2 ρ2 g tk D L ys nD f G1 X => ?_
  obtain ⟨m, hm⟩ := X.ns
  refine ⟨m, hm, fun g4 hs4 => ?_⟩
  have relB := X.rel.swapL X.offL hs4
  have hD8 := (hs4.2 D X.ne).trans X.d
  have dmB : ∀ b, h1.get? b ≠ none → g4.get? b ≠ none := fun b q => by
    rw [hs4.2 b (fun q' => q (by rw [q']; exact X.newL))]
    exact X.gr.dm b q
  obtain ⟨ζ', ρ', G9, R9, V9⟩ := list_adopt relB hc e7 X.vals hD8 ⟨nD, rfl⟩ X.offD X.sys X.new dmB
  have G19 : Gr C.T h1 ζ1 ρ1 g4 ζ' ρ' := ⟨X.gr.zl.trans G9.zl, fun n a q1 q2 => G9.rl n a q1 (X.gr.rl n a q1 q2), fun a o q => (G9.zn a o q).elim (X.gr.zn a o) .inr, fun n a q => (G9.rn n a q).elim (X.gr.rn n a) .inr, dmB⟩
  exact k ζ' ρ' g4 tk _ (G1.trans G19) R9 V9
theorem Sim_CompAssign {elt iter : PySem.Expr} {x y : Str} {px py : Pos} {ifs : List PySem.Expr} {scope : Scope} {pos spos : Pos} {cl : List (Str × Addr)} {i j : Nat} {mi : M V} {mt : M Bool} {me : M V} (c : Option Nat) (hc : okSlot C c)
    (hi : SimE C (eval iter C.env) mi) (hj : C.pl j = none) (hclos : closureFor scope C.env = pure cl)
    (ht : ∀ L, SimT (compCx C scope cl x j L) ifs mt) (he : ∀ L, SimE (compCx C scope cl x j L) (eval elt (compEnvC scope cl L C.env)) me) (hst : SimSt C y i)
    (hsw : swapsWith (.ListComp elt [⟨.Name x px, iter, ifs, 0⟩] scope pos) (some (.Name y py)) spos.line C.env = pure true := by rfl)
    (hkind : scope.kind = .function := by rfl) (hx : scope.names.lookup x = some .local := by rfl)
    (hnames : (scope.names.all fun y => y.2 != .cell && (y.2 != .local || scope.names.lookup y.1 == some .local)) = true := by rfl)
    (hs : ∀ x, foldedSetIterable iter C.env x = pure x := by intro _; rfl) :
    SimF C (exec (.Assign [.Name y py] (.ListComp elt [⟨.Name x px, iter, ifs, 0⟩] scope pos) spos) C.env) (do let v ← (do let v ← mi; M.guard (v.stays C.T); M.comp c v j mt me); M.setL i v; pure .next) := by
  intro h₀ ζ ρ st s P E ok rel a st' e k
  obtain ⟨w, s5, e0, e8⟩ := M.bind_some e
  obtain ⟨_, s6, e9, e10⟩ := M.bind_some e8
  cases e10
  obtain ⟨v, s1, e1, e⟩ := M.bind_some e0
  obtain ⟨_, s2, e2, e3⟩ := M.bind_some e
  obtain ⟨hstay, hs2⟩ := M.guard_some e2
  cases hs2
  unfold M.comp at e3
  obtain ⟨acc, s3, e4, e5⟩ := M.bind_some e3
  obtain ⟨_, s4, e6, e7⟩ := M.bind_some e5
  cases e6
  cases hx0 : seqItems v s1 with
  | none => simp only [hx0] at e4; cases e4
  | some xs0 =>
  simp only [hx0] at e4
  rw [exec_Assign_Name_used _ _ _ _ hsw]
  refine wpAny_bind (wpAny_standAt (wpAny_bind ?_))
  show wpAny _ C.A (do let _ ← comprehension (.ListComp elt [⟨.Name x px, iter, ifs, 0⟩] scope pos) scope C.env _ (newList []) false (eval iter C.env) (some (assign (.Name y py) C.env))) _ _ s
  refine wpAny_bind (wpAny_mono (comp_core (use := some (assign (.Name y py) C.env)) (P := fun _ s' => P .next s') hi hj hclos ht he hkind hx hnames hs ok rel e1 hstay hx0 e4 fun ζ1 ρ1 h1 ζ2 ρ2 g tk D L ys nD f G1 X => ?_) (fun _ s' hq => wpAny_pure (wpAny_pure hq)) fun _ _ e => e)
  obtain ⟨ζ', ρ', G9, R9, V9, Z9, Q9⟩ := list_adopt2 X.rel hc e7 X.vals X.d ⟨nD, rfl⟩ X.offD X.sys X.new X.gr.dm
  have G19 : Gr C.T h1 ζ1 ρ1 g ζ' ρ' := ⟨X.gr.zl.trans G9.zl, fun n a q1 q2 => G9.rl n a q1 (X.gr.rl n a q1 q2), fun a o q => (G9.zn a o q).elim (X.gr.zn a o) .inr, fun n a q => (G9.rn n a q).elim (X.gr.rn n a) .inr, X.gr.dm⟩
  obtain ⟨m, hm⟩ := X.ns
  obtain ⟨oL, es, ep, hoL, hL2⟩ := id hm
  have offL' : Off C h₀ ζ' ρ' L := ⟨(Z9 L X.ne.symm).trans X.offL.z, X.offL.k, fun n q => X.offL.r n (Q9 n L X.ne.symm q), X.offL.p⟩
  have relK := R9.addK hoL ⟨offL'.z, offL'.k, offL'.r⟩ offL'.p
  show wpAny _ _ (assign (.Name y py) C.env (.ref D)) _ _ _
  refine SimA.name hst _ ζ' ρ' s5 _ _ _ w (.ref D) ok relK V9 () st' e9 fun ζ6 ρ6 h6 tk6 _ G6 rel6 _ => ?_
  have hoL6 : h6.get? L = some oL := rel6.kept _ _ (upd_same _ _ _)
  refine ⟨m, ⟨oL, es, ep, hoL6, hL2⟩, fun h7 hs7 => ?_⟩
  have offL6 : Off C h₀ ζ6 ρ6 L := Off.gr offL' G6 (by rw [hoL]; exact nofun)
  have rel7 := (rel6.dropK (upd_le offL'.k) rel.good).swapL offL6 hs7
  refine k ζ6 ρ6 h7 tk6 _ (Gr.weak ?_ ok.bt) rel7 rfl
  have G16 := G19.trans G6
  exact G1.trans ⟨G16.zl, G16.rl, G16.zn, G16.rn, fun b q => by
    rw [hs7.2 b (fun q' => q (by rw [q']; exact X.newL))]
    exact G16.dm b q⟩
end Lay
end

section
open PySem PySem.W PyProof.Rows
set_option Elab.async false
set_option linter.unusedVariables false
namespace Lay
variable {C : Cx}
theorem vFloorDiv_K : SimK2 C (binaryOp .FloorDiv) vFloorDiv (VR C.W) := vInt2G_K fun _ _ _ _ a b _ _ hg h => by
  simp only [Bool.and_eq_true, decide_eq_true_eq] at hg
  refine floordiv_int hg.1 h (.inl (PyProof.noPylong_of_log2 (by have : b.natAbs.log2 < 63 := (Nat.log2_lt (by (first | lia | omega))).mpr hg.2; (first | lia | omega))))
noncomputable def vAdd (c : Option Nat) (a b : V) : M V := fun s => match a, b with
  | .int i, .int j => some (.int (i + j), s)
  | a, b => match lView a s, lView b s with
    | some xs, some ys => mkList c (xs ++ ys) s
    | _, _ => none
theorem lView_obj {h₀ ζ : HM} {ρ : RM} {st : St} {h : Heap} (rel : Rel C h₀ ζ ρ st h) {v : V} {x : Value} {xs : List V} (e : lView v st = some xs) (r : VR C.W ζ ρ v x) :
    ∃ a ys n, x = .ref a ∧ h.get? a = some ⟨.type "list", none, .seq ys n, #[]⟩ ∧ VRs C.W ζ ρ xs ys.toList := by
  unfold lView at e
  split at e
  · cases e
    simp only [VR] at r
    obtain ⟨a, o, ys, rfl, h1, ⟨n, rfl⟩, h2⟩ := r
    exact ⟨a, ys, n, rfl, rel.frozen _ _ h1, h2⟩
  · split at e
    · rename_i n _ xs' q
      cases e
      simp only [VR] at r
      obtain ⟨a', h1', rfl⟩ := r
      obtain ⟨a, o, h1, h2, ys, ⟨n', rfl⟩, h4⟩ := rel.slot n _ q
      obtain rfl : a = a' := Option.some.inj (h1.symm.trans h1')
      exact ⟨a, ys, n', rfl, h2, h4⟩
    · cases e
  · cases e
theorem vAdd_K {c : Option Nat} (hc : okSlot C c) : SimK2 C (binaryOp .Add) (vAdd c) (VR C.W) := by
  intro h₀ ζ ρ st s P E a b x y ok rel ra rb v st' e k
  unfold vAdd at e
  split at e
  · cases e
    simp only [VR] at ra rb
    obtain ⟨t, rfl⟩ := ra
    obtain ⟨u, rfl⟩ := rb
    exact add_int (k ζ ρ s.heap _ _ (Gr.refl _ _ _ _) rel (by simp only [VR]; exact ⟨_, rfl⟩))
  · split at e
    · rename_i xs ys q1 q2
      obtain ⟨ax, vs, n, rfl, h1, r1⟩ := lView_obj rel q1 ra
      obtain ⟨ay, ws, n2, rfl, h2, r2⟩ := lView_obj rel q2 rb
      have hl : (xs ++ ys).length ≤ lim := by
        obtain ⟨_, s2, e3, e4⟩ := M.bind_some e
        obtain ⟨hg, _⟩ := M.guard_some e3
        simp only [Bool.and_eq_true, decide_eq_true_eq] at hg; exact hg.2
      have hz : vs.size + ws.size ≤ sizeLine := by
        have e1 : vs.size = xs.length := by rw [← r1.length]; simp
        have e2 : ws.size = ys.length := by rw [← r2.length]; simp
        rw [e1, e2, ← List.length_append]; exact lim_le hl
      refine concat_meets ⟨_, h1, rfl⟩ ⟨_, h2, rfl⟩ noFill_list_add seq_list_add PySem.F.slot_list_add PySem.F.entry_list_add (PySem.F.args_list_add_2 _ _) (list_addW ax ay vs ws n n2 none none #[] #[] hz) ⟨h1, h2, ?_⟩
      obtain ⟨ζ', ρ', G', R', hv⟩ := list_made (o := { cls := .type "list", data := .seq (vs ++ ws) }) (ys := vs.toList ++ ws.toList) rel hc e (r1.append r2).toA ⟨0, by simp⟩ rfl
      exact k _ _ _ _ _ G' R' hv
    · cases e
noncomputable def vUpto (c : Option Nat) (v i : V) : M V := fun s => match lView v s, i with
  | some xs, .int k => if 0 ≤ k ∧ xs.length ≤ lim then mkList c (xs.take k.toNat) s else none
  | _, _ => none
noncomputable def vBack (c : Option Nat) (v i : V) : M V := fun s => match lView v s, i with
  | some xs, .int k => if k = -1 ∧ xs.length ≤ lim then mkList c xs.reverse s else none
  | _, _ => none
theorem Sim_Upto {value u : PySem.Expr} {p pos : Pos} {m1 m2 : M V} (c : Option Nat) (hc : okSlot C c) (h1 : SimE C (eval value C.env) m1) (h2 : SimE C (eval u C.env) m2) (hs : ∀ o i, subscripted (.Slice none (some u) none p) false o i = operate [i, o] (getItem o i) := by intro _ _; with_unfolding_all rfl) :
    SimE C (eval (.Subscript value (.Slice none (some u) none p) pos) C.env) (do let a ← m1; let b ← m2; vUpto c a b) := by
  intro h₀ ζ ρ st s P E ok rel v st' e k
  obtain ⟨a, s1, e1, e⟩ := M.bind_some e
  obtain ⟨b, s2, e2, e3⟩ := M.bind_some e
  refine Subscript_ (h1 h₀ ζ ρ st s _ E ok rel a s1 e1 fun ζ1 ρ1 h1' tk1 x G1 rel1 r1 => wpAny_Slice (wpAny_evalPart_none (wpAny_evalPart_some (h2 h₀ ζ1 ρ1 s1 _ _ E ok rel1 b s2 e2 fun ζ2 ρ2 h2' tk2 y G2 rel2 r2 => wpAny_evalPart_none ?_))))
  have r1' := VR.gr rel1 G2 r1
  unfold vUpto at e3
  split at e3
  · rename_i xs kk q
    split at e3
    · rename_i hg
      obtain ⟨l, ys, rfl, hl, hys⟩ := lView_at rel2 q r1'
      simp only [VR] at r2
      obtain ⟨t, rfl⟩ := r2
      have hz : ys.size = xs.length := by rw [← hys.length]; simp
      have hl' := hl.push { cls := .type "slice", data := .fields #[Value.none, .int kk t, .none] }
      refine tail_any hl'.typeIs list_getitem_lookup (wpAny_getItem_list_slice hl' (Heap.IsSliceOf.new ..) .none (.int kk t) .none (by simp) ?_ (hz ▸ lim_le hg.2)) (hs _ _)
      have ek : kk = ((kk.toNat : Nat) : Int) := by (first | lia | omega)
      have hp : slicePick ys none (some kk) none = (ys.toList.take kk.toNat).toArray := by
        conv => lhs; rw [ek]
        exact slicePick_upto' ys _
      have rel3 := rel2.push { cls := .type "slice", data := .fields #[Value.none, .int kk t, .none] }
      have G3 : Gr C.T h2' ζ2 ρ2 _ ζ2 ρ2 := Gr.push h2' { cls := .type "slice", data := .fields #[Value.none, .int kk t, .none] }
      obtain ⟨ζ', ρ', G', R', hv⟩ := list_made (o := { cls := .type "list", data := .seq (slicePick ys none (some kk) none) }) rel3 hc e3 (hys.take kk.toNat).toA ⟨0, by rw [hp]⟩ rfl
      exact k _ _ _ _ _ (((G1.trans G2).trans G3).trans G') R' hv
    · cases e3
  · cases e3
theorem pick_down {α : Type} (xs : Array α) : ∀ n : Nat, n ≤ xs.size → ((List.range n).map fun (k : Nat) => (((n : Int) - 1) + (-1) * (k : Int)).toNat).filterMap (xs[·]?) = (xs.toList.take n).reverse := by
  intro n
  induction n with
  | zero => intro _; simp
  | succ n ih =>
    intro h
    rw [List.range_succ_eq_map, List.map_cons, List.map_map]
    have e1 : (((n + 1 : Nat) : Int) - 1 + (-1) * ((0 : Nat) : Int)).toNat = n := by (first | lia | omega)
    have e2 : ((fun (k : Nat) => (((n + 1 : Nat) : Int) - 1 + (-1) * (k : Int)).toNat) ∘ Nat.succ) = fun (k : Nat) => (((n : Int) - 1) + (-1) * (k : Int)).toNat := by
      funext k; simp only [Function.comp]; congr 1; (first | lia | omega)
    rw [e1, e2, List.take_add_one]
    have hn : n < xs.size := h
    rw [List.filterMap_cons]
    simp only [Array.getElem?_eq_getElem hn]
    rw [ih (by (first | lia | omega))]
    simp [hn]
theorem pick_back (xs : Array Value) : slicePick xs none none (some (-1)) = xs.toList.reverse.toArray := by
  have e : sliceBounds none none (some (-1)) xs.size = ((xs.size : Int) - 1, -1, -1) := by
    simp only [sliceBounds, Option.getD_some]
    simp
  unfold slicePick
  rw [e]
  have h0 : sliceRange ((xs.size : Int) - 1) (-1) (-1) = (List.range xs.size).map fun (k : Nat) => (((xs.size : Int) - 1) + (-1) * (k : Int)).toNat := by
    unfold sliceRange
    have hn : ¬ ((-1 : Int) > 0) := by decide
    simp only [hn, if_false]
    by_cases q : (xs.size : Int) - 1 > -1
    · simp only [q, if_true]
      have : ((xs.size : Int) - 1 - -1 - -1 - 1) / (- -1) = (xs.size : Int) := by simp
      rw [this, Int.toNat_natCast]
    · have : xs.size = 0 := by (first | lia | omega)
      simp [this]
  show ((sliceRange ((xs.size : Int) - 1) (-1) (-1)).filterMap (xs[·]?)).toArray = _
  rw [h0, pick_down xs xs.size (Nat.le_refl _)]
  congr 1
  rw [List.take_of_length_le (by simp)]
theorem Sim_Back {value u : PySem.Expr} {p pos : Pos} {m1 m2 : M V} (c : Option Nat) (hc : okSlot C c) (h1 : SimE C (eval value C.env) m1) (h2 : SimE C (eval u C.env) m2) (hs : ∀ o i, subscripted (.Slice none none (some u) p) false o i = operate [o, i] (getItem o i) := by intro _ _; with_unfolding_all rfl) :
    SimE C (eval (.Subscript value (.Slice none none (some u) p) pos) C.env) (do let a ← m1; let b ← m2; vBack c a b) := by
  intro h₀ ζ ρ st s P E ok rel v st' e k
  obtain ⟨a, s1, e1, e⟩ := M.bind_some e
  obtain ⟨b, s2, e2, e3⟩ := M.bind_some e
  refine Subscript_ (h1 h₀ ζ ρ st s _ E ok rel a s1 e1 fun ζ1 ρ1 h1' tk1 x G1 rel1 r1 => wpAny_Slice (wpAny_evalPart_none (wpAny_evalPart_none (wpAny_evalPart_some (h2 h₀ ζ1 ρ1 s1 _ _ E ok rel1 b s2 e2 fun ζ2 ρ2 h2' tk2 y G2 rel2 r2 => ?_)))))
  have r1' := VR.gr rel1 G2 r1
  unfold vBack at e3
  split at e3
  · rename_i xs kk q
    split at e3
    · rename_i hg
      obtain ⟨rfl, hg⟩ := hg
      simp only [VR] at r2
      obtain ⟨t, rfl⟩ := r2
      have rel3 := rel2.push { cls := .type "slice", data := .fields #[.none, .none, .int (-1) t] }
      have G3 : Gr C.T h2' ζ2 ρ2 _ ζ2 ρ2 := Gr.push h2' { cls := .type "slice", data := .fields #[.none, .none, .int (-1) t] }
      have r1'' := VR.gr rel2 G3 r1'
      obtain ⟨l, ys, rfl, hl, hys⟩ := lView_at rel3 q r1''
      have hz : ys.size = xs.length := by rw [← hys.length]; simp
      refine tail_any hl.typeIs list_getitem_lookup (wpAny_getItem_list_slice hl (Heap.IsSliceOf.new ..) .none .none (.int (-1) t) (by decide) ?_ (hz ▸ lim_le hg)) (hs _ _)
      obtain ⟨ζ', ρ', G', R', hv⟩ := list_made (o := { cls := .type "list", data := .seq (slicePick ys none none (some (-1))) }) rel3 hc e3 hys.reverse.toA ⟨0, by rw [pick_back]⟩ rfl
      exact k _ _ _ _ _ (((G1.trans G2).trans G3).trans G') R' hv
    · cases e3
  · cases e3
noncomputable def dropRefs (n : Nat) (loc : Nat → Option V) : Nat → Option V := fun i => match loc i with
  | some (.ref m) => if m = n then none else some (.ref m)
  | v => v
noncomputable def M.kill (n : Nat) : M Unit := fun s => some ((), ⟨dropRefs n s.loc, upd s.hp n none⟩)
theorem dropRefs_some {n : Nat} {loc : Nat → Option V} {i : Nat} {v : V} (h : dropRefs n loc i = some v) : loc i = some v ∧ v ≠ .ref n := by
  unfold dropRefs at h
  split at h
  · rename_i m q
    split at h
    · cases h
    · rename_i hn; cases h; exact ⟨q, fun e => by cases e; exact hn rfl⟩
  · rename_i hv; exact ⟨h, fun e => by subst e; exact hv n h⟩
theorem Rel.kill {h₀ ζ : HM} {ρ : RM} {st : St} {h : Heap} (R : Rel C h₀ ζ ρ st h) (n : Nat) (hB : C.B ≤ n) (b100 : 100 ≤ C.B) :
    Rel C h₀ ζ (upd ρ n none) ⟨dropRefs n st.loc, upd st.hp n none⟩ h ∧ Gr C.B h ζ ρ h ζ (upd ρ n none) := by
  have dn : ∀ m a, upd ρ n none m = some a → m ≠ n ∧ ρ m = some a := fun m a e => by
    by_cases q : m = n
    · subst q; rw [upd_same] at e; cases e
    · rw [upd_ne _ _ q] at e; exact ⟨q, e⟩
  have low : LowLe ρ (upd ρ n none) := fun m a hm e => by rw [upd_ne _ _ (by (first | lia | omega))]; exact e
  refine ⟨⟨⟨R.ok, R.kept, R.frozen, R.fcls, fun m O e => ?_, fun m e => ?_, fun m m' a e e' => R.inj m m' a (dn _ _ e).2 (dn _ _ e').2, fun m a e => R.offz m a (dn _ _ e).2, fun m a e => R.offk m a (dn _ _ e).2, R.good, fun m e => R.sysr m (dn _ _ e).2, R.sysz⟩,
    fun m hm => ?_, fun m h1 h2 h3 => ?_, fun i v e => ?_, R.plok, fun i pl e => ⟨(R.ploff i pl e).1, (R.ploff i pl e).2.1, fun m q => (R.ploff i pl e).2.2 m (dn _ _ q).2⟩, R.plinj⟩, ⟨Le.refl _, fun m a hm e => by rw [upd_ne _ _ (by (first | lia | omega))]; exact e, fun _ _ e => .inl e, fun m a e => .inl (dn _ _ e).2, fun _ e => e⟩⟩
  · by_cases q : m = n
    · subst q; simp only [upd_same] at e; cases e
    · simp only [upd_ne _ _ q] at e
      obtain ⟨a, o, h1, h2, h3⟩ := R.slot m O e
      exact ⟨a, o, by rw [upd_ne _ _ q]; exact h1, h2, h3.mono (Le.refl _) low⟩
  · by_cases q : m = n
    · subst q; exact upd_same _ _ _
    · simp only [upd_ne _ _ q] at e; rw [upd_ne _ _ q]; exact R.dom m e
  · show upd st.hp n none m = none
    by_cases q : m = n
    · subst q; exact upd_same _ _ _
    · rw [upd_ne _ _ q]; exact R.fresh m hm
  · refine R.mid m h1 h2 fun q => h3 ?_
    show upd st.hp n none m = none
    by_cases q' : m = n
    · subst q'; exact upd_same _ _ _
    · rw [upd_ne _ _ q']; exact q
  · obtain ⟨e1, e2⟩ := dropRefs_some e
    obtain ⟨pl, x, h1, h2, h3⟩ := R.var i v e1
    refine ⟨pl, x, h1, h2, ?_⟩
    cases v with
    | ref m =>
      have hm : m ≠ n := fun q => e2 (by rw [q])
      simp only [VR] at h3 ⊢
      obtain ⟨a, h4, h5⟩ := h3
      exact ⟨a, by rw [upd_ne _ _ hm]; exact h4, h5⟩
    | _ => exact VR.lowMono (Le.refl _) low _ _ rfl h3
theorem Sim_kill {t : Sem Flow} {m : M Fl} (n : Nat) (h : SimF C t m) (hn : C.B ≤ n) : SimF C t (do M.kill n; m) := by
  intro h₀ ζ ρ st s P E ok rel a st' e k
  obtain ⟨_, s1, e1, e2⟩ := M.bind_some e
  cases e1
  obtain ⟨R', G'⟩ := rel.kill n hn ok.b100
  exact h h₀ ζ _ _ s P E ok R' a st' e2 fun ζ2 ρ2 h2 tk2 b G2 rel2 r2 => k ζ2 ρ2 h2 tk2 b (G'.trans G2) rel2 r2
noncomputable def M.sets : List Nat → List V → M Unit
  | [], [] => pure ()
  | i :: is, v :: vs => do M.setL i v; M.sets is vs
  | _, _ => M.fail
theorem M.sets_length : ∀ {is : List Nat} {vs : List V} {st : St} {r}, M.sets is vs st = some r → is.length = vs.length
  | [], [], _, _, _ => rfl
  | _ :: _, _ :: _, _, _, h => by obtain ⟨_, _, _, h2⟩ := M.bind_some h; simp [M.sets_length h2]
  | [], _ :: _, _, _, h => by cases h
  | _ :: _, [], _, _, h => by cases h
inductive SimSts (C : Cx) : List (Value → Sem Unit) → List Nat → Prop
  | nil : SimSts C [] []
  | cons {t : Value → Sem Unit} {i : Nat} {ts : List (Value → Sem Unit)} {is : List Nat} (h : SimK C C.T (VR C.W) t (fun v => M.setL i v) (fun _ _ _ _ => True)) (r : SimSts C ts is) : SimSts C (t :: ts) (i :: is)
theorem SimSts.length {ts : List (Value → Sem Unit)} {is : List Nat} (h : SimSts C ts is) : ts.length = is.length := by
  induction h with
  | nil => rfl
  | cons _ _ ih => simp [ih]
theorem Sim_inOrder {ts : List (Value → Sem Unit)} {is : List Nat} (h : SimSts C ts is) : SimK C C.T (VRa C.W) (fun xs => assignInOrder ts xs) (M.sets is) (fun _ _ _ _ => True) := by
  induction h with
  | nil =>
    intro h₀ ζ ρ st s P E vs xs ok rel r a st' e k
    cases vs with
    | nil => cases e; simp only [VRa] at r; subst r; exact wpAny_assignInOrder_none (k ζ ρ s.heap s.toks _ (Gr.refl _ _ _ _) rel trivial)
    | cons _ _ => cases e
  | cons h1 _ ih =>
    intro h₀ ζ ρ st s P E vs xs ok rel r a st' e k
    cases vs with
    | nil => cases e
    | cons v vs =>
      obtain ⟨x, xs', rfl, r1, r2⟩ := r
      obtain ⟨_, s1, e1, e2⟩ := M.bind_some e
      refine wpAny_assignInOrder_more (h1 h₀ ζ ρ st s _ E v x ok rel r1 _ s1 e1 fun ζ1 ρ1 h1' tk1 _ G1 rel1 _ => ?_)
      exact ih h₀ ζ1 ρ1 s1 _ P E vs xs' ok rel1 (r2.gr rel G1) a st' e2 fun ζ2 ρ2 h2 tk2 b G2 rel2 r2 => k ζ2 ρ2 h2 tk2 b (G1.trans G2) rel2 r2
theorem Rel.newer {h₀ ζ : HM} {ρ : RM} {st : St} {h h' : Heap} (R : Rel C h₀ ζ ρ st h) (he : Heap.ExtBut h.objs.size h h') : Rel C h₀ ζ ρ st h' ∧ Gr C.T h ζ ρ h' ζ ρ := by
  have keep : ∀ b o, h.get? b = some o → h'.get? b = some o := fun b o e => he b o (Nat.ne_of_lt (Heap.lt_size e)) e
  refine ⟨R.off (fun _ => False) (fun b o _ e => keep b o e) (fun _ x => x.elim) (fun _ _ _ x => x), Gr.heap fun a e => ?_⟩
  cases q : h.get? a with
  | none => exact absurd q e
  | some o => rw [keep a o q]; exact nofun
theorem Sim_AssignDisp {elts vals : List PySem.Expr} {k k' : Nat} {tpos vpos pos : Pos} {m : M (List V)} {is : List Nat} (h : SimEs C (spliced (backTo vpos (starEach vals C.env))) m) (hst : SimSts C ((assignEach elts C.env).map (·.2)) is) (hx : (assignEach elts C.env).findIdx? (·.1) = none := by rfl)
    (hs : swapsWithSole [.Tuple elts k tpos] (.Tuple vals k' vpos) pos.line C.env = pure false := by rfl) (hw : swappedStores [.Tuple elts k tpos] (.Tuple vals k' vpos) C.env = pure none := by rfl) :
    SimF C (exec (.Assign [.Tuple elts k tpos] (.Tuple vals k' vpos) pos) C.env) (do let vs ← m; M.guard (decide (vs.length ≤ 100)); M.sets is vs; pure .next) := by
  intro h₀ ζ ρ st s P E ok rel a st' e kk
  obtain ⟨vs, s1, e1, e⟩ := M.bind_some e
  obtain ⟨_, s2, e2, e⟩ := M.bind_some e
  obtain ⟨u, s3, e3, e4⟩ := M.bind_some e
  cases e4
  obtain ⟨hg, hs2⟩ := M.guard_some e2
  cases hs2
  simp only [decide_eq_true_eq] at hg
  refine Assign_Tuple (wpAny_Tuple_spliced (h h₀ ζ ρ st s _ E ok rel vs _ e1 fun ζ1 ρ1 h1 tk1 ys G1 rel1 r1 => ⟨lim_le (Nat.le_trans (r1.length ▸ hg) (by decide)), ?_⟩)) hs hw
  have R2 := rel1.push { cls := .type "tuple", data := .seq ys.toArray }
  have G2 : Gr C.T h1 ζ1 ρ1 _ ζ1 ρ1 := Gr.push h1 { cls := .type "tuple", data := .seq ys.toArray }
  have ht : IsTup (h1.push { cls := .type "tuple", data := .seq ys.toArray }) h1.objs.size ys.toArray := ⟨_, Heap.get?_push_size h1 rfl, rfl, 0, rfl⟩
  rw [arm_assign_Tuple]
  refine wpAny_bind (wpAny_standAt ?_)
  have hn : (assignEach elts C.env).length = ys.toArray.size := by rw [List.size_toArray, r1.length, ← M.sets_length e3, ← hst.length, List.length_map]
  unfold unpack
  rw [hn, hx]
  refine wpAny_bind (wpAny_holding (unpackItems_tuple ok.room.handled ht fun h' he => ?_))
  obtain ⟨R3, G3⟩ := R2.newer he
  exact Sim_inOrder hst h₀ ζ1 ρ1 s1 _ _ E vs ys ok R3 r1 _ _ e3 fun ζ2 ρ2 h2 tk2 b G4 rel2 r2 => kk ζ2 ρ2 h2 tk2 _ ((((G1.trans G2).trans G3).trans G4).weak ok.bt) rel2 rfl
theorem Sim_AssignSwap {elts vals : List PySem.Expr} {k k' : Nat} {tpos vpos pos : Pos} {names : List Str} {m : M (List V)} {is : List Nat} (h : SimEs C (spliced (backTo vpos (starEach vals C.env))) m)
    (hst : SimSts C (names.reverse.map fun n => bindName C.env n) is)
    (hw : swappedStores [.Tuple elts k tpos] (.Tuple vals k' vpos) C.env = pure (some names)) (hs : swapsWithSole [.Tuple elts k tpos] (.Tuple vals k' vpos) pos.line C.env = pure false := by rfl) :
    SimF C (exec (.Assign [.Tuple elts k tpos] (.Tuple vals k' vpos) pos) C.env) (do let vs ← m; M.guard (decide (vs.length ≤ 100)); M.sets is vs.reverse; pure .next) := by
  intro h₀ ζ ρ st s P E ok rel a st' e kk
  obtain ⟨vs, s1, e1, e⟩ := M.bind_some e
  obtain ⟨_, s2, e2, e⟩ := M.bind_some e
  obtain ⟨u, s3, e3, e4⟩ := M.bind_some e
  cases e4
  obtain ⟨hg, hs2⟩ := M.guard_some e2
  cases hs2
  simp only [decide_eq_true_eq] at hg
  refine Assign_Tuple_swapped (names := names) (wpAny_Tuple_spliced (h h₀ ζ ρ st s _ E ok rel vs _ e1 fun ζ1 ρ1 h1 tk1 ys G1 rel1 r1 => ⟨lim_le (Nat.le_trans (r1.length ▸ hg) (by decide)), ?_⟩)) hs hw
  have R2 := rel1.push { cls := .type "tuple", data := .seq ys.toArray }
  have G2 : Gr C.T h1 ζ1 ρ1 _ ζ1 ρ1 := Gr.push h1 { cls := .type "tuple", data := .seq ys.toArray }
  have ht : IsTup (h1.push { cls := .type "tuple", data := .seq ys.toArray }) h1.objs.size ys.toArray := ⟨_, Heap.get?_push_size h1 rfl, rfl, 0, rfl⟩
  have hn : names.length = ys.toArray.size := by
    have h1 := M.sets_length e3
    have h2 := hst.length
    simp only [List.length_map, List.length_reverse] at h1 h2
    rw [List.size_toArray, r1.length]; (first | lia | omega)
  rw [hn]
  refine unpackItems_tuple ok.room.handled ht fun h' he => ?_
  obtain ⟨R3, G3⟩ := R2.newer he
  have rv : ∀ {v : List V} {x : List Value}, VRa C.W ζ1 ρ1 v x → VRa C.W ζ1 ρ1 v.reverse x.reverse := by
    intro v
    induction v with
    | nil => intro x hx; simp only [VRa] at hx; subst hx; simp [VRa]
    | cons v vs ih =>
      intro x hx
      obtain ⟨y, r, rfl, h1, h2⟩ := hx
      simp only [List.reverse_cons]
      exact (ih h2).append ⟨y, [], rfl, h1, rfl⟩
  exact Sim_inOrder hst h₀ ζ1 ρ1 s1 _ _ E vs.reverse ys.reverse ok R3 (rv r1) _ _ e3 fun ζ2 ρ2 h2 tk2 b G4 rel2 r2 => kk ζ2 ρ2 h2 tk2 _ ((((G1.trans G2).trans G3).trans G4).weak ok.bt) rel2 rfl
theorem SimSts.name {x : Str} {i : Nat} {pos : Pos} (h : SimSt C x i) : SimK C C.T (VR C.W) (fun y => assign (.Name x pos) C.env y) (fun v => M.setL i v) (fun _ _ _ _ => True) := SimA.name h
theorem SimSts.bind {x : Str} {i : Nat} (h : SimSt C x i) : SimK C C.T (VR C.W) (fun y => bindName C.env x y) (fun v => M.setL i v) (fun _ _ _ _ => True) := by
  intro h₀ ζ ρ st s P E v y ok rel r a st' e k
  exact bindName_ (h h₀ ζ ρ st s P E v y ok rel r a st' e k)
end Lay
end

section
open PySem PySem.W PyProof.Rows
set_option Elab.async false
set_option linter.unusedVariables false
namespace Lay
variable {C : Cx}
noncomputable def VRq (W : Wd) (ζ : HM) (ρ : RM) : List (V × V) → List (Value × Value) → Prop
  | [], ys => ys = []
  | (k, v) :: xs, ys => ∃ a b r, ys = (a, b) :: r ∧ VR W ζ ρ k a ∧ VR W ζ ρ v b ∧ VRq W ζ ρ xs r
noncomputable abbrev SimQ (C : Cx) (t : Sem (List (Value × Value))) (m : M (List (V × V))) : Prop := Sim C C.T t m (VRq C.W)
theorem SimQ.nil {pos : Pos} : SimQ C (evalPairs (pairTrees [] [] C.env pos)) (pure []) := by
  intro h₀ ζ ρ st s P E ok rel a st' e k
  cases e
  exact pairTrees_nil_walk (k ζ ρ s.heap s.toks _ (Gr.refl _ _ _ _) rel rfl)
theorem SimQ.cons {k v : PySem.Expr} {ks : List (Option PySem.Expr)} {vs : List PySem.Expr} {pos : Pos} {m1 m2 : M V} {m3 : M (List (V × V))} (h1 : SimE C (eval k C.env) m1) (h2 : SimE C (eval v C.env) m2) (h3 : SimQ C (evalPairs (pairTrees ks vs C.env pos)) m3) :
    SimQ C (evalPairs (pairTrees (some k :: ks) (v :: vs) C.env pos)) (do let a ← m1; let b ← m2; let r ← m3; pure ((a, b) :: r)) := by
  intro h₀ ζ ρ st s P E ok rel v' st' e kk
  obtain ⟨a, s1, e1, e⟩ := M.bind_some e
  obtain ⟨b, s2, e2, e⟩ := M.bind_some e
  obtain ⟨r, s3, e3, e4⟩ := M.bind_some e
  cases e4
  refine pairTrees_cons_walk (h1 h₀ ζ ρ st s _ E ok rel a s1 e1 fun ζ1 ρ1 h1' tk1 x G1 rel1 r1 => h2 h₀ ζ1 ρ1 s1 _ _ E ok rel1 b s2 e2 fun ζ2 ρ2 h2' tk2 y G2 rel2 r2 => h3 h₀ ζ2 ρ2 s2 _ _ E ok rel2 r st' e3 fun ζ3 ρ3 h3' tk3 z G3 rel3 r3 => ?_)
  exact kk ζ3 ρ3 h3' tk3 _ ((G1.trans G2).trans G3) rel3 ⟨x, y, z, rfl, VR.gr rel2 G3 (VR.gr rel1 G2 r1), VR.gr rel2 G3 r2, r3⟩
noncomputable def pairsOf {K : Type} (key : V → Option K) : List (V × V) → Option (List (K × V))
  | [] => some []
  | (k, v) :: r => match key k, v.low, pairsOf key r with
    | some k', true, some r' => some ((k', v) :: r')
    | _, _, _ => none
noncomputable def strKey : V → Option Str
  | .str i => some i
  | _ => none
noncomputable def mkDict {K : Type} [DecidableEq K] (key : V → Option K) (mk : List (K × V) → O) (n : Nat) (vs : List (V × V)) : M V := fun s => match pairsOf key vs with
  | some kvs => M.new n (mk (kvs.foldl (fun d kv => kvSet d kv.1 kv.2) [])) s
  | none => none
theorem VRk.merged {K : Type} [DecidableEq K] {W : Wd} {ζ : HM} {ρ : RM} : ∀ {kvs : List (K × V)} {kys : List (K × Value)} {acc : List (K × V)} {bcc : List (K × Value)}, VRk W ζ ρ acc bcc → VRk W ζ ρ kvs kys →
    VRk W ζ ρ (kvs.foldl (fun d kv => kvSet d kv.1 kv.2) acc) (merged bcc kys)
  | [], _, _, _, h, h' => by simp only [VRk] at h'; subst h'; simpa [PySem.merged] using h
  | (k, v) :: r, _, _, _, h, hH => by
    obtain ⟨y, r', e, hl, h1, h2⟩ := hH
    subst e
    simp only [List.foldl_cons]
    have := VRk.merged (h.stored k hl h1) h2
    simpa [PySem.merged] using this
theorem carries_of {W : Wd} {K : Type} [DecidableEq K] {knd : KeyKind W.prog W.w K} {key : V → Option K} {ζ : HM} {ρ : RM} (hkey : ∀ v x k, key v = some k → VR W ζ ρ v x → knd.is k x = true) : ∀ {vs : List (V × V)} {xs : List (Value × Value)} {kvs : List (K × V)}, pairsOf key vs = some kvs → VRq W ζ ρ vs xs →
    ∃ kys, Carries knd xs kys ∧ VRk W ζ ρ kvs kys
  | [], _, _, e, h => by cases e; simp only [VRq] at h; subst h; exact ⟨[], trivial, rfl⟩
  | (k, v) :: r, _, _, e, hH => by
    obtain ⟨a, b, r', e', h1, h2, h3⟩ := hH
    subst e'
    unfold pairsOf at e
    split at e
    · rename_i k' rs q1 q2 q3
      cases e
      obtain ⟨kys, c1, c2⟩ := carries_of hkey q3 h3
      exact ⟨(k', b) :: kys, ⟨hkey _ _ _ q1 h1, rfl, c1⟩, b, kys, rfl, q2, h2, c2⟩
    · cases e
theorem Rel.swapObj {h₀ ζ : HM} {ρ : RM} {st : St} {h h' : Heap} {D : Addr} (R : Rel C h₀ ζ ρ st h) (off : Off C h₀ ζ ρ D) (hs : Heap.SameBut D h h') : Rel C h₀ ζ ρ st h' :=
  R.off (· = D) (fun b o hb q => (hs.2 b hb).trans q) (fun b q => q ▸ ⟨off.z, off.k, off.r⟩) off.p
theorem Sim_Dict {K : Type} [DecidableEq K] {knd : KeyKind C.W.prog C.W.w K} {key : V → Option K} {mk : List (K × V) → O} {keys : List (Option PySem.Expr)} {values : List PySem.Expr} {pos : Pos} {m : M (List (V × V))} (n : Nat)
    (hmk : ∀ ζ ρ kvs o, (∃ es n kys, o = dctO es n ∧ Ent C.W knd es kys ∧ VRk C.W ζ ρ kvs kys) → OR C.W ζ ρ (mk kvs) o) (hkey : ∀ ζ ρ v x k, key v = some k → VR C.W ζ ρ v x → knd.is k x = true)
    (h : SimQ C (evalPairs (pairTrees keys values C.env pos)) m) (hT : n < C.T) (hB : n < 100 ∨ C.B ≤ n)
    (hall : keys.all (·.isSome) = true := by rfl) (hl : keys.length = values.length := by rfl) (h0 : keys ≠ [] := by exact nofun) (hlen : keys.length ≤ 15 := by decide) :
    SimE C (eval (.Dict keys values pos) C.env) (do let vs ← m; mkDict key mk n vs) := by
  intro h₀ ζ ρ st s P E ok rel v st' e kk
  obtain ⟨vs, s1, e1, e2⟩ := M.bind_some e
  have offD := rel.offNew (get_size s.heap)
  have sysD := rel.not_sys (Nat.le_refl _)
  have hD0 : (s.heap.push { cls := .type "dict", data := .dict #[] }).get? s.heap.objs.size = some { cls := .type "dict", data := .dict #[] } := Heap.get?_push_size _ rfl
  have rel0 := rel.push { cls := .type "dict", data := .dict #[] }
  have relK := rel0.addK hD0 ⟨offD.z, offD.k, offD.r⟩ offD.p
  have le := upd_le (b := ({ cls := .type "dict", data := .dict #[] } : Obj)) offD.k
  refine wpAny_Dict_walk (knd := knd) hall hl h0 hlen (h _ ζ ρ st _ _ E ok relK vs s1 e1 fun ζ1 ρ1 h1 tk1 ys G1 rel1 r1 => ?_)
  unfold mkDict at e2
  split at e2
  · rename_i kvs hp
    obtain ⟨hn, e3⟩ := M.new_some e2
    cases e3
    obtain ⟨kys, c1, c2⟩ := carries_of (hkey ζ1 ρ1) hp r1
    have hD1 : h1.get? s.heap.objs.size = some { cls := .type "dict", data := .dict #[] } := rel1.kept _ _ (upd_same _ _ _)
    have offD1 : Off C h₀ ζ1 ρ1 s.heap.objs.size := Off.gr offD G1 (by rw [hD0]; exact nofun)
    refine ⟨kys, c1, ⟨_, #[], 0, hD1, ⟨rfl, rfl, rfl⟩, rfl, fun e he => by simp at he, .nil, List.nodup_nil⟩, fun h' hd hs => ?_⟩
    obtain ⟨es, m', ho, he⟩ := Ent.back hd
    have rel2 := (rel1.dropK le rel.good).swapObj offD1 hs
    have hle : Le ρ1 (upd ρ1 n (some s.heap.objs.size)) := upd_le (rel1.dom n hn)
    have R3 := rel2.adoptS ho offD1 sysD n hn hT hB (mk (kvs.foldl (fun d kv => kvSet d kv.1 kv.2) [])) (hmk _ _ _ _ ⟨es, m', _, rfl, he, VRk.merged (by simp [VRk]) (c2.mono (Le.refl _) hle.low)⟩)
    have dm : ∀ b, s.heap.get? b ≠ none → h'.get? b ≠ none := fun b q => by
      have hb : b ≠ s.heap.objs.size := fun q' => q (q' ▸ get_size s.heap)
      rw [hs.2 b hb]
      refine G1.dm b ?_
      cases q2 : s.heap.get? b with
      | none => exact absurd q2 q
      | some o => show (s.heap.push _).get? b ≠ none; rw [push_keeps _ _ _ _ q2]; exact nofun
    have dn : ∀ b, (s.heap.push { cls := .type "dict", data := .dict #[] }).get? b = none → s.heap.get? b = none := fun b q => by
      cases q2 : s.heap.get? b with
      | none => rfl
      | some o => rw [push_keeps _ _ _ _ q2] at q; cases q
    refine kk _ _ _ _ _ ⟨G1.zl, fun m a hm q => hle _ _ (G1.rl m a hm q), fun a o q => (G1.zn a o q).imp id (dn a), fun m a q => ?_, dm⟩ R3 (by simp only [VR]; exact ⟨_, upd_same _ _ _, rfl⟩)
    by_cases q' : m = n
    · subst q'; rw [upd_same] at q; cases q; exact .inr (get_size _)
    · rw [upd_ne _ _ q'] at q; exact (G1.rn m a q).imp id (dn a)
  · cases e2
theorem Sim_DictStr {keys : List (Option PySem.Expr)} {values : List PySem.Expr} {pos : Pos} {m : M (List (V × V))} (n : Nat) (h : SimQ C (evalPairs (pairTrees keys values C.env pos)) m) (hT : n < C.T) (hB : n < 100 ∨ C.B ≤ n)
    (hall : keys.all (·.isSome) = true := by rfl) (hl : keys.length = values.length := by rfl) (h0 : keys ≠ [] := by exact nofun) (hlen : keys.length ≤ 15 := by decide) :
    SimE C (eval (.Dict keys values pos) C.env) (do let vs ← m; mkDict strKey .sdict n vs) := by
  refine Sim_Dict (knd := strKind C.W.prog C.W.w) n (fun _ _ _ _ h => h) (fun ζ ρ v x k hk r => ?_) h hT hB hall hl h0 hlen
  cases v <;> cases hk
  simp only [VR] at r
  obtain ⟨t, rfl⟩ := r
  exact isStr_self _ t
theorem Sim_DictE {pos : Pos} (n : Nat) (O : O) (hO : ∀ ζ ρ, OR C.W ζ ρ O (dctO #[] 0)) (hT : n < C.T) (hB : n < 100 ∨ C.B ≤ n) : SimE C (eval (.Dict [] [] pos) C.env) (M.new n O) := by
  intro h₀ ζ ρ st s P E ok rel v st' e kk
  obtain ⟨hn, e3⟩ := M.new_some e
  cases e3
  refine wpAny_Dict_empty ?_
  obtain ⟨R', G'⟩ := rel.pushS n hn hT hB O { cls := .type "dict", data := .dict #[] } rfl (hO _ _)
  exact kk _ _ _ _ _ G' R' (by simp only [VR]; exact ⟨_, upd_same _ _ _, rfl⟩)
theorem Ent.none {W : Wd} {K : Type} [DecidableEq K] (knd : KeyKind W.prog W.w K) : Ent W knd #[] [] := ⟨fun e he => by simp at he, .nil, List.nodup_nil⟩
theorem emptyI {W : Wd} (ζ : HM) (ρ : RM) : OR W ζ ρ (.idict []) (dctO #[] 0) := ⟨#[], 0, [], rfl, Ent.none _, rfl⟩
theorem emptyT {W : Wd} (ζ : HM) (ρ : RM) : OR W ζ ρ (.tdict []) (dctO #[] 0) := ⟨#[], 0, [], rfl, rfl, List.nodup_nil, rfl⟩
theorem emptyA {W : Wd} (ζ : HM) (ρ : RM) : OR W ζ ρ (.attrs []) (dctO #[] 0) := ⟨#[], 0, rfl, fun e he => by simp at he, by unfold UniqKeys; exact .nil, fun x => rfl⟩
end Lay
end

section
open PySem PySem.W PyProof.Rows
set_option Elab.async false
set_option linter.unusedVariables false
namespace Lay
variable {C : Cx}
theorem length_of_sub {α : Type} [DecidableEq α] : ∀ {l m : List α}, l.Nodup → (∀ x ∈ l, x ∈ m) → l.length ≤ m.length
  | [], _, _, _ => Nat.zero_le _
  | a :: l, m, hn, hs => by
    rw [List.nodup_cons] at hn
    have ha : a ∈ m := hs a (.head _)
    have : l.length ≤ (m.erase a).length := length_of_sub hn.2 fun x hx => (List.mem_erase_of_ne (by rintro rfl; exact hn.1 hx)).mpr (hs x (.tail _ hx))
    rw [List.length_erase_of_mem ha] at this
    have hpos : 0 < m.length := List.length_pos_of_mem ha
    rw [List.length_cons]; (first | lia | omega)
theorem attrs_size {W : Wd} {ζ : HM} {ρ : RM} {kvs : List (Str × V)} {es : Array DictEntry} (h : AttrsAre W ζ ρ kvs es) : es.size ≤ kvs.length := by
  obtain ⟨hk, hu, hm⟩ := h
  have key : ∀ l : List DictEntry, (∀ e ∈ l, ∃ n t, e.key = .str n t) → (l.Pairwise fun a b => ∀ n, a.key.isStr n = true → b.key.isStr n = true → False) → ∃ ns : List Str, ns.length = l.length ∧ ns.Nodup ∧ ∀ n ∈ ns, ∃ e ∈ l, e.key.isStr n = true := by
    intro l
    induction l with
    | nil => intro _ _; exact ⟨[], rfl, List.nodup_nil, nofun⟩
    | cons e l ih =>
      intro h1 h2
      rw [List.pairwise_cons] at h2
      obtain ⟨ns, e1, e2, e3⟩ := ih (fun e he => h1 e (.tail _ he)) h2.2
      obtain ⟨n, t, hn⟩ := h1 e (.head _)
      have hs : e.key.isStr n = true := by rw [hn]; simp [Value.isStr]
      refine ⟨n :: ns, by simp [e1], List.nodup_cons.mpr ⟨fun q => ?_, e2⟩, fun m hm => ?_⟩
      · obtain ⟨e', he', hq⟩ := e3 n q
        exact h2.1 e' he' n hs hq
      · rcases List.mem_cons.mp hm with rfl | hm
        · exact ⟨e, .head _, hs⟩
        · obtain ⟨e', he', hq⟩ := e3 m hm; exact ⟨e', .tail _ he', hq⟩
  obtain ⟨ns, e1, e2, e3⟩ := key es.toList (fun e he => hk e (Array.mem_toList_iff.mp he)) hu
  have : ns.length ≤ (kvs.map (·.1)).length := length_of_sub e2 fun n hn => by
    obtain ⟨e, he, hq⟩ := e3 n hn
    have := hm n
    cases q : kvGet kvs n with
    | none =>
      rw [q] at this
      simp only at this
      unfold nsFind findBy at this
      rw [Option.map_eq_none_iff, Array.find?_eq_none] at this
      exact absurd hq (by simpa using this e (Array.mem_toList_iff.mp he))
    | some v =>
      unfold kvGet at q
      obtain ⟨kv, h1, h2⟩ := Option.map_eq_some_iff.mp q
      have h3 := List.find?_some h1
      simp only [decide_eq_true_eq] at h3
      exact List.mem_map.mpr ⟨kv, List.mem_of_find?_eq_some h1, h3⟩
  rw [List.length_map, e1, Array.length_toList] at this
  exact this
noncomputable def SetOk (W : Wd) (Cl : Addr) (name : Str) : Prop := findIn W.K (.ref Cl) "__setattr__" = some (some (.builtin "object.__setattr__")) ∧ plainOver W.K Cl = true ∧ takerIn W.K Cl name = some none ∧ (clsIn W.K Cl).any (·.hasDict) = true
noncomputable def setA (Cl : Addr) (name : Str) (v u : V) : M Unit := fun s => match v with
  | .ref n => (match s.hp n with
    | some (.inst c d) => (match s.hp d with
      | some (.attrs kvs) => if c = Cl ∧ u.low = true ∧ kvs.length < 1000 then some ((), { s with hp := upd s.hp d (some (.attrs (kvSet kvs name u))) }) else none
      | _ => none)
    | _ => none)
  | _ => none
theorem kvSet_length {K : Type} [DecidableEq K] {α : Type} (kvs : List (K × α)) (k : K) (v : α) : (kvSet kvs k v).length ≤ kvs.length + 1 := by
  unfold kvSet; split <;> simp
inductive SetA (Cl : Addr) (name : Str) (v u : V) (st st' : St) : Prop
  | mk (n d : Nat) (kvs : List (Str × V)) (hv : v = .ref n) (q1 : st.hp n = some (.inst Cl d)) (q2 : st.hp d = some (.attrs kvs)) (hlow : u.low = true) (hlen : kvs.length < 1000) (hs : st' = { st with hp := upd st.hp d (some (.attrs (kvSet kvs name u))) })
theorem setA_some {Cl : Addr} {name : Str} {v u : V} {st st' : St} {a : Unit} (e : setA Cl name v u st = some (a, st')) : SetA Cl name v u st st' := by
  unfold setA at e
  split at e
  · split at e
    · rename_i q1
      split at e
      · rename_i q2
        split at e
        · rename_i hg
          cases e
          obtain ⟨rfl, hlow, hlen⟩ := hg
          exact ⟨_, _, _, rfl, q1, q2, hlow, hlen, rfl⟩
        · cases e
      · cases e
    · cases e
  · cases e
theorem AttrsAre.set {W : Wd} {ζ : HM} {ρ : RM} {kvs : List (Str × V)} {es es' : Array DictEntry} {name : Str} {u : V} {y : Value} (hat : AttrsAre W ζ ρ kvs es) (hk : StrKeys es') (hu : UniqKeys es') (hm : ∀ z, nsFind es' z = if z = name then some y else nsFind es z) (hlow : u.low = true) (ru : VR W ζ ρ u y) : AttrsAre W ζ ρ (kvSet kvs name u) es' := by
  refine ⟨hk, hu, fun z => ?_⟩
  rw [hm z, kvGet_set]
  by_cases q : z = name
  · subst q; simp only [if_true]; exact ⟨hlow, y, rfl, ru⟩
  · simp only [if_neg q]
    have := hat.2.2 z
    cases q3 : kvGet kvs z with
    | none => rw [q3] at this; exact this
    | some w => rw [q3] at this; exact this
theorem setA_code {Cl : Addr} {name : Str} {tk : Tok} (hok : SetOk C.W Cl name) {h₀ ζ : HM} {ρ : RM} {st : St} {s : Shared} {P : Shared → Prop} {E : Value → Shared → Prop} {v u : V} {x y : Value} (rel : Rel C h₀ ζ ρ st s.heap) (rv : VR C.W ζ ρ v x) (ru : VR C.W ζ ρ u y)
    {a : Unit} {st' : St} (e : setA Cl name v u st = some (a, st')) (k : ∀ h' tk', Gr C.T s.heap ζ ρ h' ζ ρ → Rel C h₀ ζ ρ st' h' → P { s with heap := h', toks := tk' }) :
    ∃ ax ox od, x = .ref ax ∧ InstAt s.heap ax ox Cl od ∧ codeAny (model C.W.prog C.W.w) C.A (.call (.builtin "object.__setattr__") ⟨[.ref ax, .str name tk, y], []⟩) (callPost (fun _ s' => P s') E) s := by
  obtain ⟨n, d, kvs, rfl, q1, q2, hlow, hlen, rfl⟩ := setA_some e
  obtain ⟨h1, h2, h3, h4⟩ := hok
  obtain ⟨n', d', dx, es, m, od, e1, q1', q2', hdx, hod, hdat, hat, ax, hax, rfl, I⟩ := inst_at rel (v := .ref n) (Cl := Cl) (kvs := kvs) (by unfold instOf; simp only [q1, q2]) rv
  cases e1
  rw [q1] at q1'; cases q1'
  refine ⟨ax, _, _, rfl, I, osa_open rel.ok.1 I h2 h3 fun b => ?_⟩
  obtain ⟨cd, hc, hd'⟩ := any_some h4
  have X := rel.ok.1
  obtain ⟨hx, -, -, -⟩ := I
  refine wpAny_bind (wpAny_pure (wpAny_bind (wpAny_bind (wpAny_loadPart hx (wpAny_bind ((looks_clsIn X hc).here ?_))))))
  rw [hd']
  refine wpAny_pure (a := some dx) (wpAny_bind (wpAny_pure (wpAny_bind ?_)))
  have hns : s.heap.Ns1 dx (nsFind es) := ⟨od, es, m, hod, hdat, hat.1, hat.2.1, fun _ => rfl⟩
  refine wpAny_nsSet1 hns fun h' hn' hs => ?_
  obtain ⟨o', es', m', ho', hd2, hk', hu', hm'⟩ := hn'
  have hat' : AttrsAre C.W ζ ρ (kvSet kvs name u) es' := hat.set hk' hu' (fun z => hm' z) hlow ru
  obtain ⟨R', G'⟩ := rel.set hdx hs ho' (O := .attrs (kvSet kvs name u)) ⟨es', m', hd2, hat'⟩
  refine wpAny_bind (wpAny_lookBehind ho' (by
    rw [hd2]
    refine pastItsLine_dict ?_
    have e1 := attrs_size hat'
    have e2 := kvSet_length kvs name u
    rw [sizeLine_eq]; (first | lia | omega)) (wpAny_pure ?_))
  exact k _ _ G' R'
theorem setA_K {Cl : Addr} {name : Str} (hok : SetOk C.W Cl name) {h₀ ζ : HM} {ρ : RM} {st : St} {s : Shared} {P : Unit → Shared → Prop} {E : Value → Shared → Prop} {v u : V} {x y : Value} (rel : Rel C h₀ ζ ρ st s.heap) (rv : VR C.W ζ ρ v x) (ru : VR C.W ζ ρ u y)
    {a : Unit} {st' : St} (e : setA Cl name v u st = some (a, st')) (k : ∀ h' tk', Gr C.T s.heap ζ ρ h' ζ ρ → Rel C h₀ ζ ρ st' h' → P () { s with heap := h', toks := tk' }) : wpAny (model C.W.prog C.W.w) C.A (setAttr x name y) P E s := by
  obtain ⟨ax, ox, od, rfl, I, hc⟩ := setA_code (tk := s.toks) (s := { s with toks := s.toks + 1 }) (P := fun s' => P () s') (E := E) hok rel rv ru e k
  exact set_plain rel.ok.1 I hok.1 hc
theorem Sim_AssignAttr {Cl : Addr} {o value : PySem.Expr} {name : Str} {pos' pos : Pos} {m mo : M V} (hok : SetOk C.W Cl name) (h : SimE C (eval value C.env) m) (ho : SimE C (eval o C.env) mo) (hs : swapsWith value (some (.Attribute o name pos')) pos.line C.env = pure false := by rfl) :
    SimF C (exec (.Assign [.Attribute o name pos'] value pos) C.env) (do let u ← m; let v ← mo; setA Cl name v u; pure .next) := by
  intro h₀ ζ ρ st s P E ok rel a st' e k
  obtain ⟨u, s1, e1, e⟩ := M.bind_some e
  obtain ⟨v, s2, e2, e⟩ := M.bind_some e
  obtain ⟨_, s3, e3, e4⟩ := M.bind_some e
  cases e4
  refine plainObj_wpAny_Assign_Attribute (h h₀ ζ ρ st s _ E ok rel u s1 e1 fun ζ1 ρ1 h1 tk1 y G1 rel1 r1 => ?_) hs
  refine ho h₀ ζ1 ρ1 s1 _ _ E ok rel1 v s2 e2 fun ζ2 ρ2 h2 tk2 x G2 rel2 r2 => ?_
  exact setA_K hok rel2 r2 (VR.gr rel1 G2 r1) e3 fun h3 tk3 G3 rel3 => k _ _ h3 tk3 _ (((G1.trans G2).trans G3).weak ok.bt) rel3 rfl
noncomputable def newM (n d : Nat) (Cl : Addr) (fm : FM) (vs : List V) : M V := do
  let _ ← M.new d (.attrs [])
  let _ ← M.new n (.inst Cl d)
  let r ← callM fm (.ref n :: vs)
  M.guard (match r with | .none => true | _ => false)
  pure (.ref n)
theorem SimC_new {Cl fI : Addr} {B k n d : Nat} {fm : FM} (hf : FnSim C.W (.ref fI) B k fm) (hB : C.T ≤ B) (hk : k + 1 ≤ C.k) (hm : makesIn C.W.K Cl = true) (hi : findIn C.W.K (.ref Cl) "__init__" = some (some (.ref fI))) (ht : typeIn C.W.K (.ref fI) = some (.type "function"))
    (hn : n < 100) (hd : d < 100) (hcT : 100 ≤ C.T) : SimC C (.ref Cl) (newM n d Cl fm) := by
  intro h₀ ζ ρ st s P E vs xs ok rel ra v st' e kk
  obtain ⟨_, s1, e1, e⟩ := M.bind_some e
  obtain ⟨_, s2, e2, e⟩ := M.bind_some e
  obtain ⟨r, s3, e3, e⟩ := M.bind_some e
  obtain ⟨_, s4, e4, e5⟩ := M.bind_some e
  obtain ⟨hg, q4⟩ := M.guard_some e4
  cases q4; cases e5
  obtain ⟨hd1, q⟩ := M.new_some e1
  cases q
  obtain ⟨hn1, q⟩ := M.new_some e2
  cases q
  obtain ⟨hh, g, dr, t, os⟩ := s
  obtain ⟨R1, G1⟩ := rel.pushS d hd1 (by (first | lia | omega)) (.inl hd) (.attrs []) emptyDict rfl (emptyA _ _)
  have hdx : upd ρ d (some hh.objs.size) d = some hh.objs.size := upd_same _ _ _
  have hnd : n ≠ d := by
    intro q
    subst q
    simp only [upd_same] at hn1; cases hn1
  obtain ⟨R2, G2⟩ := R1.pushS n hn1 (by (first | lia | omega)) (.inl hn) (.inst Cl d) (instObj Cl hh.objs.size) rfl ⟨hd, hh.objs.size, by rw [upd_ne _ _ (Ne.symm hnd)]; exact hdx, rfl⟩
  have hsz : (hh.push emptyDict).objs.size = hh.objs.size + 1 := Heap.size_push ..
  refine wpAny_call (make_core (makes_of rel.ok.1 hm) (looks_findIn rel.ok.1 hi) (fun self => bind_fn rel.ok.1 self ht) (.inl rfl) ?_)
  have room : Room (C.A.under (.builtin "type.__call__" ⟨.ref Cl :: xs, []⟩)) k := by
    have w1 : (Code.builtin "type.__call__" ⟨.ref Cl :: xs, []⟩).weight = 1 := by rfl
    have w2 : (Code.builtin "type.__call__" ⟨.ref Cl :: xs, []⟩).cUnits = 1 := by rfl
    have h1 := ok.room.depth
    have h2 := ok.room.units
    refine ⟨?_, ?_, ok.room.handled⟩
    · show C.A.depth + _ + k < _; rw [w1]; (first | lia | omega)
    · show C.A.units + _ + 8 * k + 100 < _; rw [w2]; (first | lia | omega)
  have r2 : VRa C.W ζ (upd (upd ρ d (some hh.objs.size)) n (some (hh.push emptyDict).objs.size)) (.ref n :: vs) (.ref (hh.objs.size + 1) :: xs) :=
    ⟨_, _, rfl, by simp only [VR]; exact ⟨_, upd_same _ _ _, by rw [hsz]⟩, (ra.gr rel G1).gr R1 G2⟩
  refine codeAny_mono (fn_code (P := fun b s' => b = .none ∧ callPost P E (.ok (.ret (.ref (hh.objs.size + 1)))) s') (E := E) hf hB room ok (s := ⟨(hh.push emptyDict).push (instObj Cl hh.objs.size), g, dr, t, os⟩) R2 r2 e3 fun ζ' ρ' h' tk' b' G3 R3 r3 => ?_) fun r s' z => ?_
  · have hb : b' = .none := by
      cases r with
      | none => simp only [VR] at r3; exact r3
      | _ => cases hg
    refine ⟨hb, ?_⟩
    refine kk ζ' ρ' h' tk' _ ((G1.trans G2).trans G3) R3 ?_
    simp only [VR]
    exact ⟨_, G3.rl n _ (by (first | lia | omega)) (upd_same _ _ _), by rw [hsz]⟩
  · rcases r with e | (v | _ | _ | _) <;> first | exact z | exact z.elim
end Lay
end

section
open PySem PySem.W PyProof.Rows
set_option Elab.async false
set_option linter.unusedVariables false
namespace Lay
noncomputable def runK {α : Type} (lt : Nat → Nat → Bool) : KasT α → α
  | .ret a => a
  | .ask i j k => runK lt (k (lt i j))
theorem runK_bind {α β : Type} (lt : Nat → Nat → Bool) (f : α → KasT β) : ∀ t : KasT α, runK lt (t.bind f) = runK lt (f (runK lt t))
  | .ret _ => rfl
  | .ask i j k => runK_bind lt f (k (lt i j))
noncomputable def AskRoad (n : Nat) (lt : Nat → Nat → Bool) {α : Type} : KasT α → Prop
  | .ret _ => True
  | .ask i j k => i < n ∧ j < n ∧ AskRoad n lt (k (lt i j))
theorem AskRoad.bind {n : Nat} {lt : Nat → Nat → Bool} {α β : Type} {f : α → KasT β} : ∀ {t : KasT α}, AskRoad n lt t → AskRoad n lt (f (runK lt t)) → AskRoad n lt (t.bind f)
  | .ret _, _, h => h
  | .ask i j k, ⟨h1, h2, h3⟩, h => ⟨h1, h2, AskRoad.bind h3 h⟩
theorem kasWp_run {n : Nat} {lt : Nat → Nat → Bool} {α : Type} {cmp : Nat → Nat → (Bool → Shared → Prop) → Shared → Prop} {I : Shared → Prop}
    (hc : ∀ i j (C : Bool → Shared → Prop) s, i < n → j < n → I s → (∀ s', I s' → C (lt i j) s') → cmp i j C s) : ∀ {t : KasT α} {Q : α → Shared → Prop} {s : Shared}, AskRoad n lt t → I s → (∀ s', I s' → Q (runK lt t) s') → t.kasWp cmp Q s
  | .ret _, _, s, _, hI, h => h s hI
  | .ask i j k, _, s, ⟨h1, h2, h3⟩, hI, h => hc i j _ s h1 h2 hI fun s' hI' => kasWp_run hc h3 hI' h
noncomputable abbrev gd (p : Array Nat) (i : Nat) : Nat := p.getD i 0
theorem gd_eq {p : Array Nat} {i : Nat} : gd p i = (p[i]?).getD 0 := by simp [Array.getD_eq_getD_getElem?]
structure Ord (n : Nat) (lt : Nat → Nat → Bool) : Prop where
  irr : ∀ i, lt i i = false
  tr : ∀ i j k, lt i j = true → lt j k = true → lt i k = true
  tot : ∀ i j, i < n → j < n → i ≠ j → lt i j = true ∨ lt j i = true
structure PermOf (n : Nat) (p : Array Nat) : Prop where
  size : p.size = n
  lt : ∀ i, i < n → gd p i < n
  inj : ∀ i j, i < n → j < n → gd p i = gd p j → i = j
  perm : p.toList.Perm (List.range n)
theorem PermOf.of {n : Nat} {p : Array Nat} (h : p.toList.Perm (List.range n)) : PermOf n p := by
  have hs : p.size = n := by have := h.length_eq; simpa using this
  have hnd : p.toList.Nodup := h.nodup_iff.mpr List.nodup_range
  have key : ∀ i, i < n → p.toList[i]? = some (gd p i) := fun i hi => by
    have hi' : i < p.size := by (first | lia | omega)
    rw [gd_eq, Array.getElem?_toList, Array.getElem?_eq_getElem hi']; rfl
  refine ⟨hs, fun i hi => ?_, fun i j hi hj e => ?_, h⟩
  · have := List.mem_of_getElem? (key i hi)
    exact List.mem_range.mp (h.mem_iff.mp this)
  · have h1 := key i hi
    have h2 := key j hj
    rw [e, ← h2] at h1
    exact (List.getElem?_inj (by simpa using (hs ▸ hi : i < p.size)) hnd).mp h1
noncomputable def StrictTo (lt : Nat → Nat → Bool) (p : Array Nat) (k : Nat) : Prop := ∀ i j, i < j → j < k → lt (gd p i) (gd p j) = true
section
variable {n : Nat} {lt : Nat → Nat → Bool}
theorem strict_adj {p : Array Nat} {m : Nat} (O : Ord n lt) (h : ∀ k, 1 ≤ k → k < m → lt (gd p (k - 1)) (gd p k) = true) : StrictTo lt p m := by
  intro i j hij hj
  obtain ⟨d, rfl⟩ : ∃ d, j = i + 1 + d := ⟨j - i - 1, by (first | lia | omega)⟩
  clear hij
  induction d with
  | zero => have := h (i + 1) (by (first | lia | omega)) hj; simpa using this
  | succ d ih => exact O.tr _ _ _ (ih (by (first | lia | omega))) (by have := h (i + 1 + (d + 1)) (by (first | lia | omega)) hj; simpa using this)
theorem asc_run {p : Array Nat} (hp : PermOf n p) : ∀ (f a : Nat), 1 ≤ a → a + f ≤ n → AskRoad n lt (kas_asc p f a) ∧ a ≤ runK lt (kas_asc p f a) ∧ runK lt (kas_asc p f a) ≤ a + f ∧
    (∀ k, a ≤ k → k < runK lt (kas_asc p f a) → lt (gd p k) (gd p (k - 1)) = false) ∧ (runK lt (kas_asc p f a) < a + f → lt (gd p (runK lt (kas_asc p f a))) (gd p (runK lt (kas_asc p f a) - 1)) = true)
  | 0, a, _, _ => ⟨trivial, Nat.le_refl _, Nat.le_refl _, fun k h1 h2 => absurd h2 (Nat.not_lt.mpr h1), fun h => absurd h (Nat.lt_irrefl _)⟩
  | f + 1, a, h1, h2 => by
    have ih := asc_run hp f (a + 1) (by (first | lia | omega)) (by (first | lia | omega))
    unfold kas_asc
    simp only [AskRoad, runK]
    cases hq : lt (p.getD a 0) (p.getD (a - 1) 0) with
    | true =>
      simp only [if_true]
      exact ⟨⟨hp.lt a (by (first | lia | omega)), hp.lt (a - 1) (by (first | lia | omega)), trivial⟩, Nat.le_refl _, by show a ≤ _; (first | lia | omega), fun k e1 e2 => absurd e2 (Nat.not_lt.mpr e1), fun _ => hq⟩
    | false =>
      simp only [Bool.false_eq_true, if_false]
      obtain ⟨i1, i2, i3, i4, i5⟩ := ih
      refine ⟨⟨hp.lt a (by (first | lia | omega)), hp.lt (a - 1) (by (first | lia | omega)), i1⟩, by (first | lia | omega), by (first | lia | omega), fun k e1 e2 => ?_, fun e => i5 (by (first | lia | omega))⟩
      by_cases e : k = a
      · subst e; exact hq
      · exact i4 k (by (first | lia | omega)) e2
theorem desc_run (O : Ord n lt) {p : Array Nat} (hp : PermOf n p) : ∀ (f a : Nat), 1 ≤ a → a + f ≤ n → AskRoad n lt (kas_desc f p a 0) ∧ ∃ m, runK lt (kas_desc f p a 0) = (p, m, 0) ∧ a ≤ m ∧ m ≤ a + f ∧ ∀ k, a ≤ k → k < m → lt (gd p k) (gd p (k - 1)) = true
  | 0, a, _, _ => ⟨trivial, a, rfl, Nat.le_refl _, Nat.le_refl _, fun k h1 h2 => absurd h2 (Nat.not_lt.mpr h1)⟩
  | f + 1, a, h1, h2 => by
    have ih := desc_run O hp f (a + 1) (by (first | lia | omega)) (by (first | lia | omega))
    unfold kas_desc
    simp only [AskRoad, runK]
    cases hq : lt (p.getD a 0) (p.getD (a - 1) 0) with
    | true =>
      simp only [if_true, Nat.lt_irrefl, if_false, gt_iff_lt]
      obtain ⟨i1, m, i2, i3, i4, i5⟩ := ih
      refine ⟨⟨hp.lt a (by (first | lia | omega)), hp.lt (a - 1) (by (first | lia | omega)), i1⟩, m, i2, by (first | lia | omega), by (first | lia | omega), fun k e1 e2 => ?_⟩
      by_cases e : k = a
      · subst e; exact hq
      · exact i5 k (by (first | lia | omega)) e2
    | false =>
      have hne : gd p a ≠ gd p (a - 1) := fun q => by have := hp.inj a (a - 1) (by (first | lia | omega)) (by (first | lia | omega)) q; omega
      have hq2 : lt (p.getD (a - 1) 0) (p.getD a 0) = true := by
        rcases O.tot _ _ (hp.lt a (by (first | lia | omega))) (hp.lt (a - 1) (by (first | lia | omega))) hne with q | q
        · have : lt (gd p a) (gd p (a - 1)) = false := hq
          rw [this] at q; cases q
        · exact q
      simp only [Bool.false_eq_true, if_false, AskRoad, runK, hq2, if_true]
      exact ⟨⟨hp.lt a (by (first | lia | omega)), hp.lt (a - 1) (by (first | lia | omega)), hp.lt (a - 1) (by (first | lia | omega)), hp.lt a (by (first | lia | omega)), trivial⟩, a, rfl, Nat.le_refl _, by (first | lia | omega), fun k e1 e2 => absurd e2 (Nat.not_lt.mpr e1)⟩
theorem PermOf.rev {p : Array Nat} (hp : PermOf n p) (i j : Nat) : PermOf n (kas_rev p i j) := .of ((Array.perm_iff_toList_perm.mp (mirror_perm p i j _)).trans hp.perm)
theorem PermOf.bubble {p : Array Nat} (hp : PermOf n p) (i j : Nat) : PermOf n (bubble p i j) := .of ((Array.perm_iff_toList_perm.mp (bubble_perm p i j)).trans hp.perm)
theorem gd_rev {p : Array Nat} (hp : PermOf n p) {m : Nat} (hm : m ≤ n) (k : Nat) : gd (kas_rev p 0 m) k = if k < m then gd p (m - 1 - k) else gd p k := by
  have e := getElem?_mirror_all (xs := p) (i := 0) (j := m) (by rw [hp.size]; exact hm) k
  rw [gd_eq]
  show ((mirror p 0 m ((m - 0) / 2))[k]?).getD 0 = _
  rw [e]
  by_cases q : k < m
  · simp only [q, Nat.zero_le, and_self, if_true, Nat.zero_add]; rw [gd_eq]
  · simp only [q, and_false, if_false]; rw [gd_eq]
theorem rise {p : Array Nat} (O : Ord n lt) (hp : PermOf n p) {k : Nat} (h1 : 1 ≤ k) (hk : k < n) (h : lt (gd p k) (gd p (k - 1)) = false) : lt (gd p (k - 1)) (gd p k) = true := by
  have hne : gd p (k - 1) ≠ gd p k := fun q => by have := hp.inj (k - 1) k (by (first | lia | omega)) hk q; (first | lia | omega)
  rcases O.tot _ _ (hp.lt (k - 1) (by (first | lia | omega))) (hp.lt k hk) hne with q | q
  · exact q
  · rw [h] at q; cases q
theorem count_run (O : Ord n lt) {p : Array Nat} (hp : PermOf n p) (h2 : 2 ≤ n) : AskRoad n lt (kas_count n p) ∧ ∃ m p', runK lt (kas_count n p) = (m, p') ∧ 1 ≤ m ∧ m ≤ n ∧ PermOf n p' ∧ StrictTo lt p' m := by
  obtain ⟨i1, i2, i3, i4, i5⟩ := asc_run (lt := lt) hp (n - 1) 1 (Nat.le_refl _) (by (first | lia | omega))
  unfold kas_count
  rw [runK_bind]
  generalize hm : runK lt (kas_asc p (n - 1) 1) = m at *
  have hS : StrictTo lt p m := strict_adj O fun k e1 e2 => rise O hp e1 (by (first | lia | omega)) (i4 k e1 e2)
  by_cases e1 : m = n
  · refine ⟨AskRoad.bind i1 (by rw [hm, if_pos (by simp [e1])]; trivial), n, p, by rw [if_pos (by simp [e1]), e1]; rfl, by (first | lia | omega), Nat.le_refl _, hp, e1 ▸ hS⟩
  · by_cases e2 : m > 1
    · have hq : lt (p.getD 0 0) (p.getD (m - 1) 0) = true := hS 0 (m - 1) (by (first | lia | omega)) (by (first | lia | omega))
      refine ⟨AskRoad.bind i1 ?_, m, p, ?_, by omega, by (first | lia | omega), hp, hS⟩
      · rw [hm, if_neg (by simpa using e1), if_pos e2]
        simp only [AskRoad, hq, if_true]
        exact ⟨hp.lt 0 (by (first | lia | omega)), hp.lt (m - 1) (by (first | lia | omega)), trivial⟩
      · rw [if_neg (by simpa using e1), if_pos e2]
        simp only [runK, hq, if_true]
    · have em : m = 1 := by (first | lia | omega)
      subst em
      have h10 : lt (gd p 1) (gd p 0) = true := i5 (by (first | lia | omega))
      obtain ⟨j1, m, j2, j3, j4, j5⟩ := desc_run O hp (n - 2) 2 (by (first | lia | omega)) (by (first | lia | omega))
      have hr := hp.rev 0 m
      have hdown : ∀ k, 1 ≤ k → k < m → lt (gd p k) (gd p (k - 1)) = true := fun k e1 e2 => by
        by_cases e : k = 1
        · subst e; exact h10
        · exact j5 k (by (first | lia | omega)) e2
      obtain ⟨k1, k2, k3, k4, k5⟩ := asc_run (lt := lt) hr (n - m) m (by (first | lia | omega)) (by (first | lia | omega))
      have hS2 : StrictTo lt (kas_rev p 0 m) (runK lt (kas_asc (kas_rev p 0 m) (n - m) m)) := strict_adj O fun k e1 e2 => by
        by_cases e : k < m
        · rw [gd_rev hp (by (first | lia | omega)), gd_rev hp (by (first | lia | omega)), if_pos (by (first | lia | omega)), if_pos e]
          have := hdown (m - 1 - k + 1) (by (first | lia | omega)) (by (first | lia | omega))
          have ee : m - 1 - (k - 1) = m - 1 - k + 1 := by (first | lia | omega)
          rw [ee]; simpa using this
        · exact rise O hr e1 (by (first | lia | omega)) (k4 k (by (first | lia | omega)) e2)
      have hdp : runK lt (kas_descPart 1 n p) = (runK lt (kas_asc (kas_rev p 0 m) (n - m) m), kas_rev p 0 m) := by
        unfold kas_descPart
        rw [runK_bind, show n - (1 + 1) = n - 2 by (first | lia | omega), j2]
        simp only [gt_iff_lt, Nat.lt_irrefl, if_false]
        unfold kas_tail3
        rw [runK_bind]; rfl
      have hdr : AskRoad n lt (kas_descPart 1 n p) := by
        unfold kas_descPart
        rw [show n - (1 + 1) = n - 2 by (first | lia | omega)]
        refine AskRoad.bind j1 ?_
        rw [j2]
        simp only [gt_iff_lt, Nat.lt_irrefl, if_false]
        exact AskRoad.bind k1 trivial
      refine ⟨AskRoad.bind i1 ?_, _, _, ?_, by (first | lia | omega), by (first | lia | omega), hr, hS2⟩
      · rw [hm, if_neg (by simpa using e1), if_neg (by (first | lia | omega))]; exact hdr
      · rw [if_neg (by simpa using e1), if_neg (by (first | lia | omega))]; exact hdp
theorem place_run (O : Ord n lt) {p : Array Nat} (hp : PermOf n p) {k : Nat} (hk : k < n) (hS : StrictTo lt p k) : ∀ (f l r : Nat), l ≤ r → r ≤ k → r - l ≤ f → (∀ i, i < l → lt (gd p i) (gd p k) = true) → (∀ i, r ≤ i → i < k → lt (gd p k) (gd p i) = true) →
    AskRoad n lt (kas_place p k f l r) ∧ runK lt (kas_place p k f l r) ≤ k ∧ (∀ i, i < runK lt (kas_place p k f l r) → lt (gd p i) (gd p k) = true) ∧ (∀ i, runK lt (kas_place p k f l r) ≤ i → i < k → lt (gd p k) (gd p i) = true)
  | 0, l, r, h1, h2, h3, h4, h5 => by
    have : l = r := by (first | lia | omega)
    subst this
    exact ⟨trivial, h2, h4, h5⟩
  | f + 1, l, r, h1, h2, h3, h4, h5 => by
    unfold kas_place
    by_cases e : l ≥ r
    · have : l = r := by (first | lia | omega)
      subst this
      rw [if_pos e]
      exact ⟨trivial, h2, h4, h5⟩
    · rw [if_neg e]
      have hmid : (l + r) / 2 < r ∧ l ≤ (l + r) / 2 := by (first | lia | omega)
      simp only [AskRoad, runK]
      cases hq : lt (p.getD k 0) (p.getD ((l + r) / 2) 0) with
      | true =>
        simp only [if_true]
        obtain ⟨i1, i2⟩ := place_run O hp hk hS f l ((l + r) / 2) hmid.2 (by (first | lia | omega)) (by (first | lia | omega)) h4 (fun i e1 e2 => by
          by_cases e3 : i = (l + r) / 2
          · subst e3; exact hq
          · exact O.tr _ _ _ hq (hS _ i (by (first | lia | omega)) e2))
        exact ⟨⟨hp.lt k hk, hp.lt _ (by (first | lia | omega)), i1⟩, i2⟩
      | false =>
        simp only [Bool.false_eq_true, if_false]
        have hq2 : lt (gd p ((l + r) / 2)) (gd p k) = true := by
          have hne : gd p ((l + r) / 2) ≠ gd p k := fun q => by have := hp.inj _ k (by (first | lia | omega)) hk q; (first | lia | omega)
          rcases O.tot _ _ (hp.lt _ (by (first | lia | omega))) (hp.lt k hk) hne with q | q
          · exact q
          · have : lt (gd p k) (gd p ((l + r) / 2)) = false := hq
            rw [this] at q; cases q
        obtain ⟨i1, i2⟩ := place_run O hp hk hS f ((l + r) / 2 + 1) r (by (first | lia | omega)) h2 (by omega) (fun i e1 => by
          by_cases e3 : i = (l + r) / 2
          · subst e3; exact hq2
          · exact O.tr _ _ _ (hS i _ (by (first | lia | omega)) (by (first | lia | omega))) hq2) h5
        exact ⟨⟨hp.lt k hk, hp.lt _ (by (first | lia | omega)), i1⟩, i2⟩
theorem gd_bubble {p : Array Nat} (hp : PermOf n p) {k l : Nat} (hk : k < n) (hl : l ≤ k) (i : Nat) : gd (bubble p k (k - l)) i = if i = l then gd p k else if l < i ∧ i ≤ k then gd p (i - 1) else gd p i := by
  have e := getElem?_bubble (xs := p) (src := k) (by rw [hp.size]; exact hk) (k - l) (by (first | lia | omega)) i
  have e2 : k - (k - l) = l := by (first | lia | omega)
  rw [e2] at e
  rw [gd_eq, e]
  split
  · rw [gd_eq]
  · split <;> rw [gd_eq]
theorem bin_run (O : Ord n lt) : ∀ (f : Nat) (p : Array Nat) (k : Nat), PermOf n p → k + f = n → StrictTo lt p k → AskRoad n lt (kas_bin f p k) ∧ PermOf n (runK lt (kas_bin f p k)) ∧ StrictTo lt (runK lt (kas_bin f p k)) n
  | 0, p, k, hp, hk, hS => by
    have : k = n := by omega
    subst this
    exact ⟨trivial, hp, hS⟩
  | f + 1, p, k, hp, hk, hS => by
    unfold kas_bin
    rw [runK_bind]
    obtain ⟨i1, i2, i3, i4⟩ := place_run O hp (k := k) (by (first | lia | omega)) hS k 0 k (Nat.zero_le _) (Nat.le_refl _) (by (first | lia | omega)) (fun i h => absurd h (Nat.not_lt_zero _)) (fun i h1 h2 => absurd h2 (Nat.not_lt.mpr h1))
    generalize hl : runK lt (kas_place p k k 0 k) = l at *
    have hb := hp.bubble k (k - l)
    have hS' : StrictTo lt (bubble p k (k - l)) (k + 1) := by
      intro i j hij hj
      rw [gd_bubble hp (by (first | lia | omega)) i2, gd_bubble hp (by (first | lia | omega)) i2]
      by_cases e1 : i = l
      · rw [if_pos e1, if_neg (by (first | lia | omega)), if_pos (by (first | lia | omega))]
        exact i4 _ (by (first | lia | omega)) (by (first | lia | omega))
      · rw [if_neg e1]
        by_cases e2 : j = l
        · rw [if_pos e2, if_neg (by (first | lia | omega))]; exact i3 i (by (first | lia | omega))
        · rw [if_neg e2]
          by_cases e3 : l < j
          · rw [if_pos (show l < j ∧ j ≤ k by (first | lia | omega))]
            by_cases e4 : l < i
            · rw [if_pos (by (first | lia | omega))]; exact hS _ _ (by (first | lia | omega)) (by (first | lia | omega))
            · rw [if_neg (by (first | lia | omega))]; exact hS _ _ (by (first | lia | omega)) (by (first | lia | omega))
          · rw [if_neg (by (first | lia | omega)), if_neg (by (first | lia | omega))]; exact hS _ _ hij (by (first | lia | omega))
    obtain ⟨j1, j2⟩ := bin_run O f (bubble p k (k - l)) (k + 1) hb (by (first | lia | omega)) hS'
    exact ⟨AskRoad.bind i1 (by rw [hl]; exact j1), j2⟩
theorem sort_run (O : Ord n lt) (h2 : 2 ≤ n) : AskRoad n lt (kas_sort n) ∧ PermOf n (runK lt (kas_sort n)) ∧ StrictTo lt (runK lt (kas_sort n)) n := by
  have hp : PermOf n (List.toArray (List.range n)) := .of (List.Perm.refl _)
  obtain ⟨i1, m, p', i2, i3, i4, i5, i6⟩ := count_run O hp h2
  unfold kas_sort
  rw [runK_bind, i2]
  by_cases e : m < n
  · obtain ⟨j1, j2, j3⟩ := bin_run O (n - max m 1) p' (max m 1) i5 (by (first | lia | omega)) (by rw [Nat.max_eq_left i3]; exact i6)
    rw [if_pos e]
    exact ⟨AskRoad.bind i1 (by rw [i2, if_pos e]; exact j1), j2, j3⟩
  · rw [if_neg e]
    have : m = n := by (first | lia | omega)
    exact ⟨AskRoad.bind i1 (by rw [i2, if_neg e]; trivial), i5, this ▸ i6⟩
end
end Lay
end

section
open PySem PySem.W PyProof.Rows
set_option Elab.async false
set_option linter.unusedVariables false
set_option maxRecDepth 100000
namespace Lay
section
variable {prog : Program} {w : World} {A : Around} {E : Value → Shared → Prop} {s : Shared} {d it : Addr} {es : Array DictEntry} {ep i : Nat}
theorem key_iter {Q : Value → Shared → Prop} (hd : (d == sysModules) = false) (ho : s.heap.get? d = some (dctO es ep))
    (hQ : Q (.ref s.heap.objs.size) { s with heap := s.heap.push { cls := .type "dict_keyiterator", data := .fields #[.ref d, .int 0 0, .int es.size 0, .int ep 0] } }) : wpAny (model prog w) A (pyIter (.ref d)) Q E s := by
  have hT : s.TypeIs (.ref d) "dict" := ⟨_, ho, rfl⟩
  refine wpAny_pyIter_slot hT PySem.F.slot_dict_iter (wpAny_call_entry PySem.F.slot_dict_iter hT PySem.F.entry_dict_iter ?_ (PySem.F.args_dict_iter_1 _))
  unfold Builtin.«dict.__iter__»
  refine wpAny_bind ?_
  unfold Builtin.Dict.dictSlotNone
  refine wpAny_bind (wpAny_notOrdered_dict hT ?_)
  show wpAny _ _ (pure (Value.ref d)) _ _ s
  refine wpAny_pure ?_
  show wpAny _ _ (Builtin.Dict.showsAll d >>= _) _ _ s
  unfold Builtin.Dict.showsAll
  rw [if_neg (by rw [hd]; exact Bool.false_ne_true)]
  refine wpAny_bind (wpAny_pure (wpAny_bind (wpAny_dictEntries ho rfl (wpAny_bind (wpAny_dictEpoch ho rfl (wpAny_bind (wpAny_newObj_type (wpAny_pure ⟨_, rfl, "dict_keyiterator", _, ⟨_, Heap.get?_push_size _ rfl, rfl⟩, PySem.F.slot_dict_keyiterator_next.lookup, hQ⟩))))))))
theorem key_next {Q : Option Value → Shared → Prop} (hit : s.heap.IsKeyIter it d i es.size ep) (ho : s.heap.get? d = some (dctO es ep)) (hi : i < es.size)
    (hQ : ∀ h', h'.IsKeyIter it d (i + 1) es.size ep → Heap.SameBut it s.heap h' → Q (some es[i].key) { s with heap := h' }) : wpAny (model prog w) A (pyNext (.ref it)) Q E s := by
  obtain ⟨o, hio, hc, hd⟩ := id hit
  unfold pyNext
  refine wpAny_bind (wpAny_attempt (wpAny_callSpecial?_slot (name := Str.ofString "__next__") hit.typeIs PySem.F.slot_dict_keyiterator_next
    (wpAny_call_entry PySem.F.slot_dict_keyiterator_next hit.typeIs PySem.F.entry_dict_keyiterator_next ?_ (PySem.F.args_dict_keyiterator_next_1 _))))
  refine wpAny_bind (wpAny_pure (wpAny_bind (wpAny_bind ?_)))
  first | refine wpAny_bind (wpAny_typeNameOfWhole_keyiter hit.typeIs (wpAny_pure ?_)) | refine wpAny_bind (wpAny_typeNameOf_keyiter hit.typeIs (wpAny_pure ?_))
  refine wpAny_bind (wpAny_fieldsOf hio hd ?_)
  simp only [show Builtin.Dict_items.ownsTuple "dict_keyiterator" = false by decide, Bool.false_eq_true, if_false]
  show wpAny _ _ (if (Value.ref d == Value.none) = true then _ else _) _ _ s
  rw [if_neg (show ¬ ((Value.ref d == Value.none) = true) from Bool.false_ne_true)]
  refine wpAny_bind (wpAny_pure (wpAny_bind (wpAny_dictEntries ho rfl ?_)))
  rw [if_neg (by simp)]
  refine wpAny_bind (wpAny_pure (wpAny_bind (wpAny_dictEpoch ho rfl ?_)))
  rw [if_neg (by simp)]
  refine wpAny_pure ?_
  simp only [show ¬ ((i : Int) < 0) from by (first | lia | omega), if_false, Int.toNat_natCast, Array.getElem?_eq_getElem hi]
  refine wpAny_bind ?_
  first | refine wpAny_bind (wpAny_typeNameOfWhole_keyiter hit.typeIs (wpAny_pure ?_)) | refine wpAny_bind (wpAny_typeNameOf_keyiter hit.typeIs (wpAny_pure ?_))
  refine wpAny_bind (wpAny_isOneOf_keyiter hit.typeIs ?_)
  show wpAny _ _ (setField (.ref it) 1 (rawInt ((i : Int) + 1)) >>= _) _ _ s
  refine wpAny_bind (wpAny_setField hio hd (by simp) ?_)
  have hit' : (s.heap.update it (Obj.mapFields (·.setIfInBounds 1 (rawInt ((i : Int) + 1))))).IsKeyIter it d (i + 1) es.size ep :=
    ⟨_, Heap.get?_update_self _ hio (Obj.isFreed_of_fields (Obj.data_mapFields hd _)), (Obj.cls_mapFields ..).trans hc, by rw [Obj.data_mapFields hd]; simp [rawInt]⟩
  refine wpAny_bind (wpAny_holding (wpAny_bind (wpAny_isOneOf_keyiter (s := { s with heap := s.heap.update it (Obj.mapFields (·.setIfInBounds 1 (rawInt ((i : Int) + 1)))) }) hit'.typeIs ?_)))
  show wpAny _ _ (pure es[i].key) _ _ _
  exact wpAny_pure (wpAny_pure ⟨_, rfl, wpAny_pure (hQ _ hit' (Heap.SameBut.update ..))⟩)
theorem key_end {Q : Option Value → Shared → Prop} (hh : A.handled = none) (hit : s.heap.IsKeyIter it d es.size es.size ep) (ho : s.heap.get? d = some (dctO es ep))
    (hQ : ∀ h', Heap.ExtBut it s.heap h' → Q none { s with heap := h' }) : wpAny (model prog w) A (pyNext (.ref it)) Q E s := by
  obtain ⟨o, hio, hc, hd⟩ := id hit
  unfold pyNext
  refine wpAny_bind (wpAny_attempt (wpAny_callSpecial?_slot (name := Str.ofString "__next__") hit.typeIs PySem.F.slot_dict_keyiterator_next
    (wpAny_call_entry PySem.F.slot_dict_keyiterator_next hit.typeIs PySem.F.entry_dict_keyiterator_next ?_ (PySem.F.args_dict_keyiterator_next_1 _))))
  refine wpAny_bind (wpAny_pure (wpAny_bind (wpAny_bind ?_)))
  first | refine wpAny_bind (wpAny_typeNameOfWhole_keyiter hit.typeIs (wpAny_pure ?_)) | refine wpAny_bind (wpAny_typeNameOf_keyiter hit.typeIs (wpAny_pure ?_))
  refine wpAny_bind (wpAny_fieldsOf hio hd ?_)
  simp only [show Builtin.Dict_items.ownsTuple "dict_keyiterator" = false by decide, Bool.false_eq_true, if_false]
  show wpAny _ _ (if (Value.ref d == Value.none) = true then _ else _) _ _ s
  rw [if_neg (show ¬ ((Value.ref d == Value.none) = true) from Bool.false_ne_true)]
  refine wpAny_bind (wpAny_pure (wpAny_bind (wpAny_dictEntries ho rfl ?_)))
  rw [if_neg (by simp)]
  refine wpAny_bind (wpAny_pure (wpAny_bind (wpAny_dictEpoch ho rfl ?_)))
  rw [if_neg (by simp)]
  refine wpAny_pure ?_
  simp only [show ¬ ((es.size : Int) < 0) from by (first | lia | omega), if_false, Int.toNat_natCast, Array.getElem?_eq_none (Nat.le_refl es.size)]
  refine wpAny_bind ?_
  first | refine wpAny_bind (wpAny_typeNameOfWhole_keyiter hit.typeIs (wpAny_pure ?_)) | refine wpAny_bind (wpAny_typeNameOf_keyiter hit.typeIs (wpAny_pure ?_))
  show wpAny _ _ (setField (.ref it) 0 .none >>= _) _ _ s
  refine wpAny_bind (wpAny_setField hio hd (by simp) ?_)
  show wpAny _ _ (newExc (.type "StopIteration") [] >>= _) _ _ _
  refine wpAny_bind ?_
  simp only [newExc, newTuple]
  refine wpAny_bind (wpAny_newObj_type ?_ (by size_fits))
  refine wpAny_bind (m := firstArgMember _ _) (wpAny_of_eq (a := Value.none) (by first | rfl | (simp only [firstArgMember]; rfl)) ?_)
  refine wpAny_newObj_type ?_ (by size_fits)
  simp only [raiseNew]
  refine wpAny_bind (wpAny_handled ?_)
  rw [show A.in1.handled = none from hh]
  refine wpAny_bind (wpAny_pure (wpAny_throw ?_))
  refine wpAny_bind (wpAny_isInstance (T := "StopIteration") (b := true) ⟨_, Heap.get?_push_size _ rfl, rfl⟩ isSubtype_stop ?_)
  exact wpAny_pure (hQ _ (((Heap.SameBut.update ..).extBut.push _).push _))
theorem dict_src (lo : (d == sysModules) = false) : KdlSrc prog w "dict" d d es.size (fun i v => ∃ e, es[i]? = some e ∧ v = e.key) (fun h => h.get? d = some (dctO es ep)) where
  type := fun _ ho => ⟨_, ho, rfl⟩
  there := fun _ ho => ⟨Heap.lt_size ho, Heap.lt_size ho⟩
  keep := fun _ _ ho hk => hk d (.inl rfl) _ ho
  notList := by decide
  notTuple := by decide
  hint := fun _ _ _ _ ho hq => kdl_hint_dict ⟨_, ho, rfl⟩ hq
  iter := fun A s hh ho => ⟨_, fun i h => h.IsKeyIter s.heap.objs.size d i es.size ep ∧ h.get? d = some (dctO es ep), (fun _ _ hq => key_iter lo ho hq), {
      sub := fun b hb => by simp at hb; simp [hb]
      frame := fun _ _ _ st hk => ⟨st.1.at fun o e => hk _ (by simp) o e, hk d (by simp) _ st.2⟩
      item := fun i s' Q E hi st hQ => by
        refine key_next st.1 st.2 hi fun h' hit' hs' => ?_
        have hne : d ≠ s.heap.objs.size := Nat.ne_of_lt (Heap.lt_size ho)
        exact hQ _ h' s'.toks ⟨_, Array.getElem?_eq_getElem hi, rfl⟩ ⟨hit', (hs'.2 d hne).trans st.2⟩ fun b o hb e => hs'.extBut b o (fun h => hb (by simp [h])) e
      done := fun s' Q E st hQ => key_end hh st.1 st.2 fun h' he' => hQ h' s'.toks fun b o hb e => he' b o (fun h => hb (by simp [h])) e
      self := fun _ _ _ _ st hQ => wpAny_pyIter_keyiter st.1 hQ }, ⟨⟨_, Heap.get?_push_size _ rfl, rfl, rfl⟩, Heap.get?_push_of_some _ ho⟩⟩
theorem collect_src {T : String} {r : Addr} {n : Nat} {P : Nat → Value → Prop} {OK : Heap → Prop} {Q : List Value → Shared → Prop} (K : KdlSrc prog w T r d n P OK) (hh : A.handled = none) (hok : OK s.heap) (hn : n ≤ sizeLine)
    (hQ : ∀ h' tk acc, (∀ b o, s.heap.get? b = some o → h'.get? b = some o) → ItemsOf P acc n → Q acc.toList { s with heap := h', toks := tk }) : wpAny (model prog w) A (collect (.ref r)) Q E s := by
  obtain ⟨hr, hd⟩ := K.there _ hok
  unfold collect
  refine wpAny_bind (wpAny_runValue (codeAny_builtin PySem.F.entry_proto_collect ?_))
  rw [Around.under_plainId PySem.F.plain_proto_collect _]
  show wpAny _ A.in1 (newList [] >>= fun l => again (.builtin "list.__iadd__" ⟨[l, .ref r], []⟩)) _ _ s
  refine wpAny_bind (wpAny_newObj_type (wpAny_pure ⟨plainId_quiet PySem.F.plain_list_iadd _, codeAny_builtin PySem.F.entry_list_iadd ?_⟩))
  rw [Around.under_plainId PySem.F.plain_list_iadd _]
  have hS : (s.heap.push { cls := .type "list", data := .seq ([] : List Value).toArray }).get? s.heap.objs.size = some { cls := .type "list", data := .seq #[] 0 } := Heap.get?_push_size _ rfl
  have ext := kdl_extend (A := A) (s := { s with heap := s.heap.push { cls := .type "list", data := .seq ([] : List Value).toArray } })
    (R := fun r s' => ∃ h' tk acc c', r = .ok (.ret (.ref s.heap.objs.size)) ∧ s' = { s with heap := h', toks := tk } ∧ (∀ b o, s.heap.get? b = some o → h'.get? b = some o) ∧
      h'.get? s.heap.objs.size = some { cls := .type "list", dict := none, data := .seq acc c', slots := #[] } ∧ ItemsOf P acc n)
    K hh (K.keep _ _ hok fun b _ o e => Heap.get?_push_of_some _ e) s.heap.objs.size (Nat.ne_of_gt hr) (Nat.ne_of_gt hd) (.ref s.heap.objs.size) 0 hS
    (fun h' tk acc c' hk hS' hit => ⟨h', tk, acc, c', rfl, rfl, fun b o e => hk b o (Nat.ne_of_lt (Heap.lt_size e)) (Heap.get?_push_of_some _ e), hS', hit⟩) hn
  refine wpAny_mono ext (fun fin s' hf => ?_) fun e s' he => by obtain ⟨_, _, _, _, he, _⟩ := he; cases he
  cases fin with
  | done f =>
    obtain ⟨h', tk, acc, c', e, rfl, hk, hS', hit⟩ := hf
    cases e
    show wpAny _ A (load s.heap.objs.size >>= _) _ _ _
    exact wpAny_bind (wpAny_load hS' (wpAny_pure (hQ h' tk acc hk hit)))
  | again c =>
    refine ⟨hf.1, codeAny_mono hf.2 fun r s' hr => ?_⟩
    obtain ⟨h', tk, acc, c', rfl, rfl, hk, hS', hit⟩ := hr
    show wpAny _ A (load s.heap.objs.size >>= _) _ _ _
    exact wpAny_bind (wpAny_load hS' (wpAny_pure (hQ h' tk acc hk hit)))
end
end Lay
end

section
open PySem PySem.W PyProof.Rows
set_option Elab.async false
set_option linter.unusedVariables false
set_option maxRecDepth 100000
namespace Lay
variable {C : Cx}
noncomputable def collItems (v : V) (st : St) : Option (List V) := match v with
  | .tup xs => some xs
  | .lst xs => some xs
  | .dct kvs => some (kvs.map fun kv => .int kv.1)
  | .ref n => (match st.hp n with
    | some (.list xs) => some xs
    | some (.idict kvs) => some (kvs.map fun kv => .int kv.1)
    | some (.tdict kvs) => some (kvs.map fun kv => .tup (kv.1.map .int))
    | _ => none)
  | _ => none
theorem VRs.of_get {W : Wd} {ζ : HM} {ρ : RM} : ∀ {v : List V} {x : List Value}, v.length = x.length → (∀ (i : Nat) u y, v[i]? = some u → x[i]? = some y → u.low = true ∧ VR W ζ ρ u y) → VRs W ζ ρ v x
  | [], [], _, _ => by simp only [VRs]
  | a :: r, y :: ys, hl, h => by
    simp only [VRs]
    obtain ⟨h1, h2⟩ := h 0 a y rfl rfl
    exact ⟨y, ys, rfl, h1, h2, VRs.of_get (by simpa using hl) fun i u z e1 e2 => h (i + 1) u z (by simpa using e1) (by simpa using e2)⟩
  | [], _ :: _, hl, _ => by simp at hl
  | _ :: _, [], hl, _ => by simp at hl
theorem isInt_inv {W : Wd} {k : Int} {v : Value} (h : (intKind W.prog W.w).is k v = true) : ∃ t, v = .int k t := by
  cases v with
  | int i t =>
    have e : i = k := by simpa [intKind, Value.isInt] using h
    exact ⟨t, by rw [e]⟩
  | _ => simp [intKind, Value.isInt] at h
theorem items_back {W : Wd} {ζ : HM} {ρ : RM} : ∀ {k : List Int} {ys : List Value}, ItemsAre (intKind W.prog W.w) k ys → VRs W ζ ρ (k.map .int) ys
  | [], _, .nil => by simp [VRs]
  | k :: r, _, .cons h1 h2 => by
    obtain ⟨t, rfl⟩ := isInt_inv h1
    simp only [List.map_cons, VRs]
    exact ⟨_, _, rfl, rfl, by simp only [VR]; exact ⟨t, rfl⟩, items_back h2⟩
theorem ent_keys {W : Wd} {ζ : HM} {ρ : RM} {es : Array DictEntry} {kys : List (Int × Value)} {kvs : List (Int × V)} (h : Ent W (intKind W.prog W.w) es kys) (hk : VRk W ζ ρ kvs kys) : VRs W ζ ρ (kvs.map fun kv => .int kv.1) (es.toList.map (·.key)) := by
  have hlen : es.toList.length = kys.length := h.2.1.length
  refine VRs.of_get (by simp only [List.length_map]; rw [hlen, hk.length]) fun i u y e1 e2 => ?_
  rw [List.getElem?_map] at e1 e2
  obtain ⟨kv, e3, rfl⟩ := Option.map_eq_some_iff.mp e1
  obtain ⟨en, e4, rfl⟩ := Option.map_eq_some_iff.mp e2
  have hi : i < kys.length := by rw [← hlen]; exact (List.getElem?_eq_some_iff.mp e4).1
  have e5 : kys[i]? = some kys[i] := List.getElem?_eq_getElem hi
  have h1 := (h.2.1.get? e4 (by rw [e5])).1
  have h2 : kys[i].1 = kv.1 := by
    have := congrArg (·[i]?) hk.keys
    simp only [List.getElem?_map, e5, e3, Option.map_some, Option.some.injEq] at this
    exact this
  rw [h2] at h1
  obtain ⟨t, ht⟩ := isInt_inv h1
  exact ⟨rfl, by simp only [VR]; exact ⟨t, ht⟩⟩
theorem tkeys_keys {W : Wd} {ζ : HM} {ρ : RM} : ∀ {kvs : List (List Int × V)} {kys : List (List Int × Addr × Value)}, TKeys W ζ ρ kvs kys → VRs W ζ ρ (kvs.map fun kv => .tup (kv.1.map .int)) ((kys.map (entryOfKey (tupleKind (intKind W.prog W.w)))).map (·.key))
  | [], _, h => by simp only [TKeys] at h; subst h; simp [VRs]
  | (k, v) :: r, _, hH => by
    obtain ⟨a, y, r', ks, o, e, h0, ht, h1, hl, h2, h3⟩ := hH
    subst e
    simp only [List.map_cons, VRs]
    exact ⟨_, _, rfl, rfl, by simp only [VR]; exact ⟨a, o, ks, rfl, h0, ht, items_back h1⟩, tkeys_keys h3⟩
theorem coll_at {h₀ ζ : HM} {ρ : RM} {st : St} {h : Heap} (rel : Rel C h₀ ζ ρ st h) {v : V} {x : Value} {xs : List V} (e : collItems v st = some xs) (r : VR C.W ζ ρ v x) :
    (∃ a T o ys n, x = .ref a ∧ (T = "list" ∨ T = "tuple") ∧ h.get? a = some o ∧ o.cls = .type T ∧ o.data = .seq ys n ∧ VRs C.W ζ ρ xs ys.toList) ∨
    (∃ a es n, x = .ref a ∧ (a == sysModules) = false ∧ h.get? a = some (dctO es n) ∧ VRs C.W ζ ρ xs (es.toList.map (·.key))) := by
  have nsys : ∀ {n a}, ρ n = some a → (a == sysModules) = false := fun e => by
    rw [beq_eq_false_iff_ne]; intro q; exact rel.sysr _ (q ▸ e)
  cases v with
  | tup ys =>
    cases e
    simp only [VR] at r
    obtain ⟨a, o, ys', rfl, h1, ⟨hc, n, hd⟩, h2⟩ := r
    exact .inl ⟨a, "tuple", o, ys', n, rfl, .inr rfl, rel.frozen _ _ h1, hc, hd, h2⟩
  | lst ys =>
    cases e
    simp only [VR] at r
    obtain ⟨a, o, ys', rfl, h1, ⟨n, rfl⟩, h2⟩ := r
    exact .inl ⟨a, "list", _, ys', n, rfl, .inl rfl, rel.frozen _ _ h1, rfl, rfl, h2⟩
  | dct kvs =>
    cases e
    simp only [VR] at r
    obtain ⟨a, es, n, kys, rfl, h1, h2, h3⟩ := r
    refine .inr ⟨a, es, n, rfl, ?_, rel.frozen _ _ h1, ent_keys h2 (VRk_p.mpr h3)⟩
    rw [beq_eq_false_iff_ne]; intro q; rw [q, rel.sysz] at h1; cases h1
  | ref n =>
    simp only [VR] at r
    obtain ⟨a', h1', rfl⟩ := r
    unfold collItems at e
    dsimp only at e
    split at e
    · rename_i q
      cases e
      obtain ⟨a, o, h1, h2, ys, ⟨n', rfl⟩, h3⟩ := rel.slot n _ q
      obtain rfl : a = a' := Option.some.inj (h1.symm.trans h1')
      exact .inl ⟨a, "list", _, ys, n', rfl, .inl rfl, h2, rfl, rfl, h3⟩
    · rename_i q
      cases e
      obtain ⟨a, o, h1, h2, es, n', kys, rfl, h3, h4⟩ := rel.slot n _ q
      obtain rfl : a = a' := Option.some.inj (h1.symm.trans h1')
      exact .inr ⟨a, es, n', rfl, nsys h1, h2, ent_keys h3 h4⟩
    · rename_i q
      cases e
      obtain ⟨a, o, h1, h2, es, n', kys, rfl, h3, h4, h5⟩ := rel.slot n _ q
      obtain rfl : a = a' := Option.some.inj (h1.symm.trans h1')
      refine .inr ⟨a, es, n', rfl, nsys h1, h2, ?_⟩
      rw [h3]; exact tkeys_keys h5
    · cases e
  | _ => cases e
theorem items_of {es : Array DictEntry} {acc : Array Value} (h : ItemsOf (fun i v => ∃ e, es[i]? = some e ∧ v = e.key) acc es.size) : acc.toList = es.toList.map (·.key) := by
  apply List.ext_getElem?
  intro i
  rw [List.getElem?_map, Array.getElem?_toList, Array.getElem?_toList]
  cases q : acc[i]? with
  | none =>
    rw [Array.getElem?_eq_none_iff] at q
    rw [Array.getElem?_eq_none (by rw [← h.1]; exact q)]; rfl
  | some v =>
    obtain ⟨e, h1, h2⟩ := h.2 i v q
    rw [h1, h2]; rfl
theorem coll_collect {h₀ ζ : HM} {ρ : RM} {st : St} {s : Shared} {A : Around} (rel : Rel C h₀ ζ ρ st s.heap) {v : V} {x : Value} {xs : List V} (hh : A.handled = none) (e : collItems v st = some xs) (r : VR C.W ζ ρ v x) (hl : xs.length ≤ lim) {Q : List Value → Shared → Prop} {E : Value → Shared → Prop}
    (hQ : ∀ h' tk vs, (∀ b o, s.heap.get? b = some o → h'.get? b = some o) → VRs C.W ζ ρ xs vs → Q vs { s with heap := h', toks := tk }) : wpAny (model C.W.prog C.W.w) A (collect x) Q E s := by
  rcases coll_at rel e r with ⟨a, T, o, ys, n, rfl, hT, ho, hc, hd, hr⟩ | ⟨a, es, n, rfl, lo, ho, hr⟩
  · have hz : ys.size = xs.length := by rw [← hr.length]; simp
    exact wpAny_collect_seq a hT ho hc hd (fun h' hk => hQ h' s.toks _ hk hr) (hz ▸ lim_le hl)
  · have hz : es.size = xs.length := by rw [← hr.length]; simp
    exact collect_src (OK := fun h => h.get? a = some (dctO es n)) (dict_src lo) hh ho (hz ▸ lim_le hl) fun h' tk acc hk hi => by rw [items_of hi]; exact hQ h' tk _ hk hr
noncomputable def lenOf (v : V) (st : St) : Option Nat := match v with
  | .tup xs => some xs.length
  | .lst xs => some xs.length
  | .dct kvs => some kvs.length
  | .ref n => (match st.hp n with
    | some (.list xs) => some xs.length
    | some (.idict kvs) => some kvs.length
    | _ => none)
  | _ => none
noncomputable def bLen (vs : List V) : M V := fun s => match vs with
  | [v] => (match lenOf v s with
    | some n => if n ≤ lim then some (.int n, s) else none
    | none => none)
  | _ => none
theorem lenOf_lists {v : V} {st : St} {n : Nat} (e : lenOf v st = some n) : (∃ xs, v = .tup xs ∧ n = xs.length) ∨ (∃ xs, lView v st = some xs ∧ n = xs.length) ∨ (∃ kvs, dView v st = some kvs ∧ n = kvs.length) := by
  unfold lenOf at e
  split at e
  · cases e; exact .inl ⟨_, rfl, rfl⟩
  · cases e; exact .inr (.inl ⟨_, rfl, rfl⟩)
  · cases e; exact .inr (.inr ⟨_, rfl, rfl⟩)
  · split at e
    · rename_i xs q; cases e; exact .inr (.inl ⟨xs, by unfold lView; simp only [q], rfl⟩)
    · rename_i kvs q; cases e; exact .inr (.inr ⟨kvs, by unfold dView; simp only [q], rfl⟩)
    · cases e
  · cases e
theorem bLen_C : SimC C (.builtin "len") bLen := by
  intro h₀ ζ ρ st s P E vs xs ok rel ra v st' e k
  unfold bLen at e
  split at e
  · rename_i u
    obtain ⟨x, _, rfl, r, q⟩ := ra
    simp only [VRa] at q
    subst q
    split at e
    · rename_i n hn
      split at e
      · rename_i hl
        cases e
        have hb : lim < 2 ^ 63 := by decide
        have done : ∀ (m : Nat) (t : Tok) (tk : Nat), m = n → P (.int (m : Int) t) { s with toks := tk } := fun m t tk hm => by
          rw [hm]; exact k ζ ρ s.heap _ _ (Gr.refl _ _ _ _) rel (by simp only [VR]; exact ⟨_, rfl⟩)
        rcases lenOf_lists hn with ⟨l, rfl, rfl⟩ | ⟨l, h1, rfl⟩ | ⟨l, h1, rfl⟩
        · obtain ⟨a, ys, rfl, ht, hr⟩ := tup_at rel r
          have hz : ys.size = l.length := by rw [← hr.length]; simp
          exact PyProof.Rows.len_tuple ht (by rw [hz]; (first | lia | omega)) (done _ _ _ hz)
        · obtain ⟨a, ys, rfl, ht, hr⟩ := lView_at rel h1 r
          have hz : ys.size = l.length := by rw [← hr.length]; simp
          exact Calls.call_len_list ht (by rw [hz]; (first | lia | omega)) (done _ _ _ hz)
        · obtain ⟨a, kys, rfl, hsys, hdict, hk⟩ := dView_at rel h1 r
          exact call_len_dict hsys hdict (by rw [hk.length]; (first | lia | omega)) (done _ _ _ hk.length)
      · cases e
    · cases e
  · cases e
noncomputable def bAbs : List V → M V
  | [.int i] => pure (.int (if i < 0 then -i else i))
  | _ => M.fail
theorem bAbs_C : SimC C (.builtin "abs") bAbs := by
  intro h₀ ζ ρ st s P E vs xs ok rel ra v st' e k
  unfold bAbs at e
  split at e
  · rename_i i
    obtain ⟨x, _, rfl, r, q⟩ := ra
    simp only [VRa] at q
    subst q
    simp only [VR] at r
    obtain ⟨t, rfl⟩ := r
    cases e
    exact call_abs_int fun u tk => k ζ ρ s.heap _ _ (Gr.refl _ _ _ _) rel (by simp only [VR]; exact ⟨_, rfl⟩)
  · cases e
noncomputable def bRange : List V → M V
  | [.int n] => pure (.rng 0 n 1)
  | [.int a, .int b] => pure (.rng a b 1)
  | [.int a, .int b, .int c] => do M.guard (decide (c ≠ 0) && decide (c.natAbs < 2 ^ 63)); pure (.rng a b c)
  | _ => M.fail
theorem bRange_C : SimC C (.type "range") bRange := by
  intro h₀ ζ ρ st s P E vs xs ok rel ra v st' e k
  unfold bRange at e
  split at e
  · rename_i n
    obtain ⟨x, _, rfl, r, q⟩ := ra
    simp only [VRa] at q
    subst q
    simp only [VR] at r
    obtain ⟨t, rfl⟩ := r
    cases e
    refine call_range_1 ?_
    obtain ⟨R', G'⟩ := rel.pushZ { cls := .type "range", data := .fields #[.int 0 s.toks, .int n t, .int 1 (s.toks + 1)] } rfl
    exact k _ _ _ _ _ G' R' (by simp only [VR]; exact ⟨_, _, _, _, rfl, upd_same _ _ _⟩)
  · rename_i a b
    obtain ⟨x, _, rfl, r, y, _, rfl, r2, q⟩ := ra
    simp only [VRa] at q
    subst q
    simp only [VR] at r r2
    obtain ⟨t, rfl⟩ := r
    obtain ⟨u, rfl⟩ := r2
    cases e
    refine call_range_2 ?_
    obtain ⟨R', G'⟩ := rel.pushZ { cls := .type "range", data := .fields #[.int a t, .int b u, .int 1 s.toks] } rfl
    exact k _ _ _ _ _ G' R' (by simp only [VR]; exact ⟨_, _, _, _, rfl, upd_same _ _ _⟩)
  · rename_i a b c
    obtain ⟨x, _, rfl, r, y, _, rfl, r2, z, _, rfl, r3, q⟩ := ra
    simp only [VRa] at q
    subst q
    simp only [VR] at r r2 r3
    obtain ⟨t, rfl⟩ := r
    obtain ⟨u, rfl⟩ := r2
    obtain ⟨w, rfl⟩ := r3
    obtain ⟨_, s2, e3, e4⟩ := M.bind_some e
    obtain ⟨hg, hs⟩ := M.guard_some e3
    cases hs; cases e4
    simp only [Bool.and_eq_true, decide_eq_true_eq] at hg
    refine call_range_3 hg.1 ?_ (.inl (PyProof.noPylong_of_log2 (by have : c.natAbs.log2 < 63 := (Nat.log2_lt (by (first | lia | omega))).mpr hg.2; (first | lia | omega))))
    obtain ⟨R', G'⟩ := rel.pushZ { cls := .type "range", data := .fields #[.int a t, .int b u, .int c w] } rfl
    exact k _ _ _ _ _ G' R' (by simp only [VR]; exact ⟨_, _, _, _, rfl, upd_same _ _ _⟩)
  · cases e
end Lay
end

section
open PySem PySem.W PyProof.Rows
set_option Elab.async false
set_option linter.unusedVariables false
set_option maxRecDepth 100000
namespace Lay
variable {C : Cx}
theorem Rel.keepAll {h₀ ζ : HM} {ρ : RM} {st : St} {h h' : Heap} (R : Rel C h₀ ζ ρ st h) (keep : ∀ b o, h.get? b = some o → h'.get? b = some o) : Rel C h₀ ζ ρ st h' ∧ Gr C.T h ζ ρ h' ζ ρ := by
  refine ⟨R.off (fun _ => False) (fun b o _ e => keep b o e) (fun _ x => x.elim) (fun _ _ _ x => x), Gr.heap fun a e => ?_⟩
  cases q : h.get? a with
  | none => exact absurd q e
  | some o => rw [keep a o q]; exact nofun
noncomputable def bTuple (vs : List V) : M V := fun s => match vs with
  | [v] => (match lView v s with
    | some xs => mkTup xs s
    | none => none)
  | _ => none
theorem bTuple_C : SimC C (.type "tuple") bTuple := by
  intro h₀ ζ ρ st s P E vs xs ok rel ra v st' e k
  unfold bTuple at e
  split at e
  · rename_i u
    obtain ⟨x, _, rfl, r, q⟩ := ra
    simp only [VRa] at q
    subst q
    split at e
    · rename_i l hl
      obtain ⟨_, s2, e3, e4⟩ := M.bind_some e
      cases e4
      obtain ⟨hg, hs⟩ := M.guard_some e3
      cases hs
      simp only [Bool.and_eq_true, decide_eq_true_eq] at hg
      obtain ⟨a, ys, rfl, ht, hr⟩ := lView_at rel hl r
      have hz : ys.size = l.length := by rw [← hr.length]; simp
      refine call_tuple_list ht (fun h' hk => ?_) (hz ▸ lim_le hg.2)
      obtain ⟨R1, G1⟩ := rel.keepAll hk
      obtain ⟨R2, G2⟩ := R1.pushZ { cls := .type "tuple", data := .seq ys } rfl
      refine k _ _ _ _ _ (G1.trans G2) R2 ?_
      simp only [VR]
      exact ⟨_, _, ys, rfl, upd_same _ _ _, ⟨rfl, 0, rfl⟩, VRs.mono G2.zl (fun _ _ _ q => q) _ _ hr⟩
    · cases e
  · cases e
theorem list_beside {h₀ ζ : HM} {ρ : RM} {st st' : St} {h h' : Heap} {c : Option Nat} {vs : List V} {ys : Array Value} {n : Nat} {v : V} (rel : Rel C h₀ ζ ρ st h) (hc : okSlot C c) (e : mkList c vs st = some (v, st')) (r : VRs C.W ζ ρ vs ys.toList)
    {D : Addr} (hD : h.objs.size ≤ D) (keep : ∀ b o, h.get? b = some o → h'.get? b = some o) (ho : h'.get? D = some { cls := .type "list", dict := none, data := .seq ys n, slots := #[] }) : ∃ ζ' ρ', Gr C.T h ζ ρ h' ζ' ρ' ∧ Rel C h₀ ζ' ρ' st' h' ∧ VR C.W ζ' ρ' v (.ref D) := by
  have hn : h.get? D = none := by
    cases q : h.get? D with
    | none => rfl
    | some o => exact absurd (Heap.lt_size q) (Nat.not_lt.mpr hD)
  have off := rel.offNew hn
  have sys := rel.not_sys hD
  obtain ⟨R1, G1⟩ := rel.keepAll keep
  exact list_adopt R1 hc e r ho ⟨n, by simp⟩ ⟨off.z, off.k, off.r, off.p⟩ sys hn G1.dm
noncomputable def bList (c : Option Nat) (vs : List V) : M V := fun s => match vs with
  | [v] => (match rView v with
    | some xs => if xs.length ≤ lim then mkList c xs s else none
    | none => match collItems v s with
      | some xs => mkList c xs s
      | none => none)
  | _ => none
theorem mkList_len {c : Option Nat} {xs : List V} {st : St} {r} (e : mkList c xs st = some r) : xs.length ≤ lim := by
  obtain ⟨_, s2, e3, e4⟩ := M.bind_some e
  obtain ⟨hg, _⟩ := M.guard_some e3
  simp only [Bool.and_eq_true, decide_eq_true_eq] at hg
  exact hg.2
theorem bList_C {c : Option Nat} (hc : okSlot C c) : SimC C (.type "list") (bList c) := by
  intro h₀ ζ ρ st s P E vs xs ok rel ra v st' e k
  unfold bList at e
  split at e
  · rename_i u
    obtain ⟨x, _, rfl, r, q⟩ := ra
    simp only [VRa] at q
    subst q
    split at e
    · rename_i l hl
      split at e
      · rename_i hlen
        unfold rView at hl
        split at hl
        · rename_i a b cc
          split at hl
          · rename_i hsm
            cases hl
            simp only [VR] at r
            obtain ⟨ad, t, u, w, rfl, h1⟩ := r
            have hnn := rangeSize_nonneg a b cc
            have hll : (rngItems a b cc).length = (Builtin.Range.rangeSize a b cc).toNat := by simp [rngItems]
            have h24 : (Builtin.Range.rangeSize a b cc).toNat ≤ 2 ^ 24 := by
              have e1 : lim ≤ 2 ^ 24 := by decide
              (first | lia | omega)
            refine call_list_range (n := (Builtin.Range.rangeSize a b cc).toNat) ok.room.handled (rel.frozen _ _ h1 : IsRange s.heap ad a b cc t u w) hsm (by (first | lia | omega)) h24 fun h' tk acc c' hk ho hit => ?_
            have hr : VRs C.W ζ ρ (rngItems a b cc) acc.toList := by
              refine VRs.of_get (by rw [hll, Array.length_toList]; exact hit.1.symm) fun i v y e1 e2 => ?_
              rw [Array.getElem?_toList] at e2
              obtain ⟨t', ht'⟩ := hit.2 i y e2
              unfold rngItems at e1
              rw [List.getElem?_map] at e1
              obtain ⟨j, e3, rfl⟩ := Option.map_eq_some_iff.mp e1
              have hj := List.getElem?_eq_some_iff.mp e3
              obtain ⟨hj1, hj2⟩ := hj
              rw [List.getElem_range] at hj2
              subst hj2
              exact ⟨rfl, by simp only [VR]; exact ⟨t', ht'⟩⟩
            obtain ⟨ζ', ρ', G', R', V'⟩ := list_beside rel hc e hr (Nat.le_refl _) hk ho
            exact k _ _ _ _ _ G' R' V'
          · cases hl
        · cases hl
      · cases e
    · split at e
      · rename_i l hl
        have hlen := mkList_len e
        rcases coll_at rel hl r with ⟨a, T, o, ys, n, rfl, hT, ho, hcl, hdt, hr⟩ | ⟨a, es, n, rfl, lo, ho, hr⟩
        · have hz : ys.size = l.length := by rw [← hr.length]; simp
          refine call_list_seq a hT ho hcl hdt (fun h' c' hk ho' => ?_) (hz ▸ lim_le hlen)
          obtain ⟨ζ', ρ', G', R', V'⟩ := list_beside rel hc e hr (Nat.le_refl _) hk ho'
          exact k _ _ _ _ _ G' R' V'
        · have hz : es.size = l.length := by rw [← hr.length]; simp
          refine kdl_call (OK := fun h => h.get? a = some (dctO es n)) (dict_src lo) ok.room.handled ho (hz ▸ lim_le hlen) fun h' tk acc c' hk ho' hit => ?_
          rw [← items_of hit] at hr
          obtain ⟨ζ', ρ', G', R', V'⟩ := list_beside rel hc e hr (Nat.le_refl _) hk ho'
          exact k _ _ _ _ _ G' R' V'
      · cases e
  · cases e
noncomputable def sortI (l : List Int) : List Int := l.mergeSort (fun a b => decide (a ≤ b))
theorem sortI_perm (l : List Int) : (sortI l).Perm l := List.mergeSort_perm ..
theorem sortI_sorted (l : List Int) : (sortI l).Pairwise (· ≤ ·) := by
  have := List.pairwise_mergeSort (le := fun a b : Int => decide (a ≤ b)) (fun a b c h1 h2 => by simp only [decide_eq_true_eq] at *; (first | lia | omega)) (fun a b => by simp only [Bool.or_eq_true, decide_eq_true_eq]; (first | lia | omega)) l
  exact this.imp fun h => by simpa using h
theorem sortI_unique {a l : List Int} (hp : a.Perm l) (hs : a.Pairwise (· ≤ ·)) : a = sortI l := ksm_same (hp.trans (sortI_perm l).symm) hs (sortI_sorted l)
theorem ints_are2 {W : Wd} {ζ : HM} {ρ : RM} : ∀ {vs : List V} {l : List Int} {ys : List Value}, intsOf vs = some l → VRs W ζ ρ vs ys → IntsAre ys l
  | [], _, _, e, h => by cases e; simp only [VRs] at h; subst h; exact .nil
  | .int i :: r, _, _, e, h => by
    simp only [intsOf] at e
    obtain ⟨l', e', rfl⟩ := Option.map_eq_some_iff.mp e
    simp only [VRs, VR] at h
    obtain ⟨y, r', rfl, _, ⟨t, rfl⟩, h2⟩ := h
    exact .cons i t (ints_are2 e' h2)
  | .none :: _, _, _, e, _ => by cases e
  | .bool _ :: _, _, _, e, _ => by cases e
  | .str _ :: _, _, _, e, _ => by cases e
  | .tup _ :: _, _, _, e, _ => by cases e
  | .lst _ :: _, _, _, e, _ => by cases e
  | .dct _ :: _, _, _, e, _ => by cases e
  | .ref _ :: _, _, _, e, _ => by cases e
  | .val _ :: _, _, _, e, _ => by cases e
  | .rng _ _ _ :: _, _, _, e, _ => by cases e
theorem ints_back2 {W : Wd} {ζ : HM} {ρ : RM} : ∀ {l : List Int} {ys : List Value}, IntsAre ys l → VRs W ζ ρ (l.map .int) ys
  | _, _, .nil => by simp [VRs]
  | _, _, .cons i t h => by simp only [List.map_cons, VRs, VR]; exact ⟨_, _, rfl, rfl, ⟨t, rfl⟩, ints_back2 h⟩
theorem intsOf_length : ∀ {vs : List V} {l : List Int}, intsOf vs = some l → l.length = vs.length
  | [], _, e => by cases e; rfl
  | .int i :: r, _, e => by
    simp only [intsOf] at e
    obtain ⟨l', e', rfl⟩ := Option.map_eq_some_iff.mp e
    simp [intsOf_length e']
  | .none :: _, _, e => by cases e
  | .bool _ :: _, _, e => by cases e
  | .str _ :: _, _, e => by cases e
  | .tup _ :: _, _, e => by cases e
  | .lst _ :: _, _, e => by cases e
  | .dct _ :: _, _, e => by cases e
  | .ref _ :: _, _, e => by cases e
  | .val _ :: _, _, e => by cases e
  | .rng _ _ _ :: _, _, e => by cases e
noncomputable def bSorted (c : Option Nat) (vs : List V) : M V := fun s => match vs with
  | [v] => (match collItems v s with
    | some xs => (match intsOf xs with
      | some l => if l.length < 64 then mkList c ((sortI l).map .int) s else none
      | none => none)
    | none => none)
  | _ => none
theorem sortedHeap_at {h : Heap} {a : Addr} {vs : List Value} {out : Array Value} {xs : Array Value} {n : Nat} (ho : h.get? a = some (seqObj "list" xs n)) :
    (∃ n', (sortedHeap h a vs out).get? a = some (seqObj "list" out n')) ∧ ∀ b o, b ≠ a → h.get? b = some o → (sortedHeap h a vs out).get? b = some o := by
  unfold sortedHeap
  have h1 := get?_update_seq ho (fun _ => #[])
  have h2 := push_keeps _ (seqObj "list" #[] 0) _ _ (push_keeps _ (seqObj "tuple" vs.toArray 0) _ _ h1)
  exact ⟨⟨_, get?_update_seq h2 fun _ => out⟩, fun b o hb e => (Heap.get?_update_other _ _ (Ne.symm hb)).trans (push_keeps _ _ _ _ (push_keeps _ _ _ _ ((Heap.get?_update_other _ _ (Ne.symm hb)).trans e)))⟩
theorem bSorted_C {c : Option Nat} (hc : okSlot C c) : SimC C (.builtin "sorted") (bSorted c) := by
  intro h₀ ζ ρ st s P E vs xs ok rel ra v st' e k
  unfold bSorted at e
  split at e
  · rename_i u
    obtain ⟨x, _, rfl, r, q⟩ := ra
    simp only [VRa] at q
    subst q
    split at e
    · rename_i l hl
      split at e
      · rename_i ns hns
        split at e
        · rename_i h64
          have hlen : l.length = ns.length := (intsOf_length hns).symm
          refine Calls.call_function_entry kind_sorted plain_sorted entry_sorted (args_sorted1 _) ?_
          unfold Builtin.«sorted»
          refine wpAny_bind (m := checkCount "sorted" 1 1 _) (wpAny_pure ?_)
          refine wpAny_bind (coll_collect (A := C.A.in1) rel ok.room.handled hl r (by rw [hlen]; exact Nat.le_trans (Nat.le_of_lt h64) (by decide)) fun h1 tk1 vs hk hr => ?_)
          have hI := ints_are2 hns hr
          have hvl : vs.length = ns.length := by rw [hr.length, hlen]
          refine wpAny_bind (wpAny_newList ?_ (by rw [hvl, sizeLine_eq]; (first | lia | omega)))
          have hoL : (h1.push (seqObj "list" vs.toArray 0)).get? h1.objs.size = some (seqObj "list" vs.toArray 0) := Heap.get?_push_size _ rfl
          refine wpAny_bind (wpAny_holding (wpAny_call_entry slot_list_sort ⟨_, hoL, rfl⟩ entry_list_sort (list_sort_tree hoL hI (by rw [hvl]; exact h64) fun out ns' a1 a2 a3 => ⟨_, rfl, ?_⟩) (args_list_sort _)))
          refine wpAny_pure ⟨_, rfl, ?_⟩
          obtain rfl := sortI_unique a2 a3
          obtain ⟨⟨n', ho'⟩, hk'⟩ := sortedHeap_at (vs := vs) (out := out) hoL
          obtain ⟨R1, G1⟩ := rel.keepAll hk
          obtain ⟨ζ', ρ', G', R', V'⟩ := list_beside (ys := out) R1 hc e (ints_back2 a1) (Nat.le_refl _) (fun b o q => hk' b o (Nat.ne_of_lt (Heap.lt_size q)) (push_keeps _ _ _ _ q)) ho'
          exact k _ _ _ _ _ (G1.trans G') R' V'
        · cases e
      · cases e
    · cases e
  · cases e
end Lay
end

section
open PySem PySem.W PyProof.Rows
set_option Elab.async false
set_option linter.unusedVariables false
set_option maxRecDepth 100000
namespace Lay
variable {C : Cx}
noncomputable def lexLt (p q : Int × Int) : Bool := decide (p.1 < q.1) || (decide (p.1 = q.1) && decide (p.2 < q.2))
theorem lexLt_iff {p q : Int × Int} : lexLt p q = true ↔ p.1 < q.1 ∨ (p.1 = q.1 ∧ p.2 < q.2) := by simp [lexLt]
theorem lexLt_ff {p q : Int × Int} : lexLt p q = false ↔ q.1 < p.1 ∨ (p.1 = q.1 ∧ q.2 ≤ p.2) := by
  rw [← Bool.not_eq_true, lexLt_iff]; (first | lia | omega)
noncomputable def pairKey : V → Option (Int × Int)
  | .tup [.int a, .int b] => some (a, b)
  | _ => none
noncomputable def pairKeys : List V → Option (List (Int × Int))
  | [] => some []
  | v :: r => match pairKey v, pairKeys r with
    | some k, some ks => some (k :: ks)
    | _, _ => none
theorem pairKeys_length : ∀ {vs : List V} {ks : List (Int × Int)}, pairKeys vs = some ks → ks.length = vs.length
  | [], _, e => by cases e; rfl
  | v :: r, _, e => by
    unfold pairKeys at e
    split at e
    · rename_i k ks q1 q2; cases e; simp [pairKeys_length q2]
    · cases e
theorem pairKeys_get : ∀ {vs : List V} {ks : List (Int × Int)}, pairKeys vs = some ks → ∀ (i : Nat) k, ks[i]? = some k → vs[i]? = some (.tup [.int k.1, .int k.2])
  | [], _, e, i, k, h => by cases e; simp at h
  | v :: r, _, e, i, k, h => by
    unfold pairKeys at e
    split at e
    · rename_i k' ks q1 q2
      cases e
      cases i with
      | zero =>
        simp only [List.getElem?_cons_zero, Option.some.injEq] at h ⊢
        subst h
        unfold pairKey at q1
        split at q1
        · cases q1; rfl
        · cases q1
      | succ i => simp only [List.getElem?_cons_succ] at h ⊢; exact pairKeys_get q2 i k h
    · cases e
noncomputable def sortP (l : List ((Int × Int) × V)) : List V := (l.mergeSort (fun a b => !lexLt b.1 a.1)).map (·.2)
noncomputable def callEach (fm : FM) : List V → M (List V)
  | [] => pure []
  | v :: r => do let k ← callM fm [v]; let ks ← callEach fm r; pure (k :: ks)
noncomputable def bSortedK (c : Option Nat) (fm : FM) (v : V) : M V := fun s => match collItems v s with
  | some xs => if xs.length < 64 then (do
      let ks ← callEach fm xs
      match pairKeys ks with
      | some ps => do M.guard (decide ps.Nodup); mkList c (sortP (ps.zip xs))
      | none => M.fail : M V) s else none
  | none => none
theorem callEach_length {fm : FM} : ∀ {xs : List V} {st : St} {ks : List V} {st' : St}, callEach fm xs st = some (ks, st') → ks.length = xs.length
  | [], _, _, _, e => by cases e; rfl
  | v :: r, _, _, _, e => by
    obtain ⟨k, s1, _, e2⟩ := M.bind_some e
    obtain ⟨ks, s2, e3, e4⟩ := M.bind_some e2
    cases e4
    simp [callEach_length e3]
structure Beside (C : Cx) (h₀ ζ : HM) (ρ : RM) (st : St) (g : Heap) (D kS : Addr) (e1 : Nat) (keys : Array Value) : Prop where
  rel : Rel C h₀ ζ ρ st g
  d : g.get? D = some (seqObj "list" #[] e1)
  k : ∃ e, g.get? kS = some (seqObj "list" keys e)
  offD : Off C h₀ ζ ρ D
  offK : Off C h₀ ζ ρ kS
  ne : D ≠ kS
theorem Beside.push {h₀ ζ : HM} {ρ : RM} {st : St} {g g' : Heap} {D kS : Addr} {e1 : Nat} {keys keys' : Array Value} (b : Beside C h₀ ζ ρ st g D kS e1 keys) (hs : Heap.SameBut kS g g') {e : Nat} (hk : g'.get? kS = some (seqObj "list" keys' e)) : Beside C h₀ ζ ρ st g' D kS e1 keys' ∧ Gr C.T g ζ ρ g' ζ ρ :=
  ⟨⟨b.rel.swapObj b.offK hs, (hs.2 D b.ne).trans b.d, ⟨e, hk⟩, b.offD, b.offK, b.ne⟩, Gr.heap fun x q => by
    by_cases q' : x = kS
    · subst q'; rw [hk]; exact nofun
    · rw [hs.2 x q']; exact q⟩
theorem key_fold {f : Value} {B k : Nat} {fm : FM} (hf : FnSim C.W f B k fm) (hB : C.T ≤ B) {A' : Around} (room : Room A' k) (ok : C.Ok) {h₀ : HM} {D kS : Addr} {e1 : Nat} {E : Value → Shared → Prop}
    {body : Value → PUnit → Sem (ForInStep PUnit)}
    (hb : ∀ x (s : Shared) (R' : ForInStep PUnit → Shared → Prop), wpAny (model C.W.prog C.W.w) A' (call f [x]) (fun key s' => wpAny (model C.W.prog C.W.w) A' (Builtin.List.listUpdate (.ref kS) (·.push key)) (fun _ s'' => R' (.yield ⟨⟩) s'') E s') (fun _ _ => False) s → wpAny (model C.W.prog C.W.w) A' (body x ⟨⟩) R' E s) :
    ∀ (xs : List V) (vs : List Value) (ζ : HM) (ρ : RM) (st : St) (s : Shared) (keys : Array Value) (kvs : List V) (Q : PUnit → Shared → Prop), Beside C h₀ ζ ρ st s.heap D kS e1 keys → VRs C.W ζ ρ xs vs → VRs C.W ζ ρ kvs keys.toList → keys.size + xs.length < 64 →
      ∀ ks st', callEach fm xs st = some (ks, st') → ks.all V.low = true →
      (∀ ζ' ρ' g tk keys', Gr C.T s.heap ζ ρ g ζ' ρ' → Beside C h₀ ζ' ρ' st' g D kS e1 keys' → VRs C.W ζ' ρ' (kvs ++ ks) keys'.toList → Q ⟨⟩ { s with heap := g, toks := tk }) →
      wpAny (model C.W.prog C.W.w) A' (forIn vs PUnit.unit body) Q E s
  | [], vs, ζ, ρ, st, s, keys, kvs, Q, b, r, rk, hz, ks, st', e, hlow, kk => by
    simp only [VRs] at r
    subst r
    cases e
    rw [List.forIn_nil]
    exact wpAny_pure (kk ζ ρ s.heap s.toks keys (Gr.refl _ _ _ _) b (by simpa using rk))
  | x :: xs, vs, ζ, ρ, st, s, keys, kvs, Q, b, r, rk, hz, ks, st', e, hlow, kk => by
    simp only [VRs] at r
    obtain ⟨y, ys, rfl, hxl, r1, r2⟩ := r
    obtain ⟨key, s1, e2, e3⟩ := M.bind_some e
    obtain ⟨ks', s2, e4, e5⟩ := M.bind_some e3
    cases e5
    simp only [List.all_cons, Bool.and_eq_true] at hlow
    rw [List.forIn_cons]
    obtain ⟨eK, hK⟩ := b.k
    have relK := (b.rel.addK b.d ⟨b.offD.z, b.offD.k, b.offD.r⟩ b.offD.p).addK hK ⟨b.offK.z, by rw [upd_ne _ _ (Ne.symm b.ne)]; exact b.offK.k, b.offK.r⟩ b.offK.p
    have le : Le h₀ (upd (upd h₀ D (some (seqObj "list" #[] e1))) kS (some (seqObj "list" keys eK))) := (upd_le b.offD.k).trans (upd_le (by rw [upd_ne _ _ (Ne.symm b.ne)]; exact b.offK.k))
    refine wpAny_bind (hb y s _ ?_)
    refine wpAny_call (codeAny_mono (fn_code (E := fun _ _ => False) hf hB room ok relK (vs := [x]) (xs := [y]) ⟨y, [], rfl, r1, rfl⟩ e2 fun ζ1 ρ1 g1 tk1 key' G1 rel1 rkey => ?_) fun r s' z => z)
    have b1 : Beside C h₀ ζ1 ρ1 s1 g1 D kS e1 keys := ⟨rel1.dropK le b.rel.good, rel1.kept _ _ (by rw [upd_ne _ _ b.ne]; exact upd_same _ _ _), ⟨eK, rel1.kept _ _ (upd_same _ _ _)⟩, Off.gr b.offD G1 (by rw [b.d]; exact nofun), Off.gr b.offK G1 (by rw [hK]; exact nofun), b.ne⟩
    obtain ⟨eK1, hK1⟩ := b1.k
    simp only [List.length_cons] at hz
    refine listUpdate_at hK1 rfl ?_ (by rw [sizeLine_eq]; (first | lia | omega)) (Nat.le_trans (Nat.le_of_eq (Array.size_push ..)) (by rw [sizeLine_eq]; (first | lia | omega)))
    have s1 := Heap.SameBut.update g1 kS (Obj.mapSeq (·.push key'))
    have hK2 := get?_update_seq hK1 (·.push key')
    obtain ⟨b2, G2⟩ := b1.push s1 hK2
    have G12 := G1.trans G2
    show wpAny _ _ (forIn ys PUnit.unit body) _ _ _
    refine key_fold hf hB room ok hb xs ys ζ1 ρ1 _ _ (keys.push key') (kvs ++ [key]) Q b2 (VRs.mono G1.zl (Gr.le b.rel G1).low _ _ r2) ?_ (by rw [Array.size_push]; (first | lia | omega)) ks' st' e4 hlow.2 fun ζ' ρ' g tk keys' G b' rr => kk ζ' ρ' g tk keys' (G12.trans G) b' (by simpa using rr)
    have := (VRs.mono G1.zl (Gr.le b.rel G1).low _ _ rk).snoc hlow.1 rkey
    simpa using this
theorem key_tuple {h₀ ζ : HM} {ρ : RM} {st : St} {h : Heap} (rel : Rel C h₀ ζ ρ st h) {a b : Int} {y : Value} (r : VR C.W ζ ρ (.tup [.int a, .int b]) y) : ∃ ad o n t u, y = .ref ad ∧ h.get? ad = some o ∧ o.cls = .type "tuple" ∧ o.data = .seq #[.int a t, .int b u] n := by
  obtain ⟨ad, ys, rfl, ⟨o, ho, hc, n, hd⟩, h2⟩ := tup_at rel r
  simp only [VRs, VR] at h2
  obtain ⟨y1, r1, e1, _, ⟨t, rfl⟩, y2, r2, e2, _, ⟨u, rfl⟩, e3⟩ := h2
  subst e3 e2
  have : ys = #[.int a t, .int b u] := Array.toList_inj.mp (by rw [e1])
  subst this
  exact ⟨ad, o, n, t, u, rfl, ho, hc, hd⟩
theorem eqBool_ints {W : Wd} {A : Around} {E : Value → Shared → Prop} {s : Shared} {a b : Int} {t u : Tok} {Q : Bool → Shared → Prop} (h : Q (decide (a = b)) s) : wpAny (model W.prog W.w) A (eqBool (.int a t) (.int b u)) Q E s :=
  (intKind W.prog W.w).eqBool (isInt_self (W := W) a t) (isInt_self (W := W) b u) h
theorem key_lt {A : Around} {h₀ ζ : HM} {ρ : RM} {st : St} {s : Shared} (rel : Rel C h₀ ζ ρ st s.heap) {p q : Int × Int} {x y : Value} (rx : VR C.W ζ ρ (.tup [.int p.1, .int p.2]) x) (ry : VR C.W ζ ρ (.tup [.int q.1, .int q.2]) y) {Q : Bool → Shared → Prop} {E : Value → Shared → Prop}
    (h : Q (lexLt p q) s) : wpAny (model C.W.prog C.W.w) A (keyLt' (tuples' true) x y) Q E s := by
  obtain ⟨ax, ox, nx, t1, u1, rfl, h1, _, d1⟩ := key_tuple rel rx
  obtain ⟨ay, oy, ny, t2, u2, rfl, h2, _, d2⟩ := key_tuple rel ry
  refine kat_lt h1 d1 h2 d2 ?_
  show KatLex _ _ _ _ _ _ [(.int p.1 t1, .int q.1 t2), (.int p.2 u1, .int q.2 u2)] 0 s
  refine kat_cons (eqBool_ints (W := C.W) ?_)
  by_cases e1 : p.1 = q.1
  · rw [decide_eq_true e1]
    refine kat_yes (kat_cons (eqBool_ints (W := C.W) ?_))
    by_cases e2 : p.2 = q.2
    · rw [decide_eq_true e2]
      refine kat_yes (kat_nil ?_)
      have : lexLt p q = false := by rw [lexLt_ff]; (first | lia | omega)
      rw [this] at h; exact h
    · rw [decide_eq_false e2]
      refine kat_no (kat_one _ _ (lt_int ?_))
      have : lexLt p q = decide (p.2 < q.2) := by simp [lexLt, e1]
      rw [this] at h
      exact h
  · rw [decide_eq_false e1]
    refine kat_no (oneLt_int ?_)
    have : lexLt p q = decide (p.1 < q.1) := by simp [lexLt, e1]
    rw [this] at h; exact h
end Lay
end

section
open PySem PySem.W PyProof.Rows
set_option Elab.async false
set_option linter.unusedVariables false
set_option maxRecDepth 100000
namespace Lay
variable {C : Cx}
theorem getD_eq {α : Type} (l : List α) (i : Nat) (d : α) : l.getD i d = (l[i]?).getD d := by simp [List.getD_eq_getElem?_getD]
theorem ask_ord {ps : List (Int × Int)} (hnd : ps.Nodup) : Ord ps.length (fun i j => lexLt (ps.getD i (0, 0)) (ps.getD j (0, 0))) where
  irr := fun i => by rw [lexLt_ff]; (first | lia | omega)
  tr := fun i j k h1 h2 => by rw [lexLt_iff] at *; (first | lia | omega)
  tot := fun i j hi hj hne => by
    rw [lexLt_iff, lexLt_iff]
    have hq : ps.getD i (0, 0) ≠ ps.getD j (0, 0) := fun q => hne (by
      rw [getD_eq, getD_eq, List.getElem?_eq_getElem hi, List.getElem?_eq_getElem hj] at q
      exact (List.getElem?_inj hi hnd).mp (by rw [List.getElem?_eq_getElem hi, List.getElem?_eq_getElem hj]; simpa using q))
    generalize ps.getD i (0, 0) = a at *
    generalize ps.getD j (0, 0) = b at *
    obtain ⟨a1, a2⟩ := a
    obtain ⟨b1, b2⟩ := b
    have : ¬ (a1 = b1 ∧ a2 = b2) := fun ⟨e1, e2⟩ => hq (by rw [e1, e2])
    simp only
    (first | lia | omega)
theorem sort_same {ps : List (Int × Int)} {xs : List V} (hl : ps.length = xs.length) {p : Array Nat} (hp : PermOf ps.length p) (hs : StrictTo (fun i j => lexLt (ps.getD i (0, 0)) (ps.getD j (0, 0))) p ps.length) (hnd : ps.Nodup) :
    sortP (ps.zip xs) = p.toList.map (fun i => xs.getD i .none) := by
  have hz : (ps.zip xs).length = ps.length := by simp [hl]
  have item : ∀ i, i < ps.length → (ps.zip xs).getD i ((0, 0), .none) = (ps.getD i (0, 0), xs.getD i .none) := fun i hi => by
    have hi2 : i < xs.length := by (first | lia | omega)
    rw [getD_eq, getD_eq, getD_eq, List.getElem?_eq_getElem (by rw [hz]; exact hi), List.getElem?_eq_getElem hi, List.getElem?_eq_getElem hi2]
    simp
  have pm : ∀ i ∈ p.toList, i < ps.length := fun i hi => List.mem_range.mp (hp.perm.mem_iff.mp hi)
  have e1 : (ps.zip xs).mergeSort (fun a b => !lexLt b.1 a.1) = p.toList.map (fun i => (ps.zip xs).getD i ((0, 0), .none)) := by
    refine List.Perm.eq_of_pairwise (le := fun a b => lexLt b.1 a.1 = false) (fun a b ha hb h1 h2 => ?_) ?_ ?_ ?_
    · have ha := (List.mergeSort_perm _ _).mem_iff.mp ha
      obtain ⟨k, hk, rfl⟩ := List.mem_map.mp hb
      have hk := pm k hk
      obtain ⟨i, hi, rfl⟩ := List.mem_iff_getElem.mp ha
      rw [item k hk] at h1 h2 ⊢
      have hi' : i < ps.length := by rw [hz] at hi; exact hi
      have hg : (ps.zip xs)[i] = (ps.getD i (0, 0), xs.getD i .none) := by
        rw [← item i hi', getD_eq, List.getElem?_eq_getElem hi]; rfl
      rw [hg] at h1 h2 ⊢
      simp only at h1 h2
      have hki : i = k := by
        refine Classical.byContradiction fun hne => ?_
        rcases (ask_ord hnd).tot i k hi' hk hne with q | q
        · rw [q] at h2; cases h2
        · rw [q] at h1; cases h1
      rw [hki]
    · have := List.pairwise_mergeSort (le := fun a b : (Int × Int) × V => !lexLt b.1 a.1) (fun a b c h1 h2 => by
        simp only [Bool.not_eq_true', lexLt_ff] at *; (first | lia | omega)) (fun a b => by
        cases h1 : lexLt b.1 a.1 with
        | false => rfl
        | true => rw [lexLt_iff] at h1; have : lexLt a.1 b.1 = false := by rw [lexLt_ff]; (first | lia | omega)
                  rw [this]; rfl) (ps.zip xs)
      exact this.imp fun h => by simpa using h
    · rw [List.pairwise_map, List.pairwise_iff_getElem]
      intro i j hi hj hij
      have hpi : i < ps.length := by have := hp.size; simp at hi; (first | lia | omega)
      have hpj : j < ps.length := by have := hp.size; simp at hj; (first | lia | omega)
      have ei : p.toList[i] = gd p i := by rw [gd_eq, ← Array.getElem?_toList, List.getElem?_eq_getElem hi]; rfl
      have ej : p.toList[j] = gd p j := by rw [gd_eq, ← Array.getElem?_toList, List.getElem?_eq_getElem hj]; rfl
      rw [item _ (pm _ (List.getElem_mem hi)), item _ (pm _ (List.getElem_mem hj)), ei, ej]
      have h := hs i j hij hpj
      simp only at h ⊢
      rw [lexLt_iff] at h
      rw [lexLt_ff]; omega
    · refine (List.mergeSort_perm _ _).trans ?_
      refine List.Perm.trans ?_ (hp.perm.map _).symm
      have : (List.range ps.length).map (fun i => (ps.zip xs).getD i ((0, 0), V.none)) = ps.zip xs := by
        apply List.ext_getElem
        · simp [hl]
        · intro i h1 h2
          rw [List.getElem_map, List.getElem_range, getD_eq, List.getElem?_eq_getElem h2]; rfl
      rw [this]
  unfold sortP
  rw [e1, List.map_map]
  refine List.map_congr_left fun i hi => ?_
  simp only [Function.comp, item i (pm i hi)]
theorem sort_tail {A : Around} {h₀ ζ : HM} {ρ : RM} {st : St} {s : Shared} {D kS : Addr} {e1 : Nat} {keys : Array Value} {sst : SortSt} {out : List Value} {P : PySem.Fin → Shared → Prop} {E : Value → Shared → Prop} (b : Beside C h₀ ζ ρ st s.heap D kS e1 keys) (hz : keys.size < 64)
    (ho : (arrOf sst).map (·.2) = out.toArray) (hlen : out.length < 64) (hf : failedOf sst = none)
    (h : ∀ g n, (∀ x o, x ≠ D → x ≠ kS → s.heap.get? x = some o → g.get? x = some o) → g.get? D = some (seqObj "list" out.toArray n) → P (.done (.ret .none)) { s with heap := g }) : wpAny (model C.W.prog C.W.w) A (ksk_tail D false e1 (.ref kS) sst) P E s := by
  obtain ⟨eK, hK⟩ := b.k
  unfold ksk_tail
  dsimp only
  refine wpAny_bind (listUpdate_at hK rfl ?_ (by rw [sizeLine_eq]; (first | lia | omega)) (Nat.zero_le _))
  have s1 := Heap.SameBut.update s.heap kS (Obj.mapSeq fun _ => (#[] : Array Value))
  have hD := (s1.2 D b.ne).trans b.d
  refine wpAny_bind (wpAny_letGo (wpAny_bind (seqEpoch_at hD rfl ?_)))
  have hsz : ((arrOf sst).map (·.2)).size = out.length := by rw [ho, List.size_toArray]
  refine wpAny_bind (listUpdate_at hD rfl ?_ (Nat.zero_le _) (by simp only [Bool.false_eq_true, if_false]; rw [hsz, sizeLine_eq]; (first | lia | omega)))
  have s2 := Heap.SameBut.update (s.heap.update kS (Obj.mapSeq fun _ => (#[] : Array Value))) D (Obj.mapSeq fun _ => if false = true then ((arrOf sst).map (·.2)).reverse else (arrOf sst).map (·.2))
  have hD2 := get?_update_seq hD fun _ => if false = true then ((arrOf sst).map (·.2)).reverse else (arrOf sst).map (·.2)
  rw [hf]
  simp only [bne_self_eq_false, Bool.false_eq_true, if_false] at hD2 s2 ⊢
  rw [ho] at hD2 s2 ⊢
  exact wpAny_pure (h _ _ (fun x o h1 h2 e => (s2.2 x h1).trans ((s1.2 x h2).trans e)) hD2)
theorem bSortedK_K {c : Option Nat} (hc : okSlot C c) {q : Addr} {B k : Nat} {fm : FM} (hf : FnSim C.W (.ref q) B k fm) (hB : C.T ≤ B) (hk : k + 1 ≤ C.k) :
    SimK C C.T (VR C.W) (fun x => call (.builtin "sorted") [x] [(Str.ofString "key", .ref q)]) (bSortedK c fm) (VR C.W) := by
  intro h₀ ζ ρ st s P E v x ok rel r u st' e kk
  unfold bSortedK at e
  split at e
  · rename_i xs hxs
    split at e
    · rename_i h64
      obtain ⟨ks, s1, e1, e2⟩ := M.bind_some e
      cases hps : pairKeys ks with
      | none => rw [hps] at e2; cases e2
      | some ps =>
        rw [hps] at e2
        obtain ⟨_, s2, e3, e4⟩ := M.bind_some e2
        obtain ⟨hnd, hs2⟩ := M.guard_some e3
        cases hs2
        have hnd := of_decide_eq_true hnd
        have hkl := callEach_length e1
        have hpl := pairKeys_length hps
        have hd := ok.room.depth
        have hu := ok.room.units
        refine call_function_entry_kw kind_sorted plain_sorted entry_sorted (ksk_s1 _ _) ?_
        unfold Builtin.«sorted»
        refine wpAny_bind (m := checkCount "sorted" 1 1 _) (wpAny_pure ?_)
        refine wpAny_bind (coll_collect (A := C.A.in1) rel ok.room.handled hxs r (Nat.le_trans (Nat.le_of_lt h64) (by decide)) fun h1 tk1 vs hkeep hr => ?_)
        have hvl : vs.length = xs.length := hr.length
        refine wpAny_bind (wpAny_newList ?_ (by rw [hvl, sizeLine_eq]; (first | lia | omega)))
        obtain ⟨R1, G1⟩ := rel.keepAll hkeep
        have hoL : (h1.push (seqObj "list" vs.toArray 0)).get? h1.objs.size = some (seqObj "list" vs.toArray 0) := Heap.get?_push_size _ rfl
        have offD := R1.offNew (get_size h1)
        have hDn : h1.get? h1.objs.size = none := get_size h1
        have R2 := R1.push (seqObj "list" vs.toArray 0)
        have G2 : Gr C.T h1 ζ ρ (h1.push (seqObj "list" vs.toArray 0)) ζ ρ := Gr.push _ _
        have sysD : h1.objs.size ≠ sysModules := R1.not_sys (Nat.le_refl _)
        show wpAny _ _ _ _ _ { s with heap := h1.push (seqObj "list" vs.toArray 0), toks := tk1 }
        generalize hDq : h1.objs.size = D at *
        generalize hgq : h1.push (seqObj "list" vs.toArray 0) = g1 at *
        refine wpAny_bind (wpAny_holding (wpAny_call_entry_kw slot_list_sort ⟨_, hoL, rfl⟩ entry_list_sort ?body (ksk_l1 _ _)))
        case body =>
        rw [ksk_t1]
        unfold ksk_tree
        refine wpAny_bind (listItems_at hoL rfl (wpAny_bind (listUpdate_at hoL rfl ?_ (by rw [List.size_toArray, hvl, sizeLine_eq]; (first | lia | omega)) (Nat.zero_le _))))
        have sb := Heap.SameBut.update g1 D (Obj.mapSeq fun _ => (#[] : Array Value))
        have hD1 := get?_update_seq hoL fun _ => (#[] : Array Value)
        have R3 : Rel C h₀ ζ ρ st (g1.update D (Obj.mapSeq fun _ => (#[] : Array Value))) := R2.swapObj offD sb
        have dm3 : ∀ b, g1.get? b ≠ none → (g1.update D (Obj.mapSeq fun _ => (#[] : Array Value))).get? b ≠ none := fun b q => by
          by_cases q' : b = D
          · subst q'; rw [hD1]; exact nofun
          · rw [sb.2 b q']; exact q
        generalize hg2q : g1.update D (Obj.mapSeq fun _ => (#[] : Array Value)) = g2 at *
        generalize hes : (if (#[] : Array Value).size == vs.toArray.size then 0 else 0 + 1) = ep at *
        refine wpAny_bind (seqEpoch_at hD1 rfl (wpAny_bind (wpAny_newTuple ?_ (by show vs.length ≤ _; rw [hvl, sizeLine_eq]; (first | lia | omega)))))
        refine wpAny_bind (wpAny_newList ?_ (Nat.zero_le _))
        refine wpAny_holding ?_
        have R4 := R3.push (seqObj "tuple" vs.toArray 0)
        have offK := R4.offNew (get_size _)
        have R5 := R4.push (seqObj "list" #[] 0)
        have hK0 : ((g2.push (seqObj "tuple" vs.toArray 0)).push (seqObj "list" #[] 0)).get? (g2.push (seqObj "tuple" vs.toArray 0)).objs.size = some (seqObj "list" #[] 0) := Heap.get?_push_size _ rfl
        have hD2 : ((g2.push (seqObj "tuple" vs.toArray 0)).push (seqObj "list" #[] 0)).get? D = some (seqObj "list" #[] ep) := push_keeps _ _ _ _ (push_keeps _ _ _ _ hD1)
        have hne : D ≠ (g2.push (seqObj "tuple" vs.toArray 0)).objs.size := Nat.ne_of_lt (Heap.lt_size (push_keeps _ (seqObj "tuple" vs.toArray 0) _ _ hD1))
        have hsys : (g2.push (seqObj "tuple" vs.toArray 0)).get? (g2.push (seqObj "tuple" vs.toArray 0)).objs.size = none := get_size _
        have G15 : Gr C.T h1 ζ ρ ((g2.push (seqObj "tuple" vs.toArray 0)).push (seqObj "list" #[] 0)) ζ ρ := Gr.heap fun b q => (Gr.push (B := 0) (ζ := ζ) (ρ := ρ) _ _).dm b ((Gr.push (B := 0) (ζ := ζ) (ρ := ρ) _ _).dm b (dm3 b (G2.dm b q)))
        have keep5 : ∀ b o, b ≠ D → g1.get? b = some o → ((g2.push (seqObj "tuple" vs.toArray 0)).push (seqObj "list" #[] 0)).get? b = some o := fun b o hb q => push_keeps _ _ _ _ (push_keeps _ _ _ _ ((sb.2 b hb).trans q))
        show wpAny _ _ _ _ _ { s with heap := (g2.push (seqObj "tuple" vs.toArray 0)).push (seqObj "list" #[] 0), toks := tk1 }
        have hKn1 : h1.get? (g2.push (seqObj "tuple" vs.toArray 0)).objs.size = none := by
          cases q : h1.get? (g2.push (seqObj "tuple" vs.toArray 0)).objs.size with
          | none => rfl
          | some o =>
            have h2 : g1.get? (g2.push (seqObj "tuple" vs.toArray 0)).objs.size = some o := by rw [← hgq]; exact push_keeps _ _ _ _ q
            have h3 := push_keeps _ (seqObj "tuple" vs.toArray 0) _ _ ((sb.2 _ (Ne.symm hne)).trans h2)
            rw [hsys] at h3; cases h3
        generalize hkq : (g2.push (seqObj "tuple" vs.toArray 0)).objs.size = kS at *
        generalize hg5 : (g2.push (seqObj "tuple" vs.toArray 0)).push (seqObj "list" #[] 0) = g5 at *
        have b5 : Beside C h₀ ζ ρ st g5 D kS ep #[] := ⟨R5, hD2, ⟨0, hK0⟩, offD, offK, hne⟩
        have hkslow : ks.all V.low = true := by
          rw [List.all_eq_true]
          intro w hw
          obtain ⟨i, hi⟩ := List.mem_iff_getElem?.mp hw
          have hi' : i < ps.length := by rw [hpl]; exact (List.getElem?_eq_some_iff.mp hi).1
          have := pairKeys_get hps i ps[i] (List.getElem?_eq_getElem hi')
          rw [hi] at this
          cases this; rfl
        unfold ksk_rest
        refine wpAny_bind (wpAny_rule ?_)
        first
          | rw [List.forIn_toArray]
          | (rw [← Array.forIn_toList]; simp only [List.toList_toArray])
        refine wpAny_bind (key_fold (E := E) hf hB (A' := C.A.in1.in1) ⟨by show C.A.depth + k < _; (first | lia | omega), by show C.A.units + 1 + 1 + 8 * k + 100 < _; (first | lia | omega), ok.room.handled⟩ ok (fun y s' R' hy => ?_) xs vs ζ ρ st _ #[] [] _ b5 hr (by simp [VRs]) (by simpa using h64) ks s1 e1 hkslow fun ζ6 ρ6 g6 tk6 keys G6 b6 rk => ?_)
        · exact wpAny_bind (wpAny_attempt (wpAny_mono hy (fun key s'' hkey => wpAny_bind (wpAny_mono hkey (fun _ s3 h3 => wpAny_pure h3) fun _ _ x => x)) fun _ _ x => x.elim))
        · simp only [List.nil_append] at rk
          obtain ⟨eK, hK6⟩ := b6.k
          dsimp only
          refine wpAny_bind (listItems_at hK6 rfl ?_)
          have hksz : keys.size = xs.length := by rw [← hkl, ← rk.length]; simp
          have G16 := G15.trans G6
          have hr6 : VRs C.W ζ6 ρ6 xs vs := VRs.mono G6.zl (Gr.le R5 G6).low _ _ hr
          have finish : ∀ (sst : SortSt) (p : Array Nat), (arrOf sst).map (·.2) = (p.toList.map fun i => vs.getD i Value.none).toArray → failedOf sst = none → (p.toList.map fun i => xs.getD i .none) = sortP (ps.zip xs) → PermOf xs.length p →
              wpAny (model C.W.prog C.W.w) C.A.in1.in1 (ksk_tail D false ep (.ref kS) sst) (fun fin s' => ∃ v, fin = .done (.ret v) ∧ wpAny (model C.W.prog C.W.w) C.A.in1 (ret (.ref D)) (fun fin s' => ∃ v, fin = .done (.ret v) ∧ P v s') E s') E { s with heap := g6, toks := tk6 } := by
            intro sst p ho hf' hsame hp
            have hpl' : (p.toList.map fun i => vs.getD i Value.none).length = xs.length := by rw [List.length_map, Array.length_toList, hp.size]
            refine sort_tail b6 (by rw [hksz]; exact h64) ho (by rw [hpl']; exact h64) hf' fun g n hkg hDg => ⟨_, rfl, wpAny_pure ⟨_, rfl, ?_⟩⟩
            have rout : VRs C.W ζ6 ρ6 (sortP (ps.zip xs)) (p.toList.map fun i => vs.getD i Value.none) := by
              rw [← hsame]
              refine VRs.of_get (by simp) fun i a y h1 h2 => ?_
              rw [List.getElem?_map] at h1 h2
              obtain ⟨j, e5, rfl⟩ := Option.map_eq_some_iff.mp h1
              rw [e5] at h2
              cases h2
              have hj : j < xs.length := List.mem_range.mp (hp.perm.mem_iff.mp (List.mem_of_getElem? e5))
              obtain ⟨y, e6, e7, e8⟩ := hr6.get j xs[j] (List.getElem?_eq_getElem hj)
              show (xs.getD j .none).low = true ∧ VR _ _ _ (xs.getD j .none) (vs.getD j Value.none)
              rw [getD_eq, getD_eq, List.getElem?_eq_getElem hj, e6]
              exact ⟨e7, e8⟩
            have R7 : Rel C h₀ ζ6 ρ6 s1 g := b6.rel.off (fun x => x = D ∨ x = kS) (fun x o hx q => hkg x o (fun q' => hx (.inl q')) (fun q' => hx (.inr q')) q) (fun x hx => hx.elim (fun q => q ▸ ⟨b6.offD.z, b6.offD.k, b6.offD.r⟩) fun q => q ▸ ⟨b6.offK.z, b6.offK.k, b6.offK.r⟩)
              (fun i pl q hx => hx.elim (b6.offD.p i pl q) (b6.offK.p i pl q))
            have dm7 : ∀ b, h1.get? b ≠ none → g.get? b ≠ none := fun b q => by
              have q6 := G16.dm b q
              have hbD : b ≠ D := fun q' => q (by rw [q']; exact hDn)
              have hbK : b ≠ kS := fun q' => q (by rw [q']; exact hKn1)
              cases q7 : g6.get? b with
              | none => exact absurd q7 q6
              | some o => rw [hkg b o hbD hbK q7]; exact nofun
            obtain ⟨ζ', ρ', G', R', V'⟩ := list_adopt (hs := h1) R7 hc e4 rout hDg ⟨n, rfl⟩ b6.offD sysD hDn dm7
            have G17 : Gr C.T h1 ζ ρ g ζ' ρ' := ⟨G16.zl.trans G'.zl, fun m a hm q => G'.rl m a hm (G16.rl m a hm q), fun a o q => (G'.zn a o q).elim (G16.zn a o) .inr, fun m a q => (G'.rn m a q).elim (G16.rn m a) .inr, dm7⟩
            exact kk ζ' ρ' g tk6 _ (G1.trans G17) R' V'
          unfold ksk_end
          dsimp only
          simp only [Bool.false_eq_true, if_false]
          by_cases h2 : vs.toArray.size < 2
          · rw [if_pos h2, if_pos h2]
            refine wpAny_bind (wpAny_pure ?_)
            rw [StateT.run_pure]
            refine wpAny_bind (wpAny_pure ?_)
            dsimp only
            have hx2 : xs.length < 2 := by rw [List.size_toArray] at h2; (first | lia | omega)
            have hP : PermOf xs.length (List.toArray (List.range xs.length)) := .of (List.Perm.refl _)
            refine finish _ (List.toArray (List.range xs.length)) ?_ rfl ?_ hP
            · show (keys.zip vs.toArray).map (·.2) = _
              apply Array.toList_inj.mp
              rw [Array.toList_map, ksk_zip, List.map_snd_zip (by simp; (first | lia | omega))]
              show vs = (List.range xs.length).map fun i => vs.getD i Value.none
              apply List.ext_getElem
              · simp [hvl]
              · intro i h1 h2
                rw [List.getElem_map, List.getElem_range, getD_eq, List.getElem?_eq_getElem h1]; rfl
            · rw [sort_same (by (first | lia | omega)) (p := List.toArray (List.range xs.length)) (by rw [hpl, hkl]; exact hP) (fun i j hij hj => by (first | lia | omega)) hnd]
          · rw [if_neg h2, if_neg h2]
            have hx2 : 2 ≤ xs.length := by rw [List.size_toArray] at h2; (first | lia | omega)
            have hn2 : ps.length = xs.length := hpl.trans hkl
            obtain ⟨q1, q2, q3⟩ := sort_run (ask_ord hnd) (by rw [hn2]; exact hx2)
            have kget : ∀ i, i < ps.length → ∃ y, keys.toList[i]? = some y ∧ VR C.W ζ6 ρ6 (.tup [.int (ps.getD i (0, 0)).1, .int (ps.getD i (0, 0)).2]) y := fun i hi => by
              have e6 := pairKeys_get hps i (ps.getD i (0, 0)) (by rw [getD_eq, List.getElem?_eq_getElem hi]; rfl)
              obtain ⟨y, e7, _, e8⟩ := rk.get i _ e6
              exact ⟨y, e7, e8⟩
            have tups : ∀ (l : List (Int × Int)) (ys : List Value), l.length = ys.length → (∀ i, i < l.length → ∃ y, ys[i]? = some y ∧ VR C.W ζ6 ρ6 (.tup [.int (l.getD i (0, 0)).1, .int (l.getD i (0, 0)).2]) y) → ∃ fs : List Value, KatTups g6 ys fs ∧ fs.length = l.length ∧ ∀ f ∈ fs, ∃ n t, f = .int n t := by
              intro l
              induction l with
              | nil =>
                intro ys hl _
                cases ys with
                | nil => exact ⟨[], KatTups.nil, rfl, nofun⟩
                | cons _ _ => simp at hl
              | cons a l ih =>
                intro ys hl h
                cases ys with
                | nil => simp at hl
                | cons y ys =>
                  obtain ⟨y', e6, e7⟩ := h 0 (by simp)
                  simp only [List.getElem?_cons_zero, Option.some.injEq] at e6
                  subst e6
                  obtain ⟨ad, o, n, t, u, rfl, f1, f2, f3⟩ := key_tuple b6.rel e7
                  obtain ⟨fs, i1, i2, i3⟩ := ih ys (by simpa using hl) fun i hi => by
                    have := h (i + 1) (by simpa using hi)
                    simpa using this
                  exact ⟨_ :: fs, KatTups.cons f1 f2 f3 rfl i1, by simp [i2], fun f hf => (List.mem_cons.mp hf).elim (fun e => ⟨_, _, e⟩) (i3 f)⟩
            obtain ⟨fs, t1, t2, t3⟩ := tups ps keys.toList (hn2.trans (hksz.symm.trans (Array.length_toList).symm)) kget
            have hkeys : keys = keys.toList.toArray := by simp
            refine wpAny_bind ?_
            rw [hkeys]
            refine kat_kind (T := .type "int") (vs := keys.toList) t1 (by rw [t2, hn2]; (first | lia | omega)) (fun f hf => ?_) (by decide) ?_
            · obtain ⟨n, t, rfl⟩ := t3 f hf
              exact .now
            · have run := kat_run (prog := C.W.prog) (w := C.W.w) (A := C.A.in1.in1) (E := E) (s := { s with heap := g6, toks := tk6 }) (vs := vs) (ks := keys.toList) (κ := tuples' (Value.type "int" != Value.type "tuple"))
                (Q := fun sst s' => s' = { s with heap := g6, toks := tk6 } ∧ ∃ p : Array Nat, p = runK (fun i j => lexLt (ps.getD i (0, 0)) (ps.getD j (0, 0))) (kas_sort ps.length) ∧ arrOf sst = p.map (kas_item (keys.toList.toArray.zip vs.toArray)) ∧ failedOf sst = none)
                (G := fun p s' => s' = { s with heap := g6, toks := tk6 } ∧ p = runK (fun i j => lexLt (ps.getD i (0, 0)) (ps.getD j (0, 0))) (kas_sort ps.length))
                (by rw [Array.length_toList, hksz, hvl]) (by rw [hvl]; exact hx2) (by rw [hvl]; exact h64) (fun p sst s' a1 a2 a3 a4 => ⟨a4.1, p, a4.2, a2, a3⟩) (by
                  rw [hvl, ← hn2]
                  refine kasWp_run (I := fun s' => s' = { s with heap := g6, toks := tk6 }) (fun i j K s' hi hj hI hK => ?_) q1 rfl fun s' hI => ⟨hI, rfl⟩
                  subst hI
                  obtain ⟨y1, a1, a2⟩ := kget i hi
                  obtain ⟨y2, a3, a4⟩ := kget j hj
                  unfold kas_ask
                  rw [getD_eq, getD_eq, a1, a3]
                  exact key_lt b6.rel a2 a4 (hK _ rfl))
              refine wpAny_bind (wpAny_mono run ?_ fun _ _ x => x)
              rintro ⟨⟨⟩, sst⟩ s' ⟨rfl, p, hp, ha, hf'⟩
              have hP : PermOf xs.length p := by rw [hp, ← hn2]; exact q2
              refine finish sst p ?_ hf' ?_ hP
              · rw [kat_snds (by rw [Array.length_toList, hksz, hvl]) ha]
              · rw [sort_same hn2 (p := p) (by rw [hp]; exact q2) (by rw [hp]; exact q3) hnd]
    · cases e
  · cases e
end Lay
end

section
open PySem PySem.W PyProof.Rows
open Sem (wp)
set_option Elab.async false
set_option linter.unusedVariables false
set_option maxRecDepth 100000
namespace Lay
theorem keys_none {prog : Program} {w : World} {A : Around} {E : Value → Shared → Prop} {s : Shared} {a : Addr} {xs : Array Value} {k : Nat} {Q : Option Value → Shared → Prop} (hx : s.heap.get? a = some ⟨.type "list", none, .seq xs k, #[]⟩) (hA : A.handled = none)
    (h : ∀ h' tk, (∀ b o, s.heap.get? b = some o → h'.get? b = some o) → Q none { s with heap := h', toks := tk }) : wpAny (model prog w) A (getAttr? (.ref a) "keys") Q E s := by
  have hmiss : typeLookup (.type "list") "keys" = pure none := am_miss_of_fast (by decide +kernel)
  obtain ⟨hp, g, d, tk, os⟩ := s
  have hT : ∀ tk', (⟨hp, g, d, tk', os⟩ : Shared).TypeIs (.ref a) "list" := fun _ => ⟨_, hx, rfl⟩
  have f1 := sub_AttributeError
  have f3 := PySem.F.slot_list_getattribute.lookup
  have f4 := PySem.F.slot_list_getattribute.bind (.ref a)
  have f5 := am_list_getattr_none
  unfold getAttr? getAttrBy? getAttrBy
  repeat (any_goals (first | assumption | exact hT _ | ((with_reducible show wpAny _ _ (call (Value.builtin "list.__getattribute__") _ _) _ _ _); refine call_meets PySem.F.slot_list_getattribute (hT _) am_entry_list_getattribute (PySem.F.args_list_getattribute_2 _ _) (meets_getattribute_miss_list a xs k #[] "keys" _ hmiss (by decide +kernel) (by decide +kernel)) ⟨hx, hA, fun h' tk' e hx' => ?_⟩) | wp_step))
  obtain ⟨t', u', he⟩ := hx'.there
  show wpAny _ _ (getattributeRaised _ _ _ _ _ _ _) _ _ _
  unfold getattributeRaised
  repeat (any_goals (first | assumption | wp_step))
  exact h _ _ hx'.keeps
variable {C : Cx}
theorem entry_duloop : entryFor table "dict.update.loop" = some Builtin.«dict.update.loop» := entryFor_of_tree (by kernel_rfl)
theorem plain_duloop : plainId "dict.update.loop" = true := by decide +kernel
noncomputable def PairAt (h : Heap) (y k v : Value) : Prop := ∃ a o n, y = .ref a ∧ h.get? a = some o ∧ o.cls = .type "tuple" ∧ o.data = .seq #[k, v] n
theorem pair_items {M : Model} {A : Around} {E : Value → Shared → Prop} {s : Shared} {y k v : Value} {Q : List Value → Shared → Prop} (hp : PairAt s.heap y k v) (h : Q [k, v] s) : wpAny M A (Builtin.Dict.pairItems y) Q E s := by
  obtain ⟨a, o, n, rfl, ho, hc, hd⟩ := hp
  unfold Builtin.Dict.pairItems
  refine wpAny_bind (wpAny_typeOf (T := "tuple") ⟨o, ho, hc⟩ ?_)
  rw [if_pos (by decide)]
  refine wpAny_bind ?_
  unfold seqItems?
  refine wpAny_bind (wpAny_load ho ?_)
  rw [hd]
  exact wpAny_pure (wpAny_pure h)
theorem update_loop {prog : Program} {w : World} {A : Around} {R : Result → Shared → Prop} {d I l : Addr} {ys : Array Value} (hA : A.handled = none) (hIl : I ≠ l) (hId : I ≠ d) (hld : l ≠ d) (St : Nat → Heap → Prop)
    (frame : ∀ i h h', St i h → (∀ b o, b ≠ I → h.get? b = some o → h'.get? b = some o) → St i h')
    (step : ∀ (i : Nat) (y : Value) (s : Shared) (Q : Unit → Shared → Prop) (E : Value → Shared → Prop), ys[i]? = some y → St i s.heap → ∃ k v, PairAt s.heap y k v ∧
      ((∀ h' tk, St (i + 1) h' → Heap.SameBut d s.heap h' → Q () { s with heap := h', toks := tk }) → wpAny (model prog w) A.in1 (dictSet d k v) Q E s)) :
    ∀ (n i : Nat) (s : Shared), ys.size - i = n → i ≤ ys.size → s.heap.IsListIter I l i → s.heap.IsList l ys → St i s.heap →
      (∀ h' tk, St ys.size h' → (∀ b o, b ≠ I → b ≠ d → s.heap.get? b = some o → h'.get? b = some o) → R (.ok (.ret .none)) { s with heap := h', toks := tk }) →
      codeAny (model prog w) A (.builtin "dict.update.loop" ⟨[.ref d, .ref I, rawInt i, .none], []⟩) R s := by
  intro n
  induction n with
  | zero =>
    intro i s hn hi hit hl hst hR
    have e : i = ys.size := by (first | lia | omega)
    subst e
    refine codeAny_builtin entry_duloop ?_
    rw [Around.under_plainId plain_duloop _]
    show wpAny _ A.in1 (pyNext (.ref I) >>= _) _ _ s
    refine wpAny_bind (wpAny_pyNext_list_end hA hit hl (by simp) fun h' he => ?_)
    show wpAny _ _ (Builtin.Dict.addKeywords d [] >>= _) _ _ _
    refine wpAny_bind (wpAny_pure (wpAny_pure ?_))
    exact hR h' s.toks (frame _ _ _ hst fun b o hb e => he b o hb e) fun b o hb _ e => he b o hb e
  | succ n ih =>
    intro i s hn hi hit hl hst hR
    have hlt : i < ys.size := by (first | lia | omega)
    refine codeAny_builtin entry_duloop ?_
    rw [Around.under_plainId plain_duloop _]
    show wpAny _ A.in1 (pyNext (.ref I) >>= _) _ _ s
    refine wpAny_bind (wpAny_pyNext_list_item hit hl (Array.getElem?_eq_getElem hlt) fun h1 hit1 hs1 => ?_)
    have hst1 := frame _ _ _ hst fun b o hb e => (hs1.2 b hb).trans e
    have hl1 : h1.IsList l ys := hl.at fun o e => (hs1.2 l (Ne.symm hIl)).trans e
    obtain ⟨k, v, hp, hset⟩ := step i ys[i] { s with heap := h1 } (fun _ s' => wpAny (model prog w) A.in1 (again (.builtin "dict.update.loop" ⟨[.ref d, .ref I, rawInt ((i : Int) + 1), .none], []⟩)) (fun fin s' => match fin with | .done f => R (.ok f) s' | .again c' => c'.quiet = true ∧ codeAny (model prog w) A c' R s') (fun e s' => R (.error e) s') s') (fun e s' => R (.error e) s') (Array.getElem?_eq_getElem hlt) hst1
    dsimp only
    refine wpAny_bind (wpAny_holding (wpAny_bind (wpAny_tryCatch (pair_items hp ?_))))
    dsimp only
    refine wpAny_holding (hset fun h2 tk2 hst2 hs2 => ?_)
    refine wpAny_pure ⟨plainId_quiet plain_duloop _, ?_⟩
    have hit2 : h2.IsListIter I l (i + 1) := hit1.at fun o e => (hs2.2 I hId).trans e
    have hl2 : h2.IsList l ys := hl1.at fun o e => (hs2.2 l hld).trans e
    exact ih (i + 1) _ (by (first | lia | omega)) hlt hit2 hl2 hst2 fun h' tk hst' hk => hR h' tk hst' fun b o hb hb' e => hk b o hb hb' ((hs2.2 b hb').trans ((hs1.2 b hb).trans e))
end Lay
end

section
open PySem PySem.W PyProof.Rows
set_option Elab.async false
set_option linter.unusedVariables false
set_option maxRecDepth 100000
namespace Lay
variable {C : Cx}
noncomputable def tupPair : V → Option (List Int × V)
  | .tup [.tup ks, u] => (match intsOf ks, u.low with
    | some l, true => some (l, u)
    | _, _ => none)
  | _ => none
theorem tupPair_inv {v : V} {p : List Int × V} (h : tupPair v = some p) : ∃ ks, v = .tup [.tup ks, p.2] ∧ intsOf ks = some p.1 := by
  unfold tupPair at h
  split at h
  · split at h
    · cases h; exact ⟨_, rfl, by assumption⟩
    · cases h
  · cases h
noncomputable def pairsBy {K : Type} (f : V → Option (K × V)) : List V → Option (List (K × V))
  | [] => some []
  | v :: r => match f v, pairsBy f r with
    | some p, some ps => some (p :: ps)
    | _, _ => none
theorem pairsBy_get {K : Type} {f : V → Option (K × V)} : ∀ {vs : List V} {ps : List (K × V)}, pairsBy f vs = some ps → ps.length = vs.length ∧ ∀ (i : Nat) v, vs[i]? = some v → ∃ p, ps[i]? = some p ∧ f v = some p
  | [], _, e => by cases e; exact ⟨rfl, fun i v h => by simp at h⟩
  | v :: r, _, e => by
    unfold pairsBy at e
    split at e
    · rename_i p ps q1 q2
      cases e
      obtain ⟨h1, h2⟩ := pairsBy_get q2
      refine ⟨by simp [h1], fun i u hu => ?_⟩
      cases i with
      | zero => simp at hu; subst hu; exact ⟨p, rfl, q1⟩
      | succ i => simp at hu; obtain ⟨p', e1, e2⟩ := h2 i u hu; exact ⟨p', by simpa using e1, e2⟩
    · cases e
noncomputable def foldSet {K : Type} [DecidableEq K] (ps : List (K × V)) : List (K × V) := ps.foldl (fun d kv => kvSet d kv.1 kv.2) []
theorem foldSet_take {K : Type} [DecidableEq K] (ps : List (K × V)) {i : Nat} {p : K × V} (h : ps[i]? = some p) : foldSet (ps.take (i + 1)) = kvSet (foldSet (ps.take i)) p.1 p.2 := by
  unfold foldSet
  rw [List.take_add_one, h, List.foldl_append]; rfl
noncomputable def bDictT (n : Nat) (vs : List V) : M V := fun s => match vs with
  | [v] => (match lView v s with
    | some xs => (match pairsBy tupPair xs with
      | some ps => if ps.length ≤ lim then M.new n (.tdict (foldSet ps)) s else none
      | none => none)
    | none => none)
  | _ => none
theorem tup_frozen {W : Wd} {ζ : HM} {ρ : RM} {vs : List V} {x : Value} (r : VR W ζ ρ (.tup vs) x) : ∃ a o ys n, x = .ref a ∧ ζ a = some o ∧ o.cls = .type "tuple" ∧ o.data = .seq ys n ∧ VRs W ζ ρ vs ys.toList := by
  simp only [VR] at r
  obtain ⟨a, o, ys, rfl, h1, ⟨hc, n, hd⟩, h2⟩ := r
  exact ⟨a, o, ys, n, rfl, h1, hc, hd, h2⟩
theorem pair_frozen {W : Wd} {ζ : HM} {ρ : RM} {u v : V} {x : Value} (r : VR W ζ ρ (.tup [u, v]) x) : ∃ k y, v.low = true ∧ VR W ζ ρ u k ∧ VR W ζ ρ v y ∧ ∀ h : Heap, Le ζ h.get? → PairAt h x k y := by
  obtain ⟨a, o, ys, n, rfl, h1, hc, hd, h2⟩ := tup_frozen r
  simp only [VRs] at h2
  obtain ⟨y1, r1, e1, _, q1, y2, r2, e2, hl, q2, e3⟩ := h2
  subst e3 e2
  have : ys = #[y1, y2] := Array.toList_inj.mp (by rw [e1])
  subst this
  exact ⟨y1, y2, hl, q1, q2, fun h hz => ⟨a, o, n, rfl, hz _ _ h1, hc, hd⟩⟩
theorem dict_of_list {A : Around} {E : Value → Shared → Prop} {s : Shared} {W : Wd} {l : Addr} {ys : Array Value} {m : Nat} {Q : Value → Shared → Prop} (hA : A.handled = none) (hl : s.heap.get? l = some ⟨.type "list", none, .seq ys m, #[]⟩) (St : Nat → Heap → Prop)
    (frame : ∀ I i h h', s.heap.get? I = none → I ≠ s.heap.objs.size → St i h → (∀ b o, b ≠ I → h.get? b = some o → h'.get? b = some o) → St i h') (first : ∀ h, (∀ b o, s.heap.get? b = some o → h.get? b = some o) → h.get? s.heap.objs.size = some (dctO #[] 0) → St 0 h)
    (step : ∀ (i : Nat) (y : Value) (s' : Shared) (Q : Unit → Shared → Prop) (E : Value → Shared → Prop), ys[i]? = some y → St i s'.heap → ∃ k v, PairAt s'.heap y k v ∧
      ((∀ h' tk, St (i + 1) h' → Heap.SameBut s.heap.objs.size s'.heap h' → Q () { s' with heap := h', toks := tk }) → wpAny (model W.prog W.w) A.in1.in1 (dictSet s.heap.objs.size k v) Q E s'))
    (h : ∀ h' tk, St ys.size h' → (∀ b o, s.heap.get? b = some o → h'.get? b = some o) → Q (.ref s.heap.objs.size) { s with heap := h', toks := tk }) : wpAny (model W.prog W.w) A (call (.type "dict") [.ref l]) Q E s := by
  refine callType_codes (Q₁ := fun obj s₁ => obj = .ref s.heap.objs.size ∧ s₁ = { s with heap := s.heap.push { cls := .type "dict", data := .dict #[] } }) PySem.F.kt_called_dict (PySem.F.kt_typeCall_dict_1 _) PySem.F.entry_dict_init (kt_code_dict_new _ ⟨rfl, rfl⟩) ?_
  rintro obj s₁ ⟨rfl, rfl⟩
  have hD : (s.heap.push { cls := .type "dict", data := .dict #[] }).get? s.heap.objs.size = some (dctO #[] 0) := Heap.get?_push_size _ rfl
  have hT : ({ s with heap := s.heap.push { cls := .type "dict", data := .dict #[] } } : Shared).TypeIs (.ref s.heap.objs.size) "dict" := ⟨_, hD, rfl⟩
  have hl1 := push_keeps s.heap { cls := .type "dict", data := .dict #[] } _ _ hl
  have hlt : l < s.heap.objs.size := Heap.lt_size hl
  refine ⟨hT, PySem.F.args_dict_init_2 _ _, ?_⟩
  unfold Builtin.«dict.__init__»
  refine wpAny_bind ?_
  unfold Builtin.Dict.selfAndRest
  refine wpAny_bind (wpAny_notOrdered_dict hT ?_)
  show wpAny _ _ (pure (s.heap.objs.size, [Value.ref l])) _ _ _
  refine wpAny_pure ?_
  show wpAny _ _ (Builtin.Dict.updateFrom "dict.__init__" s.heap.objs.size (.ref l) [] .none) _ _ _
  unfold Builtin.Dict.updateFrom
  refine wpAny_bind (wpAny_typeOf (T := "list") ⟨_, hl1, rfl⟩ ?_)
  rw [if_pos (by decide)]
  refine wpAny_bind (keys_none hl1 hA fun h2 tk2 hk2 => ?_)
  rw [if_pos (by rfl)]
  refine wpAny_bind (wpAny_rule (wpAny_bind ?_))
  have hl2 := hk2 _ _ hl1
  have hD2 := hk2 _ _ hD
  refine wpAny_pyIter_list (l := l) (items := ys) ⟨_, hl2, rfl, _, rfl⟩ ?_
  have hI : (h2.push { cls := .type "list_iterator", data := .fields #[.ref l, .int 0 0] }).get? h2.objs.size = some { cls := .type "list_iterator", data := .fields #[.ref l, .int 0 0] } := Heap.get?_push_size _ rfl
  have hk3 : ∀ b o, s.heap.get? b = some o → (h2.push { cls := .type "list_iterator", data := .fields #[.ref l, .int 0 0] }).get? b = some o := fun b o e => push_keeps _ _ _ _ (hk2 _ _ (push_keeps _ _ _ _ e))
  have hDI : s.heap.objs.size ≠ h2.objs.size := Nat.ne_of_lt (Heap.lt_size hD2)
  have hlI : l ≠ h2.objs.size := Nat.ne_of_lt (Heap.lt_size hl2)
  have hIn : s.heap.get? h2.objs.size = none := by
    cases q : s.heap.get? h2.objs.size with
    | none => rfl
    | some o => have := Heap.lt_size (hk2 _ _ (push_keeps _ { cls := .type "dict", data := .dict #[] } _ _ q)); exact absurd this (Nat.lt_irrefl _)
  refine wpAny_pure ⟨plainId_quiet plain_duloop _, ?_⟩
  refine update_loop (d := s.heap.objs.size) (I := h2.objs.size) (l := l) (ys := ys) (A := A.in1) hA (Ne.symm hlI) (Ne.symm hDI) (Nat.ne_of_lt hlt) St (fun i h h' st hk => frame _ i h h' hIn (Ne.symm hDI) st hk) step ys.size 0 _ rfl (Nat.zero_le _) ⟨_, hI, rfl, rfl⟩ ⟨_, push_keeps _ _ _ _ hl2, rfl, _, rfl⟩ (first _ hk3 (push_keeps _ _ _ _ hD2)) fun h' tk hst hk => ?_
  refine ⟨rfl, h h' tk hst fun b o e => hk b o (fun q => by rw [q, hIn] at e; cases e) (fun q => by rw [q, get_size] at e; cases e) (hk3 b o e)⟩
theorem adopt_new {h₀ ζ : HM} {ρ : RM} {st : St} {h h' : Heap} (rel : Rel C h₀ ζ ρ st h) (keep : ∀ b o, h.get? b = some o → h'.get? b = some o) {n : Nat} (hn : st.hp n = none) (hT : n < C.T) (hB : n < 100 ∨ C.B ≤ n) {O : O} {o : Obj} (ho : h'.get? h.objs.size = some o)
    (hO : OR C.W ζ (upd ρ n (some h.objs.size)) O o) : Rel C h₀ ζ (upd ρ n (some h.objs.size)) { st with hp := upd st.hp n (some O) } h' ∧ Gr C.T h ζ ρ h' ζ (upd ρ n (some h.objs.size)) := by
  have off := rel.offNew (get_size h)
  obtain ⟨R1, G1⟩ := rel.keepAll keep
  have le : Le ρ (upd ρ n (some h.objs.size)) := upd_le (rel.dom n hn)
  refine ⟨R1.adoptS ho ⟨off.z, off.k, off.r, off.p⟩ (rel.not_sys (Nat.le_refl _)) n hn hT hB O hO, ⟨Le.refl _, fun m a _ e => le m a e, fun _ _ e => .inl e, fun m a e => ?_, G1.dm⟩⟩
  by_cases q : m = n
  · subst q; rw [upd_same] at e; cases e; exact .inr (get_size h)
  · rw [upd_ne _ _ q] at e; exact .inl e
theorem foldSet_length {K : Type} [DecidableEq K] (ps : List (K × V)) (i : Nat) : (foldSet (ps.take i)).length ≤ i := by
  have key : ∀ (l : List (K × V)) (acc : List (K × V)), (l.foldl (fun d kv => kvSet d kv.1 kv.2) acc).length ≤ acc.length + l.length := by
    intro l
    induction l with
    | nil => intro acc; simp
    | cons a l ih =>
      intro acc
      have := ih (kvSet acc a.1 a.2)
      have h2 := kvSet_length acc a.1 a.2
      simp only [List.foldl_cons, List.length_cons]; (first | lia | omega)
  have := key (ps.take i) []
  simp only [List.length_nil, Nat.zero_add, List.length_take] at this
  unfold foldSet; (first | lia | omega)
noncomputable def StT (W : Wd) (ζ : HM) (ρ : RM) (D : Addr) (ps : List (List Int × V)) (i : Nat) (h : Heap) : Prop :=
  ∃ es ep kys, h.get? D = some (dctO es ep) ∧ es.toList = kys.map (entryOfKey (tupleKind (intKind W.prog W.w))) ∧ (kys.map (·.1)).Nodup ∧ TKeys W ζ ρ (foldSet (ps.take i)) kys ∧ Le ζ h.get?
theorem bDictT_C {n : Nat} (hT : n < C.T) (hB : n < 100 ∨ C.B ≤ n) : SimC C (.type "dict") (bDictT n) := by
  intro h₀ ζ ρ st s P E vs xs ok rel ra v st' e k
  have hu := ok.room.units
  unfold bDictT at e
  split at e
  · rename_i u
    obtain ⟨x, _, rfl, r, q⟩ := ra
    simp only [VRa] at q
    subst q
    split at e
    · rename_i l hl
      split at e
      · rename_i ps hps
        split at e
        · rename_i hlen
          obtain ⟨hn, e3⟩ := M.new_some e
          cases e3
          obtain ⟨hp1, hp2⟩ := pairsBy_get hps
          obtain ⟨a, ys, m, rfl, ho, hr⟩ := lView_obj rel hl r
          have hz : ys.size = ps.length := by rw [hp1, ← hr.length]; simp
          have isAt : ∀ {h : Heap} {kvs : List (List Int × V)} {kys : List (List Int × Addr × Value)}, Le ζ h.get? → TKeys C.W ζ ρ kvs kys → ∀ x ∈ kys, IsTupleKey (intKind C.W.prog C.W.w) h x.1 x.2.1 := by
            intro h kvs
            induction kvs with
            | nil => intro kys _ e x hx; simp only [TKeys] at e; subst e; cases hx
            | cons kv kvs ih =>
              intro kys hz e x hx
              obtain ⟨kk, vv⟩ := kv
              obtain ⟨a, y, r, ks, o, e1, h0, ⟨hc, n, hd⟩, h1, hl, h2, h3⟩ := e
              subst e1
              rcases List.mem_cons.mp hx with rfl | hx
              · exact ⟨o, ks, n, hz _ _ h0, hc, hd, h1⟩
              · exact ih hz h3 x hx
          refine dict_of_list (W := C.W) ok.room.handled ho (StT C.W ζ ρ s.heap.objs.size ps)
            (fun I i h h' hI hne ⟨es, ep, kys, a1, a2, a2', a3, a4⟩ hk => ⟨es, ep, kys, hk _ _ (Ne.symm hne) a1, a2, a2', a3, fun b o q => hk b o (fun q' => by rw [q'] at q; rw [rel.frozen _ _ q] at hI; cases hI) (a4 b o q)⟩)
            (fun h hk hd => ⟨#[], 0, [], hd, rfl, List.nodup_nil, by simp [foldSet, TKeys], fun b o q => hk b o (rel.frozen b o q)⟩)
            (fun i y s' Q' E' hy ⟨es, ep, kys, a1, a2, a2', a3, a4⟩ => ?_) (fun h' tk ⟨es, ep, kys, a1, a2, a2', a3, a4⟩ hk => ?_)
          · have hi : i < ps.length := by rw [← hz]; exact (Array.getElem?_eq_some_iff.mp hy).1
            have hli : i < l.length := by rw [← hp1]; exact hi
            obtain ⟨y', hy', _, ry⟩ := hr.get i l[i] (List.getElem?_eq_getElem hli)
            rw [Array.getElem?_toList, hy] at hy'
            cases hy'
            obtain ⟨p, hp3, hp4⟩ := hp2 i l[i] (List.getElem?_eq_getElem hli)
            generalize l[i] = w at *
            obtain ⟨kk, w2⟩ := p
            obtain ⟨ks, rfl, hkk⟩ := tupPair_inv hp4
            obtain ⟨ky, vy, hl2, r1, r2, hpair⟩ := pair_frozen ry
            obtain ⟨ka, ko, kys2, kn, rfl, k1, k2, k3, k4⟩ := tup_frozen r1
            have hkey : IsTupleKey (intKind C.W.prog C.W.w) s'.heap kk ka := ⟨ko, kys2, kn, a4 _ _ k1, k2, k3, ints_are hkk k4⟩
            have hdict : s'.heap.DictOfH (tupleKind (intKind C.W.prog C.W.w)) s.heap.objs.size kys := ⟨_, es, ep, a1, ⟨rfl, rfl, rfl⟩, rfl, a2, isAt a4 a3, a2'⟩
            refine ⟨_, _, hpair _ a4, fun hq => ?_⟩
            refine wpAny_dictSet_heap (knd := tupleKind (intKind C.W.prog C.W.w)) (by show C.A.units + 1 + 1 < cLine; (first | lia | omega)) hkey hdict (fun h' hd' hs' => ?_) ?_
            · obtain ⟨o', es', ep', ho', ⟨x1, x2, x3⟩, hdat, hes, _, hnd⟩ := hd'
              have ho2 : h'.get? s.heap.objs.size = some (dctO es' ep') := by
                obtain ⟨c, d, dt, sl⟩ := o'
                simp only at x1 x2 x3 hdat
                subst x1 x2 x3 hdat
                exact ho'
              refine hq h' _ ⟨es', ep', _, ho2, hes, hnd, by rw [foldSet_take ps hp3]; exact a3.stored kk k1 ⟨k2, kn, k3⟩ (ints_are hkk k4) hl2 r2, fun b o q => (hs'.2 b (fun q' => by rw [q'] at q; have := rel.frozen _ _ q; rw [get_size] at this; cases this)).trans (a4 b o q)⟩ hs'
            · have := a3.length
              have h2 := foldSet_length ps i
              have h3 := lim_le (n := kys.length + 1) (by (first | lia | omega))
              (first | lia | omega)
          · have hle : Le ρ (upd ρ n (some s.heap.objs.size)) := upd_le (rel.dom n hn)
            have hall : ps.take ys.size = ps := List.take_of_length_le (by (first | lia | omega))
            rw [hall] at a3
            have hOR : OR C.W ζ (upd ρ n (some s.heap.objs.size)) (.tdict (foldSet ps)) (dctO es ep) := ⟨es, ep, kys, rfl, a2, a2', a3.mono (Le.refl _) hle.low⟩
            obtain ⟨R', G'⟩ := adopt_new rel hk hn hT hB a1 hOR
            exact k _ _ _ _ _ G' R' (by simp only [VR]; exact ⟨_, upd_same _ _ _, rfl⟩)
        · cases e
      · cases e
    · cases e
  · cases e
end Lay
end

section
open PySem PySem.W PyProof.Rows
set_option Elab.async false
set_option linter.unusedVariables false
set_option maxRecDepth 100000
namespace Lay
variable {C : Cx}
noncomputable def isLst (v : V) (s : St) : Bool := (lView v s).isSome
theorem MethAt.list {name : Str} {id : String} (slot : Slot "list" name id) (hty : typeOf (.builtin id) = pure (.type "method_descriptor")) : MethAt C name (.builtin id) (fun v s => isLst v s = true) := by
  intro h₀ ζ ρ st s pl P E v x ok rel r hv k
  obtain ⟨xs, hxs⟩ := Option.isSome_iff_exists.mp hv
  obtain ⟨a, ys, n, rfl, ho, _⟩ := lView_obj rel hxs r
  exact getMethod_builtin ⟨_, ho, rfl⟩ PySem.F.plainAttrs_list slot hty (fun b e => by cases e; exact ⟨_, ho, rfl⟩) k
noncomputable def mApp (vs : List V) : M V := fun s => match vs with
  | [.ref n, u] => (match s.hp n with
    | some (.list xs) => if u.low = true ∧ xs.length < lim then some (.none, { s with hp := upd s.hp n (some (.list (xs ++ [u]))) }) else none
    | _ => none)
  | _ => none
theorem mApp_C : SimC C (.builtin "list.append") mApp := by
  intro h₀ ζ ρ st s P E vs xs ok rel ra v st' e k
  unfold mApp at e
  split at e
  · rename_i n u
    obtain ⟨x, _, rfl, r, y, _, rfl, r2, q⟩ := ra
    simp only [VRa] at q
    subst q
    split at e
    · rename_i l hl
      split at e
      · rename_i hg
        cases e
        simp only [VR] at r
        obtain ⟨a, hn, rfl⟩ := r
        obtain ⟨a', o, h1, h2, ys, ⟨m, rfl⟩, h4⟩ := rel.slot n _ hl
        obtain rfl : a' = a := Option.some.inj (h1.symm.trans hn)
        have hz : ys.size = l.length := by rw [← h4.length]; simp
        refine wpAny_list_append_plain ⟨m, h2⟩ (fun h' ⟨m', ho'⟩ hs => ?_) (by rw [hz]; exact lim_le (Nat.le_of_lt hg.2))
        obtain ⟨R', G'⟩ := rel.set hn hs ho' (O := .list (l ++ [u])) ⟨_, ⟨m', rfl⟩, by simpa using h4.snoc hg.1 r2⟩
        exact k _ _ _ _ _ G' R' (by simp only [VR])
      · cases e
    · cases e
  · cases e
noncomputable def mPop (vs : List V) : M V := fun s => match vs with
  | [.ref n] => (match s.hp n with
    | some (.list xs) => (match xs.getLast? with
      | some u => if xs.length ≤ lim then some (u, { s with hp := upd s.hp n (some (.list xs.dropLast)) }) else none
      | none => none)
    | _ => none)
  | _ => none
theorem VRs.dropLast {W : Wd} {ζ : HM} {ρ : RM} {v : List V} {x : List Value} (h : VRs W ζ ρ v x) : VRs W ζ ρ v.dropLast x.dropLast := by
  rw [List.dropLast_eq_take, List.dropLast_eq_take, h.length]; exact h.take _
theorem mPop_C : SimC C (.builtin "list.pop") mPop := by
  intro h₀ ζ ρ st s P E vs xs ok rel ra v st' e k
  unfold mPop at e
  split at e
  · rename_i n
    obtain ⟨x, _, rfl, r, q⟩ := ra
    simp only [VRa] at q
    subst q
    split at e
    · rename_i l hl
      split at e
      · rename_i u hu
        split at e
        · rename_i hlen
          cases e
          simp only [VR] at r
          obtain ⟨a, hn, rfl⟩ := r
          obtain ⟨a', o, h1, h2, ys, ⟨m, rfl⟩, h4⟩ := rel.slot n _ hl
          obtain rfl : a' = a := Option.some.inj (h1.symm.trans hn)
          have hz : ys.size = l.length := by rw [← h4.length]; simp
          have hpos : 0 < l.length := by cases l with | nil => cases hu | cons _ _ => simp
          rw [List.getLast?_eq_getElem?] at hu
          obtain ⟨y, hy, _, ry⟩ := h4.get (l.length - 1) v hu
          rw [Array.getElem?_toList, ← hz] at hy
          have s1 := Heap.SameBut.update s.heap a' (Obj.mapSeq fun xs => xs.eraseIdxIfInBounds (ys.size - 1))
          have ho := get?_update_seq h2 fun xs => xs.eraseIdxIfInBounds (ys.size - 1)
          have he : (ys.eraseIdxIfInBounds (ys.size - 1)).toList = ys.toList.dropLast := by
            have hlt : ys.size - 1 < ys.size := by (first | lia | omega)
            rw [Array.eraseIdxIfInBounds, dif_pos hlt, Array.toList_eraseIdx, List.dropLast_eq_take, Array.length_toList]
            rw [List.eraseIdx_eq_take_drop_succ]
            have : ys.size - 1 + 1 = ys.size := by (first | lia | omega)
            rw [this, List.drop_of_length_le (by simp), List.append_nil]
          obtain ⟨R', G'⟩ := rel.set hn s1 ho (O := .list l.dropLast) ⟨_, ⟨_, rfl⟩, by rw [he]; exact h4.dropLast⟩
          refine call_meets PySem.F.slot_list_pop ⟨_, h2, rfl⟩ PySem.F.entry_list_pop (PySem.F.args_list_pop_1 _) (PySem.MeetsSeq.list_pop_last a' ys m y hy (by rw [hz]; exact lim_le hlen)) ⟨h2, ?_⟩
          exact k ζ ρ _ s.toks y G' R' (VR.gr rel G' ry)
        · cases e
      · cases e
    · cases e
  · cases e
noncomputable def idxOf (i : Int) : List Int → Option Nat
  | [] => none
  | j :: r => if j = i then some 0 else (idxOf i r).map (· + 1)
theorem idxOf_spec {i : Int} : ∀ {l : List Int} {j : Nat}, idxOf i l = some j → l[j]? = some i ∧ ∀ (m : Nat) x, m < j → l[m]? = some x → x ≠ i
  | [], _, h => by cases h
  | a :: r, j, h => by
    unfold idxOf at h
    split at h
    · rename_i e; cases h; exact ⟨by simp [e], fun m x hm => absurd hm (Nat.not_lt_zero _)⟩
    · rename_i e
      obtain ⟨j', h', rfl⟩ := Option.map_eq_some_iff.mp h
      obtain ⟨h1, h2⟩ := idxOf_spec h'
      refine ⟨by simpa using h1, fun m x hm hx => ?_⟩
      cases m with
      | zero => simp at hx; subst hx; exact e
      | succ m => exact h2 m x (by (first | lia | omega)) (by simpa using hx)
noncomputable def mIndex (vs : List V) : M V := fun s => match vs with
  | [v, .int i] => (match lView v s with
    | some xs => (match intsOf xs with
      | some l => if l.length ≤ lim then (match idxOf i l with
        | some j => some (.int j, s)
        | none => none) else none
      | none => none)
    | none => none)
  | _ => none
theorem IntsAre.get {vs : List Value} {ns : List Int} (h : IntsAre vs ns) : ∀ (i : Nat) n, ns[i]? = some n → ∃ t, vs[i]? = some (.int n t) := by
  induction h with
  | nil => intro i n e; simp at e
  | cons a t h ih =>
    intro i n e
    cases i with
    | zero => simp at e; subst e; exact ⟨t, rfl⟩
    | succ i => simp at e; obtain ⟨t', ht⟩ := ih i n e; exact ⟨t', by simpa using ht⟩
theorem mIndex_C : SimC C (.builtin "list.index") mIndex := by
  intro h₀ ζ ρ st s P E vs xs ok rel ra v st' e k
  unfold mIndex at e
  split at e
  · rename_i u i
    obtain ⟨x, _, rfl, r, y, _, rfl, r2, q⟩ := ra
    simp only [VRa] at q
    subst q
    split at e
    · rename_i l hl
      split at e
      · rename_i ns hns
        split at e
        · rename_i hlen
          split at e
          · rename_i j hj
            cases e
            simp only [VR] at r2
            obtain ⟨t, rfl⟩ := r2
            obtain ⟨a, ys, m, rfl, ho, hr⟩ := lView_obj rel hl r
            have hI := ints_are2 hns hr
            obtain ⟨h1, h2⟩ := idxOf_spec hj
            have hsz : ys.size = ns.length := by have := hI.length; simpa using this
            have hjl : j < ys.size := by rw [hsz]; exact (List.getElem?_eq_some_iff.mp h1).1
            have hlim : lim < 2 ^ 63 - 1 := by decide
            obtain ⟨tj, htj⟩ := IntsAre.get hI j i h1
            refine call_meets PySem.F.slot_list_index ⟨_, ho, rfl⟩ PySem.F.entry_list_index (PySem.F.args_list_index_2 _ _)
              (PySem.MeetsSeq.list_index a ys m (.int i t) (fun y => match y with | .int n _ => n == i | _ => false) (fun y hy => ?_) j hjl (by (first | lia | omega)) ?_ (fun q hq hqj => ?_)) ⟨ho, ?_⟩
            · obtain ⟨n, t', rfl⟩ := IntsAre.all hI y (Array.mem_toList_iff.mpr hy)
              exact PySem.MeetsSeq.EqGives.int n i t' t
            · rw [Array.getElem?_toList, Array.getElem?_eq_getElem hjl] at htj
              rw [Option.some.inj htj]; simp
            · have hq2 : q < ns.length := by rw [← hsz]; exact hq
              obtain ⟨tq, htq⟩ := IntsAre.get hI q ns[q] (List.getElem?_eq_getElem hq2)
              rw [Array.getElem?_toList, Array.getElem?_eq_getElem hq] at htq
              rw [Option.some.inj htq]
              have := h2 q ns[q] hqj (List.getElem?_eq_getElem hq2)
              simpa using this
            · exact k ζ ρ s.heap _ _ (Gr.refl _ _ _ _) rel (by simp only [VR]; exact ⟨_, rfl⟩)
          · cases e
        · cases e
      · cases e
    · cases e
  · cases e
theorem Sim_CallSortedK {x : Str} {p pos kp : Pos} {arg kv : PySem.Expr} {q : Addr} {m : M V} {c : Option Nat} {fm : FM} {B k : Nat} (hf : SimE C (eval (.Name x p) C.env) (pure (.val (.builtin "sorted")))) (ha : SimE C (eval arg C.env) m) (hkey : SimE C (eval kv C.env) (pure (.val (.ref q))))
    (hc : okSlot C c) (hq : FnSim C.W (.ref q) B k fm) (hB : C.T ≤ B) (hk : k + 1 ≤ C.k) (hs : starEach [arg] C.env = (false, eval arg C.env) :: starEach [] C.env := by rfl) :
    SimE C (eval (.Call (.Name x p) [arg] [⟨some (Str.ofString "key"), kv, kp⟩] pos) C.env) (do let v ← m; bSortedK c fm v) := by
  intro h₀ ζ ρ st s P E ok rel v st' e kk
  obtain ⟨u, s1, e1, e2⟩ := M.bind_some e
  show wpAny _ _ (eval (.Name x p) C.env >>= fun f => callWith pos f [] (backTo pos (starEach [arg] C.env)) (backToKw pos (keywordEach [⟨some (Str.ofString "key"), kv, kp⟩] C.env))) _ _ _
  refine wpAny_bind (hf h₀ ζ ρ st s _ E ok rel _ _ rfl fun ζ1 ρ1 h1 tk1 y G1 rel1 r1 => ?_)
  simp only [VR] at r1
  subst r1
  refine callWith_kw ?_ (by rw [hs]; rfl) (by rw [hs]; rfl)
  refine spliced_more (ha h₀ ζ1 ρ1 st _ _ E ok rel1 u s1 e1 fun ζ2 ρ2 h2 tk2 z G2 rel2 r2 => spliced_none ?_) hs
  refine kws_cons (hkey h₀ ζ2 ρ2 s1 _ _ E ok rel2 _ _ rfl fun ζ3 ρ3 h3 tk3 w G3 rel3 r3 => kws_nil ?_)
  simp only [VR] at r3
  subst r3
  exact bSortedK_K hc hq hB hk h₀ ζ3 ρ3 s1 _ P E u z ok rel3 (VR.gr rel2 G3 r2) v st' e2 fun ζ4 ρ4 h4 tk4 b G4 rel4 r4 => kk ζ4 ρ4 h4 tk4 b (((G1.trans G2).trans G3).trans G4) rel4 r4
end Lay
end

section
open PySem PySem.W PyProof.Rows
set_option Elab.async false
set_option linter.unusedVariables false
namespace Lay
noncomputable def X.nil : M (List V) := pure []
noncomputable def X.cons (m1 : M V) (m2 : M (List V)) : M (List V) := do let v ← m1; let vs ← m2; pure (v :: vs)
noncomputable def X.tup (m : M (List V)) : M V := do let vs ← m; mkTup vs
noncomputable def X.list (c : Option Nat) (m : M (List V)) : M V := do let vs ← m; mkList c vs
noncomputable def X.op1 (g : V → M V) (m : M V) : M V := m >>= g
noncomputable def X.op2 (g : V → V → M V) (m1 m2 : M V) : M V := do let a ← m1; let b ← m2; g a b
noncomputable def X.call (g : List V → M V) (ma : M (List V)) : M V := do let vs ← ma; g vs
noncomputable def X.meth (okp : V → St → Bool) (g : List V → M V) (mo : M V) (ma : M (List V)) : M V := do let v ← mo; (fun s => M.guard (okp v s) s); let vs ← ma; g (v :: vs)
noncomputable def X.ife (mt : M Bool) (m1 m2 : M V) : M V := do let b ← mt; if b then m1 else m2
noncomputable def X.truth (m : M V) : M Bool := do let v ← m; asBool v
noncomputable def X.tcmp (g : V → V → M V) (m1 m2 : M V) : M Bool := do let a ← m1; let b ← m2; let c ← g a b; asBool c
noncomputable def X.tnot (m : M Bool) : M Bool := do let b ← m; pure (!b)
noncomputable def X.and0 : M Bool := pure true
noncomputable def X.or0 : M Bool := pure false
noncomputable def X.and1 (m1 m2 : M Bool) : M Bool := do let b ← m1; if b then m2 else pure false
noncomputable def X.or1 (m1 m2 : M Bool) : M Bool := do let b ← m1; if b then pure true else m2
noncomputable def X.comp (c : Option Nat) (T j : Nat) (mi : M V) (mt : M Bool) (me : M V) : M V := do let v ← mi; M.guard (v.stays T); M.comp c v j mt me
noncomputable def X.dnil : M (List (V × V)) := pure []
noncomputable def X.dcons (m1 m2 : M V) (m3 : M (List (V × V))) : M (List (V × V)) := do let a ← m1; let b ← m2; let r ← m3; pure ((a, b) :: r)
noncomputable def X.dictS (n : Nat) (m : M (List (V × V))) : M V := do let vs ← m; mkDict strKey .sdict n vs
noncomputable def X.sortedK (c : Option Nat) (fm : FM) (m : M V) : M V := do let v ← m; bSortedK c fm v
noncomputable def Y.end : M Fl := pure .next
noncomputable def Y.assign (i : Nat) (m : M V) : M Fl := do let v ← m; M.setL i v; pure .next
noncomputable def Y.assignDisp (is : List Nat) (m : M (List V)) : M Fl := do let vs ← m; M.guard (decide (vs.length ≤ 100)); M.sets is vs; pure .next
noncomputable def Y.assignSwap (is : List Nat) (m : M (List V)) : M Fl := do let vs ← m; M.guard (decide (vs.length ≤ 100)); M.sets is vs.reverse; pure .next
noncomputable def Y.assignSub (m mo mi : M V) : M Fl := do let u ← m; let v ← mo; let k ← mi; setI v k u; pure .next
noncomputable def Y.assignAttr (Cl : Addr) (name : Str) (m mo : M V) : M Fl := do let u ← m; let v ← mo; setA Cl name v u; pure .next
noncomputable def Y.ret (m : M V) : M Fl := do let v ← m; pure (.ret v)
noncomputable def Y.expr (m : M V) : M Fl := do let _ ← m; pure .next
noncomputable def Y.ite (mt : M Bool) (m1 m2 : M Fl) : M Fl := do let b ← mt; if b then m1 else m2
noncomputable def Y.for (B : Nat) (mi : M V) (bind : V → M Unit) (mb : M Fl) : M Fl := do let v ← mi; M.guard (v.stays B); M.forS v bind mb
noncomputable def Y.kill (n : Nat) (m : M Fl) : M Fl := do M.kill n; m
noncomputable def instOk (Cl : Addr) (name : Str) : V → St → Bool := fun v s => match instOf v s with | some (c, kvs) => decide (c = Cl) && (kvGet kvs name).isNone | none => false
theorem len0 {α : Type} {xs : List α} (h : xs.length = 0) : xs = [] := List.eq_nil_of_length_eq_zero h
theorem lenS {α : Type} {n : Nat} {xs : List α} (h : xs.length = n + 1) : ∃ a r, xs = a :: r ∧ r.length = n := by
  cases xs with
  | nil => cases h
  | cons a r => exact ⟨a, r, rfl, Nat.succ.inj h⟩
theorem len1 {α : Type} {xs : List α} (h : xs.length = 1) : ∃ a, xs = [a] := by
  obtain ⟨a, r, rfl, h2⟩ := lenS h; rw [len0 h2]; exact ⟨a, rfl⟩
theorem len2 {α : Type} {xs : List α} (h : xs.length = 2) : ∃ a b, xs = [a, b] := by
  obtain ⟨a, r, rfl, h2⟩ := lenS h; obtain ⟨b, rfl⟩ := len1 h2; exact ⟨a, b, rfl⟩
theorem len3 {α : Type} {xs : List α} (h : xs.length = 3) : ∃ a b c, xs = [a, b, c] := by
  obtain ⟨a, r, rfl, h2⟩ := lenS h; obtain ⟨b, c, rfl⟩ := len2 h2; exact ⟨a, b, c, rfl⟩
theorem bind1 {s : Shared} {fd : FuncData} {names : List Str} {xs : List Value} (hl : xs.length = 1) (h : ∀ a, bindArgs fd ⟨[a], []⟩ = pure (names.zip [a])) : BindsTo s fd ⟨xs, []⟩ (names.zip xs) := by
  obtain ⟨a, rfl⟩ := len1 hl
  exact .of_eq (h a)
theorem bind2 {s : Shared} {fd : FuncData} {names : List Str} {xs : List Value} (hl : xs.length = 2) (h : ∀ a b, bindArgs fd ⟨[a, b], []⟩ = pure (names.zip [a, b])) : BindsTo s fd ⟨xs, []⟩ (names.zip xs) := by
  obtain ⟨a, b, rfl⟩ := len2 hl
  exact .of_eq (h a b)
theorem bind3 {s : Shared} {fd : FuncData} {names : List Str} {xs : List Value} (hl : xs.length = 3) (h : ∀ a b c, bindArgs fd ⟨[a, b, c], []⟩ = pure (names.zip [a, b, c])) : BindsTo s fd ⟨xs, []⟩ (names.zip xs) := by
  obtain ⟨a, b, c, rfl⟩ := len3 hl
  exact .of_eq (h a b c)
theorem bindD3 {s : Shared} {fd : FuncData} {names : List Str} {xs : List Value} (hl : xs.length = 3) (h : ∀ a b c, BindsTo s fd ⟨[a, b, c], []⟩ (names.zip [a, b, c])) : BindsTo s fd ⟨xs, []⟩ (names.zip xs) := by
  obtain ⟨a, b, c, rfl⟩ := len3 hl
  exact h a b c
end Lay
end

section
open PySem PySem.W PyProof.Rows
set_option Elab.async false
set_option linter.unusedVariables false
namespace Lay
theorem law_end {W : Wd} {f : Addr} {B k : Nat} {fm : FM} {s : Shared} {a : Addr} {vs : List Value} {xs : List Int} {Q : Value → Shared → Prop} {E : Value → Shared → Prop} (hf : FnSim W (.ref f) B k fm) (room : Room callerA k) (ok : W.Ok s.heap)
    (ha : s.heap.get? a = some { cls := .type "list", data := .seq vs.toArray }) (hsys : a ≠ sysModules) (hi : IntsAre vs xs) (run : ∃ σ', fm [.lst (xs.map .int)] (fun _ => none) = some (.bool true, σ'))
    (h : ∀ h' tk, (∀ b o, s.heap.get? b = some o → h'.get? b = some o) → Q (.bool true) { s with heap := h', toks := tk }) : wpAny (model W.prog W.w) callerA (call (.ref f) [.ref a]) Q E s := by
  obtain ⟨σ', run⟩ := run
  refine wpAny_call (codeAny_mono (hf callerA s.heap.get? (fun b => if b = a then some { cls := .type "list", data := .seq vs.toArray } else none) (fun _ => none) (fun _ => none) s [.lst (xs.map .int)] [.ref a] Q E room ?_ (fun _ _ => rfl) ?_ _ _ run fun ζ' ρ' h' tk' x G S hσ hx => ?_) fun r s' z => z)
  · exact ⟨ok, fun _ _ e => e, fun b o e => by split at e <;> cases e; rename_i q; rw [q]; exact ha, fun _ _ _ => trivial, nofun, fun _ _ => rfl, nofun, nofun, nofun, fun h' q => ok.keeps q, nofun, by rw [if_neg (Ne.symm hsys)]⟩
  · refine ⟨_, [], rfl, ?_, rfl⟩
    simp only [VR]
    exact ⟨a, _, vs.toArray, rfl, by simp, ⟨0, rfl⟩, by simpa using ints_back2 hi⟩
  · simp only [VR] at hx
    subst hx
    exact h h' tk' fun b o e => S.kept b o e
end Lay
end

section
open PySem PySem.W PyProof.Rows
set_option Elab.async false
set_option linter.unusedVariables false
namespace Lay
noncomputable def R {α : Type} (m : M α) (s : St) (a : α) (s' : St) : Prop := m s = some (a, s')
theorem R.pure {α : Type} {a : α} {s : St} : R (Pure.pure a : M α) s a s := rfl
theorem R.bind {α β : Type} {m : M α} {f : α → M β} {s s1 s2 : St} {a : α} {b : β} (h : R m s a s1) (k : R (f a) s1 b s2) : R (m >>= f) s b s2 := by
  unfold R at *
  rw [M.bind_eq, h]; exact k
theorem R.getL {i : Nat} {s : St} {v : V} (h : s.loc i = some v) : R (M.getL i) s v s := by
  unfold R M.getL; rw [h]
theorem R.setL {i : Nat} {s : St} {v : V} : R (M.setL i v) s () { s with loc := upd s.loc i (some v) } := rfl
theorem R.guard {b : Bool} {s : St} (h : b = true) : R (M.guard b) s () s := by subst h; rfl
theorem R.nil {s : St} : R X.nil s [] s := rfl
theorem R.cons {m1 : M V} {m2 : M (List V)} {s s1 s2 : St} {v : V} {vs : List V} (h1 : R m1 s v s1) (h2 : R m2 s1 vs s2) : R (X.cons m1 m2) s (v :: vs) s2 := .bind h1 (.bind h2 .pure)
theorem R.mkTup {vs : List V} {s : St} (h : vs.all V.low = true) (hl : vs.length ≤ lim) : R (mkTup vs) s (.tup vs) s := .bind (.guard (by simp only [h, decide_eq_true hl, Bool.and_self])) .pure
theorem R.mkLst {vs : List V} {s : St} (h : vs.all V.low = true) (hl : vs.length ≤ lim) : R (mkList none vs) s (.lst vs) s := .bind (.guard (by simp only [h, decide_eq_true hl, Bool.and_self])) .pure
theorem R.new {n : Nat} {O : O} {s : St} (h : s.hp n = none) : R (M.new n O) s (.ref n) { s with hp := upd s.hp n (some O) } := by
  unfold R M.new; rw [h]
theorem R.mkLstS {n : Nat} {vs : List V} {s : St} (h : vs.all V.low = true) (hl : vs.length ≤ lim) (hn : s.hp n = none) : R (mkList (some n) vs) s (.ref n) { s with hp := upd s.hp n (some (.list vs)) } := .bind (.guard (by simp only [h, decide_eq_true hl, Bool.and_self])) (.new hn)
theorem R.tup {m : M (List V)} {s s1 s2 : St} {vs : List V} {v : V} (h : R m s vs s1) (k : R (Lay.mkTup vs) s1 v s2) : R (X.tup m) s v s2 := .bind h k
theorem R.op2 {g : V → V → M V} {m1 m2 : M V} {s s1 s2 s3 : St} {a b c : V} (h1 : R m1 s a s1) (h2 : R m2 s1 b s2) (k : R (g a b) s2 c s3) : R (X.op2 g m1 m2) s c s3 := .bind h1 (.bind h2 k)
theorem R.call {g : List V → M V} {m : M (List V)} {s s1 s2 : St} {vs : List V} {v : V} (h : R m s vs s1) (k : R (g vs) s1 v s2) : R (X.call g m) s v s2 := .bind h k
theorem R.meth {okp : V → St → Bool} {g : List V → M V} {mo : M V} {ma : M (List V)} {s s1 s2 s3 : St} {o v : V} {vs : List V} (h1 : R mo s o s1) (hk : okp o s1 = true) (h2 : R ma s1 vs s2) (k : R (g (o :: vs)) s2 v s3) : R (X.meth okp g mo ma) s v s3 :=
  .bind h1 (R.bind (a := ()) (s1 := s1) (by unfold R; show M.guard (okp o s1) s1 = _; rw [hk]; rfl) (.bind h2 k))
theorem R.ifeT {mt : M Bool} {m1 m2 : M V} {s s1 s2 : St} {v : V} (h : R mt s true s1) (k : R m1 s1 v s2) : R (X.ife mt m1 m2) s v s2 := .bind h (by simpa using k)
theorem R.ifeF {mt : M Bool} {m1 m2 : M V} {s s1 s2 : St} {v : V} (h : R mt s false s1) (k : R m2 s1 v s2) : R (X.ife mt m1 m2) s v s2 := .bind h (by simpa using k)
theorem R.tcmp {g : V → V → M V} {m1 m2 : M V} {s s1 s2 s3 : St} {a b : V} {c : Bool} (h1 : R m1 s a s1) (h2 : R m2 s1 b s2) (k : R (g a b) s2 (.bool c) s3) : R (X.tcmp g m1 m2) s c s3 := .bind h1 (.bind h2 (.bind k .pure))
theorem R.and0 {s : St} : R X.and0 s true s := rfl
theorem R.or0 {s : St} : R X.or0 s false s := rfl
theorem R.and1T {m1 m2 : M Bool} {s s1 s2 : St} {c : Bool} (h : R m1 s true s1) (k : R m2 s1 c s2) : R (X.and1 m1 m2) s c s2 := .bind h (by simpa using k)
theorem R.and1F {m1 m2 : M Bool} {s s1 : St} (h : R m1 s false s1) : R (X.and1 m1 m2) s false s1 := .bind h rfl
theorem R.or1T {m1 m2 : M Bool} {s s1 : St} (h : R m1 s true s1) : R (X.or1 m1 m2) s true s1 := .bind h rfl
theorem R.or1F {m1 m2 : M Bool} {s s1 s2 : St} {c : Bool} (h : R m1 s false s1) (k : R m2 s1 c s2) : R (X.or1 m1 m2) s c s2 := .bind h (by simpa using k)
theorem R.dnil {s : St} : R X.dnil s [] s := rfl
theorem R.dcons {m1 m2 : M V} {m3 : M (List (V × V))} {s s1 s2 s3 : St} {a b : V} {r : List (V × V)} (h1 : R m1 s a s1) (h2 : R m2 s1 b s2) (h3 : R m3 s2 r s3) : R (X.dcons m1 m2 m3) s ((a, b) :: r) s3 := .bind h1 (.bind h2 (.bind h3 .pure))
theorem R.end {s : St} : R Y.end s .next s := rfl
theorem R.seq {m1 m2 : M Fl} {s s1 s2 : St} {f : Fl} (h : R m1 s .next s1) (k : R m2 s1 f s2) : R (M.seq m1 m2) s f s2 := .bind h k
theorem R.seqRet {m1 m2 : M Fl} {s s1 : St} {v : V} (h : R m1 s (.ret v) s1) : R (M.seq m1 m2) s (.ret v) s1 := .bind h rfl
theorem R.assign {i : Nat} {m : M V} {s s1 : St} {v : V} (h : R m s v s1) : R (Y.assign i m) s .next { s1 with loc := upd s1.loc i (some v) } := .bind h (.bind .setL .pure)
theorem R.assignDisp {is : List Nat} {m : M (List V)} {s s1 s2 : St} {vs : List V} (h : R m s vs s1) (hl : vs.length ≤ 100) (k : R (M.sets is vs) s1 () s2) : R (Y.assignDisp is m) s .next s2 := .bind h (.bind (.guard (decide_eq_true hl)) (.bind k .pure))
theorem R.assignSwap {is : List Nat} {m : M (List V)} {s s1 s2 : St} {vs : List V} (h : R m s vs s1) (hl : vs.length ≤ 100) (k : R (M.sets is vs.reverse) s1 () s2) : R (Y.assignSwap is m) s .next s2 := .bind h (.bind (.guard (decide_eq_true hl)) (.bind k .pure))
theorem R.sets0 {s : St} : R (M.sets [] []) s () s := rfl
theorem R.assignSub {m mo mi : M V} {s s1 s2 s3 s4 : St} {u v k : V} (h : R m s u s1) (h2 : R mo s1 v s2) (h3 : R mi s2 k s3) (h4 : R (setI v k u) s3 () s4) : R (Y.assignSub m mo mi) s .next s4 := .bind h (.bind h2 (.bind h3 (.bind h4 .pure)))
theorem R.assignAttr {Cl : Addr} {name : Str} {m mo : M V} {s s1 s2 s3 : St} {u v : V} (h : R m s u s1) (h2 : R mo s1 v s2) (h3 : R (setA Cl name v u) s2 () s3) : R (Y.assignAttr Cl name m mo) s .next s3 := .bind h (.bind h2 (.bind h3 .pure))
theorem R.ret {m : M V} {s s1 : St} {v : V} (h : R m s v s1) : R (Y.ret m) s (.ret v) s1 := .bind h .pure
theorem R.expr {m : M V} {s s1 : St} {v : V} (h : R m s v s1) : R (Y.expr m) s .next s1 := .bind h .pure
theorem R.iteT {mt : M Bool} {m1 m2 : M Fl} {s s1 s2 : St} {f : Fl} (h : R mt s true s1) (k : R m1 s1 f s2) : R (Y.ite mt m1 m2) s f s2 := .bind h (by simpa using k)
theorem R.iteF {mt : M Bool} {m1 m2 : M Fl} {s s1 s2 : St} {f : Fl} (h : R mt s false s1) (k : R m2 s1 f s2) : R (Y.ite mt m1 m2) s f s2 := .bind h (by simpa using k)
theorem R.kill {n : Nat} {m : M Fl} {s s2 : St} {f : Fl} (k : R m ⟨dropRefs n s.loc, upd s.hp n none⟩ f s2) : R (Y.kill n m) s f s2 := R.bind (a := ()) (by rfl) k
theorem R.callM {fm : FM} {vs : List V} {s : St} {v : V} {σ' : Hp} (h : fm vs s.hp = some (v, σ')) : R (Lay.callM fm vs) s v { s with hp := σ' } := by
  unfold R Lay.callM; rw [h]
theorem run_fn {B n : Nat} {mb : M Fl} {args : List V} {σ : Hp} {f : Fl} {v v' : V} {st' : St} (hl : args.length = n) (h : R mb ⟨fun i => args[i]?, σ⟩ f st') (hf : flV f = some v) (hv : leaveV B v st'.hp = some v') : runF B n mb args σ = some (v', cut B st'.hp) := by
  unfold runF
  unfold R at h
  rw [if_pos hl, h]
  simp only [hf, hv]
noncomputable def Free (B : Nat) (σ : Hp) : Prop := ∀ n, B ≤ n → σ n = none
theorem cut_free {B : Nat} {σ : Hp} (h : Free B σ) : cut B σ = σ := by
  funext n
  unfold cut
  split
  · rfl
  · exact (h n (by (first | lia | omega))).symm
theorem Free.upd {B : Nat} {σ : Hp} {n : Nat} {O : Option O} (h : Free B σ) (hn : n < B) : Free B (upd σ n O) := fun m hm => by rw [upd_ne _ _ (by (first | lia | omega))]; exact h m hm
theorem Free.mono {B B' : Nat} {σ : Hp} (h : Free B σ) (hb : B ≤ B') : Free B' σ := fun n hn => h n (by (first | lia | omega))
theorem cut_own {B : Nat} {σ : Hp} {n : Nat} {O : Option O} (h : Free B σ) (hn : B ≤ n) : cut B (upd σ n O) = σ := by
  funext m
  unfold cut
  split
  · rw [upd_ne _ _ (by (first | lia | omega))]
  · exact (h m (by (first | lia | omega))).symm
theorem forN_ret {items : St → Option (List V)} {bind : V → M Unit} {body : M Fl} {xs : List V} (P : Nat → St → Prop) (Q : V → St → Prop) (hit : ∀ i s, P i s → items s = some xs)
    (step : ∀ i s x, P i s → xs[i]? = some x → ∃ s1 s2 f, R (bind x) s () s1 ∧ R body s1 f s2 ∧ (((f = .next ∨ f = .cont) ∧ P (i + 1) s2) ∨ ∃ v, f = .ret v ∧ Q v s2)) :
    ∀ (n i : Nat) (s : St), xs.length - i < n → P i s → i ≤ xs.length → (∃ s', R (M.forN items bind body n i) s .next s' ∧ P xs.length s') ∨ ∃ v s', R (M.forN items bind body n i) s (.ret v) s' ∧ Q v s'
  | 0, i, s, h, _, _ => absurd h (Nat.not_lt_zero _)
  | n + 1, i, s, h, hp, hi => by
    cases q : xs[i]? with
    | none =>
      have : xs.length ≤ i := List.getElem?_eq_none_iff.mp q
      have e : i = xs.length := by (first | lia | omega)
      subst e
      refine .inl ⟨s, ?_, hp⟩
      unfold R M.forN
      simp only [hit _ s hp, q]
    | some x =>
      have hlt : i < xs.length := (List.getElem?_eq_some_iff.mp q).1
      obtain ⟨s1, s2, f, h1, h2, hf⟩ := step i s x hp q
      have glue : ∀ (g : Fl) (s' : St), R (match (generalizing := false) f with
          | .next => M.forN items bind body n (i + 1)
          | .cont => M.forN items bind body n (i + 1)
          | .brk => Pure.pure .next
          | .ret v => Pure.pure (.ret v) : M Fl) s2 g s' → R (M.forN items bind body (n + 1) i) s g s' := fun g s' hg => by
        unfold R M.forN
        simp only [hit _ s hp, q]
        have : R (do bind x; let fl ← body; match fl with
          | .next => M.forN items bind body n (i + 1)
          | .cont => M.forN items bind body n (i + 1)
          | .brk => Pure.pure .next
          | .ret v => Pure.pure (.ret v) : M Fl) s g s' := .bind h1 (.bind h2 hg)
        exact this
      rcases hf with ⟨hf, hp2⟩ | ⟨v, rfl, hq⟩
      · rcases forN_ret P Q hit step n (i + 1) s2 (by (first | lia | omega)) hp2 hlt with ⟨s', h3, h4⟩ | ⟨v, s', h3, h4⟩
        · exact .inl ⟨s', glue _ _ (by rcases hf with rfl | rfl <;> exact h3), h4⟩
        · exact .inr ⟨v, s', glue _ _ (by rcases hf with rfl | rfl <;> exact h3), h4⟩
      · exact .inr ⟨v, s2, glue _ _ rfl, hq⟩
theorem R.forS {v : V} {bind : V → M Unit} {body : M Fl} {xs : List V} {s s' : St} {f : Fl} (hx : seqItems v s = some xs) (h : R (M.forN (seqItems v) bind body (xs.length + 1) 0) s f s') : R (M.forS v bind body) s f s' := by
  unfold R M.forS
  rw [hx]; exact h
theorem compN_run {items : St → Option (List V)} {bind : V → M Unit} {test : M Bool} {elt : M V} {xs : List V} (P : Nat → List V → St → Prop) (hit : ∀ i acc s, P i acc s → items s = some xs)
    (step : ∀ i acc s x, P i acc s → xs[i]? = some x → ∃ s1 s2 b, R (bind x) s () s1 ∧ R test s1 b s2 ∧ ((b = false ∧ P (i + 1) acc s2) ∨ (b = true ∧ ∃ y s3, R elt s2 y s3 ∧ y.low = true ∧ acc.length < lim ∧ P (i + 1) (acc ++ [y]) s3))) :
    ∀ (n i : Nat) (acc : List V) (s : St), xs.length - i < n → P i acc s → i ≤ xs.length → ∃ acc' s', R (M.compN items bind test elt n i acc) s acc' s' ∧ P xs.length acc' s'
  | 0, i, acc, s, h, _, _ => absurd h (Nat.not_lt_zero _)
  | n + 1, i, acc, s, h, hp, hi => by
    cases q : xs[i]? with
    | none =>
      have : xs.length ≤ i := List.getElem?_eq_none_iff.mp q
      have e : i = xs.length := by (first | lia | omega)
      subst e
      refine ⟨acc, s, ?_, hp⟩
      unfold R M.compN
      simp only [hit _ _ s hp, q]
    | some x =>
      have hlt : i < xs.length := (List.getElem?_eq_some_iff.mp q).1
      obtain ⟨s1, s2, b, h1, h2, hb⟩ := step i acc s x hp q
      have glue : ∀ (acc' : List V) (s' : St), R (if b then (do
          let y ← elt
          M.guard (y.low && decide (acc.length < lim))
          M.compN items bind test elt n (i + 1) (acc ++ [y])) else M.compN items bind test elt n (i + 1) acc : M (List V)) s2 acc' s' → R (M.compN items bind test elt (n + 1) i acc) s acc' s' := fun acc' s' hg => by
        unfold R M.compN
        simp only [hit _ _ s hp, q]
        have : R (do bind x; let b ← test; if b then (do
          let y ← elt
          M.guard (y.low && decide (acc.length < lim))
          M.compN items bind test elt n (i + 1) (acc ++ [y])) else M.compN items bind test elt n (i + 1) acc : M (List V)) s acc' s' := .bind h1 (.bind h2 hg)
        exact this
      rcases hb with ⟨rfl, hp2⟩ | ⟨rfl, y, s3, h3, hlow, hlen, hp2⟩
      · obtain ⟨acc', s', h4, h5⟩ := compN_run P hit step n (i + 1) acc s2 (by (first | lia | omega)) hp2 hlt
        exact ⟨acc', s', glue _ _ (by simpa using h4), h5⟩
      · obtain ⟨acc', s', h4, h5⟩ := compN_run P hit step n (i + 1) _ s3 (by (first | lia | omega)) hp2 hlt
        refine ⟨acc', s', glue _ _ ?_, h5⟩
        simp only [if_true]
        exact .bind h3 (.bind (.guard (by simp [hlow, hlen])) h4)
end Lay
end

section
open PySem PySem.W PyProof.Rows
set_option Elab.async false
set_option linter.unusedVariables false
namespace Lay
noncomputable def Wp {α : Type} (m : M α) (s : St) (Q : α → St → Prop) : Prop := ∃ a s', R m s a s' ∧ Q a s'
noncomputable abbrev Qk.bind {α β : Type} (f : α → M β) (Q : β → St → Prop) : α → St → Prop := fun a s1 => Wp (f a) s1 Q
noncomputable abbrev Qk.then {α β : Type} (m : M β) (Q : β → St → Prop) : α → St → Prop := fun _ s1 => Wp m s1 Q
noncomputable abbrev Qk.cons (v : V) (Q : List V → St → Prop) : List V → St → Prop := fun vs s2 => Q (v :: vs) s2
noncomputable abbrev Qk.consM (m2 : M (List V)) (Q : List V → St → Prop) : V → St → Prop := fun v s1 => Wp m2 s1 (Qk.cons v Q)
noncomputable abbrev Qk.op1 (g : V → M V) (Q : V → St → Prop) : V → St → Prop := fun a s1 => Wp (g a) s1 Q
noncomputable abbrev Qk.op2 (g : V → V → M V) (m2 : M V) (Q : V → St → Prop) : V → St → Prop := fun a s1 => Wp m2 s1 (Qk.op1 (g a) Q)
noncomputable abbrev Qk.call (g : List V → M V) (Q : V → St → Prop) : List V → St → Prop := fun vs s1 => Wp (g vs) s1 Q
noncomputable abbrev Qk.meth1 (g : List V → M V) (o : V) (Q : V → St → Prop) : List V → St → Prop := fun vs s2 => Wp (g (o :: vs)) s2 Q
noncomputable abbrev Qk.meth (okp : V → St → Bool) (g : List V → M V) (ma : M (List V)) (Q : V → St → Prop) : V → St → Prop := fun o s1 => okp o s1 = true ∧ Wp ma s1 (Qk.meth1 g o Q)
noncomputable abbrev Qk.two {α : Type} (m1 m2 : M α) (Q : α → St → Prop) : Bool → St → Prop := fun b s1 => (b = true → Wp m1 s1 Q) ∧ (b = false → Wp m2 s1 Q)
noncomputable abbrev Qk.bool (Q : Bool → St → Prop) : V → St → Prop := fun v s1 => Wp (asBool v) s1 Q
noncomputable abbrev Qk.cmp1 (g : V → V → M V) (a : V) (Q : Bool → St → Prop) : V → St → Prop := fun b s2 => Wp (g a b) s2 (Qk.bool Q)
noncomputable abbrev Qk.cmp (g : V → V → M V) (m2 : M V) (Q : Bool → St → Prop) : V → St → Prop := fun a s1 => Wp m2 s1 (Qk.cmp1 g a Q)
noncomputable abbrev Qk.not (Q : Bool → St → Prop) : Bool → St → Prop := fun b s1 => Q (!b) s1
noncomputable abbrev Qk.and (m2 : M Bool) (Q : Bool → St → Prop) : Bool → St → Prop := fun b s1 => (b = true → Wp m2 s1 Q) ∧ (b = false → Q false s1)
noncomputable abbrev Qk.or (m2 : M Bool) (Q : Bool → St → Prop) : Bool → St → Prop := fun b s1 => (b = true → Q true s1) ∧ (b = false → Wp m2 s1 Q)
noncomputable abbrev Qk.seq (m2 : M Fl) (Q : Fl → St → Prop) : Fl → St → Prop := fun f s1 => match f with | .next => Wp m2 s1 Q | f => Q f s1
noncomputable abbrev Qk.put (i : Nat) (Q : Fl → St → Prop) : V → St → Prop := fun v s1 => Q .next { s1 with loc := upd s1.loc i (some v) }
noncomputable abbrev Qk.ret (Q : Fl → St → Prop) : V → St → Prop := fun v s1 => Q (.ret v) s1
noncomputable abbrev Qk.exp (Q : Fl → St → Prop) : V → St → Prop := fun _ s1 => Q .next s1
noncomputable abbrev Qk.u (Q : Fl → St → Prop) : Unit → St → Prop := fun _ s1 => Q .next s1
noncomputable abbrev Qk.sets (is : List Nat) (r : List V → List V) (Q : Fl → St → Prop) : List V → St → Prop := fun vs s1 => vs.length ≤ 100 ∧ Wp (M.sets is (r vs)) s1 (Qk.u Q)
noncomputable abbrev Qk.sub3 (u v : V) (Q : Fl → St → Prop) : V → St → Prop := fun k s3 => Wp (setI v k u) s3 (Qk.u Q)
noncomputable abbrev Qk.sub2 (mi : M V) (u : V) (Q : Fl → St → Prop) : V → St → Prop := fun v s2 => Wp mi s2 (Qk.sub3 u v Q)
noncomputable abbrev Qk.sub1 (mo mi : M V) (Q : Fl → St → Prop) : V → St → Prop := fun u s1 => Wp mo s1 (Qk.sub2 mi u Q)
noncomputable abbrev Qk.att2 (Cl : Addr) (name : Str) (u : V) (Q : Fl → St → Prop) : V → St → Prop := fun v s2 => Wp (setA Cl name v u) s2 (Qk.u Q)
noncomputable abbrev Qk.att1 (Cl : Addr) (name : Str) (mo : M V) (Q : Fl → St → Prop) : V → St → Prop := fun u s1 => Wp mo s1 (Qk.att2 Cl name u Q)
noncomputable abbrev Qk.comp (c : Option Nat) (T j : Nat) (mt : M Bool) (me : M V) (Q : V → St → Prop) : V → St → Prop := fun v s1 => v.stays T = true ∧ Wp (M.comp c v j mt me) s1 Q
noncomputable abbrev Qk.for (B : Nat) (bind : V → M Unit) (mb : M Fl) (Q : Fl → St → Prop) : V → St → Prop := fun v s1 => v.stays B = true ∧ Wp (M.forS v bind mb) s1 Q
noncomputable abbrev Qk.loop (I' : St → Prop) (Q : Fl → St → Prop) : Fl → St → Prop := fun f s2 => match f with | .next => I' s2 | .cont => I' s2 | .brk => False | .ret v => Q (.ret v) s2
noncomputable abbrev Qk.hp (s : St) (Q : V → St → Prop) : V → Hp → Prop := fun v σ' => Q v { s with hp := σ' }
noncomputable abbrev Qk.fn (B : Nat) (Q : V → Hp → Prop) : Fl → St → Prop := fun f s => ∃ v v', flV f = some v ∧ leaveV B v s.hp = some v' ∧ Q v' (cut B s.hp)
theorem Wp.ofR {α : Type} {m : M α} {s s' : St} {a : α} {Q : α → St → Prop} (h : R m s a s') (k : Q a s') : Wp m s Q := ⟨a, s', h, k⟩
theorem Wp.mono {α : Type} {m : M α} {s : St} {Q Q' : α → St → Prop} (h : Wp m s Q) (k : ∀ a s', Q a s' → Q' a s') : Wp m s Q' := by
  obtain ⟨a, s', h1, h2⟩ := h; exact ⟨a, s', h1, k _ _ h2⟩
theorem Wp.bind {α β : Type} {m : M α} {f : α → M β} {s : St} {Q : β → St → Prop} (h : Wp m s (Qk.bind f Q)) : Wp (m >>= f) s Q := by
  obtain ⟨a, s1, h1, b, s2, h2, h3⟩ := h; exact ⟨b, s2, .bind h1 h2, h3⟩
theorem Wp.pure {α : Type} {a : α} {s : St} {Q : α → St → Prop} (k : Q a s) : Wp (Pure.pure a : M α) s Q := ⟨a, s, .pure, k⟩
theorem Wp.getL {i : Nat} {s : St} {v : V} {Q : V → St → Prop} (h : s.loc i = some v) (k : Q v s) : Wp (M.getL i) s Q := ⟨v, s, .getL h, k⟩
theorem Wp.setL {i : Nat} {s : St} {v : V} {Q : Unit → St → Prop} (k : Q () { s with loc := upd s.loc i (some v) }) : Wp (M.setL i v) s Q := ⟨_, _, .setL, k⟩
theorem Wp.guard {b : Bool} {s : St} {Q : Unit → St → Prop} (h : b = true) (k : Q () s) : Wp (M.guard b) s Q := ⟨_, _, .guard h, k⟩
theorem Wp.nil {s : St} {Q : List V → St → Prop} (k : Q [] s) : Wp X.nil s Q := ⟨_, _, .nil, k⟩
theorem Wp.cons {m1 : M V} {m2 : M (List V)} {s : St} {Q : List V → St → Prop} (h : Wp m1 s (Qk.consM m2 Q)) : Wp (X.cons m1 m2) s Q := by
  obtain ⟨v, s1, h1, vs, s2, h2, h3⟩ := h; exact ⟨_, _, .cons h1 h2, h3⟩
theorem Wp.mkTup {vs : List V} {s : St} {Q : V → St → Prop} (h : vs.all V.low = true) (hl : vs.length ≤ lim) (k : Q (.tup vs) s) : Wp (mkTup vs) s Q := ⟨_, _, .mkTup h hl, k⟩
theorem Wp.mkLst {vs : List V} {s : St} {Q : V → St → Prop} (h : vs.all V.low = true) (hl : vs.length ≤ lim) (k : Q (.lst vs) s) : Wp (mkList none vs) s Q := ⟨_, _, .mkLst h hl, k⟩
theorem Wp.mkLstS {n : Nat} {vs : List V} {s : St} {Q : V → St → Prop} (h : vs.all V.low = true) (hl : vs.length ≤ lim) (hn : s.hp n = none) (k : Q (.ref n) { s with hp := upd s.hp n (some (.list vs)) }) : Wp (mkList (some n) vs) s Q := ⟨_, _, .mkLstS h hl hn, k⟩
theorem Wp.new {n : Nat} {O : O} {s : St} {Q : V → St → Prop} (h : s.hp n = none) (k : Q (.ref n) { s with hp := upd s.hp n (some O) }) : Wp (M.new n O) s Q := ⟨_, _, .new h, k⟩
theorem Wp.tup {m : M (List V)} {s : St} {Q : V → St → Prop} (h : Wp m s (Qk.call Lay.mkTup Q)) : Wp (X.tup m) s Q := .bind h
theorem Wp.list {c : Option Nat} {m : M (List V)} {s : St} {Q : V → St → Prop} (h : Wp m s (Qk.call (mkList c) Q)) : Wp (X.list c m) s Q := .bind h
theorem Wp.op1 {g : V → M V} {m : M V} {s : St} {Q : V → St → Prop} (h : Wp m s (Qk.op1 g Q)) : Wp (X.op1 g m) s Q := .bind h
theorem Wp.op2 {g : V → V → M V} {m1 m2 : M V} {s : St} {Q : V → St → Prop} (h : Wp m1 s (Qk.op2 g m2 Q)) : Wp (X.op2 g m1 m2) s Q := .bind (h.mono fun _ _ => .bind)
theorem Wp.call {g : List V → M V} {m : M (List V)} {s : St} {Q : V → St → Prop} (h : Wp m s (Qk.call g Q)) : Wp (X.call g m) s Q := .bind h
theorem Wp.meth {okp : V → St → Bool} {g : List V → M V} {mo : M V} {ma : M (List V)} {s : St} {Q : V → St → Prop} (h : Wp mo s (Qk.meth okp g ma Q)) : Wp (X.meth okp g mo ma) s Q := by
  obtain ⟨o, s1, h1, hk, vs, s2, h2, v, s3, h3, h4⟩ := h
  exact ⟨v, s3, .meth h1 hk h2 h3, h4⟩
theorem Wp.ife {mt : M Bool} {m1 m2 : M V} {s : St} {Q : V → St → Prop} (h : Wp mt s (Qk.two m1 m2 Q)) : Wp (X.ife mt m1 m2) s Q := by
  obtain ⟨b, s1, h1, h2, h3⟩ := h
  cases b with
  | true => obtain ⟨v, s2, h4, h5⟩ := h2 rfl; exact ⟨v, s2, .ifeT h1 h4, h5⟩
  | false => obtain ⟨v, s2, h4, h5⟩ := h3 rfl; exact ⟨v, s2, .ifeF h1 h4, h5⟩
theorem Wp.truth {m : M V} {s : St} {Q : Bool → St → Prop} (h : Wp m s (Qk.bool Q)) : Wp (X.truth m) s Q := .bind h
theorem Wp.asBool {b : Bool} {s : St} {Q : Bool → St → Prop} (k : Q b s) : Wp (Lay.asBool (.bool b)) s Q := ⟨_, _, .pure, k⟩
theorem Wp.tcmp {g : V → V → M V} {m1 m2 : M V} {s : St} {Q : Bool → St → Prop} (h : Wp m1 s (Qk.cmp g m2 Q)) : Wp (X.tcmp g m1 m2) s Q := .bind (h.mono fun _ _ h => .bind (h.mono fun _ _ => .bind))
theorem Wp.tnot {m : M Bool} {s : St} {Q : Bool → St → Prop} (h : Wp m s (Qk.not Q)) : Wp (X.tnot m) s Q := .bind (h.mono fun b _ k => Wp.pure (a := !b) k)
theorem Wp.and0 {s : St} {Q : Bool → St → Prop} (k : Q true s) : Wp X.and0 s Q := ⟨_, _, .and0, k⟩
theorem Wp.or0 {s : St} {Q : Bool → St → Prop} (k : Q false s) : Wp X.or0 s Q := ⟨_, _, .or0, k⟩
theorem Wp.and1 {m1 m2 : M Bool} {s : St} {Q : Bool → St → Prop} (h : Wp m1 s (Qk.and m2 Q)) : Wp (X.and1 m1 m2) s Q := by
  obtain ⟨b, s1, h1, h2, h3⟩ := h
  cases b with
  | true => obtain ⟨v, s2, h4, h5⟩ := h2 rfl; exact ⟨v, s2, .and1T h1 h4, h5⟩
  | false => exact ⟨false, s1, .and1F h1, h3 rfl⟩
theorem Wp.or1 {m1 m2 : M Bool} {s : St} {Q : Bool → St → Prop} (h : Wp m1 s (Qk.or m2 Q)) : Wp (X.or1 m1 m2) s Q := by
  obtain ⟨b, s1, h1, h2, h3⟩ := h
  cases b with
  | false => obtain ⟨v, s2, h4, h5⟩ := h3 rfl; exact ⟨v, s2, .or1F h1 h4, h5⟩
  | true => exact ⟨true, s1, .or1T h1, h2 rfl⟩
theorem Wp.comp {c : Option Nat} {T j : Nat} {mi : M V} {mt : M Bool} {me : M V} {s : St} {Q : V → St → Prop} (h : Wp mi s (Qk.comp c T j mt me Q)) : Wp (X.comp c T j mi mt me) s Q := .bind (h.mono fun _ _ h => .bind (.guard h.1 h.2))
theorem Wp.dnil {s : St} {Q : List (V × V) → St → Prop} (k : Q [] s) : Wp X.dnil s Q := ⟨_, _, .dnil, k⟩
theorem Wp.dcons {m1 m2 : M V} {m3 : M (List (V × V))} {s : St} {Q : List (V × V) → St → Prop} (h : Wp m1 s (fun a s1 => Wp m2 s1 (fun b s2 => Wp m3 s2 (fun r s3 => Q ((a, b) :: r) s3)))) : Wp (X.dcons m1 m2 m3) s Q := by
  obtain ⟨a, s1, h1, b, s2, h2, r, s3, h3, h4⟩ := h
  exact ⟨_, _, .dcons h1 h2 h3, h4⟩
theorem Wp.dictS {n : Nat} {m : M (List (V × V))} {s : St} {Q : V → St → Prop} (h : Wp m s (fun vs s1 => Wp (mkDict strKey .sdict n vs) s1 Q)) : Wp (X.dictS n m) s Q := .bind h
theorem Wp.sortedK {c : Option Nat} {fm : FM} {m : M V} {s : St} {Q : V → St → Prop} (h : Wp m s (fun v s1 => Wp (bSortedK c fm v) s1 Q)) : Wp (X.sortedK c fm m) s Q := .bind h
theorem Wp.end {s : St} {Q : Fl → St → Prop} (k : Q .next s) : Wp Y.end s Q := ⟨_, _, .end, k⟩
theorem Wp.seq {m1 m2 : M Fl} {s : St} {Q : Fl → St → Prop} (h : Wp m1 s (Qk.seq m2 Q)) : Wp (M.seq m1 m2) s Q := by
  obtain ⟨f, s1, h1, h2⟩ := h
  cases f with
  | next => obtain ⟨g, s2, h3, h4⟩ := h2; exact ⟨g, s2, .seq h1 h3, h4⟩
  | ret v => exact ⟨_, _, .seqRet h1, h2⟩
  | brk => exact ⟨.brk, s1, R.bind h1 rfl, h2⟩
  | cont => exact ⟨.cont, s1, R.bind h1 rfl, h2⟩
theorem Wp.assign {i : Nat} {m : M V} {s : St} {Q : Fl → St → Prop} (h : Wp m s (Qk.put i Q)) : Wp (Y.assign i m) s Q := by
  obtain ⟨v, s1, h1, h2⟩ := h; exact ⟨_, _, .assign h1, h2⟩
theorem Wp.assignDisp {is : List Nat} {m : M (List V)} {s : St} {Q : Fl → St → Prop} (h : Wp m s (Qk.sets is id Q)) : Wp (Y.assignDisp is m) s Q := by
  obtain ⟨vs, s1, h1, hl, _, s2, h2, h3⟩ := h; exact ⟨_, _, .assignDisp h1 hl h2, h3⟩
theorem Wp.assignSwap {is : List Nat} {m : M (List V)} {s : St} {Q : Fl → St → Prop} (h : Wp m s (Qk.sets is List.reverse Q)) : Wp (Y.assignSwap is m) s Q := by
  obtain ⟨vs, s1, h1, hl, _, s2, h2, h3⟩ := h; exact ⟨_, _, .assignSwap h1 hl h2, h3⟩
theorem Wp.sets0 {s : St} {Q : Unit → St → Prop} (k : Q () s) : Wp (M.sets [] []) s Q := ⟨_, _, .sets0, k⟩
theorem Wp.sets1 {i : Nat} {is : List Nat} {v : V} {vs : List V} {s : St} {Q : Unit → St → Prop} (h : Wp (M.sets is vs) { s with loc := upd s.loc i (some v) } Q) : Wp (M.sets (i :: is) (v :: vs)) s Q := .bind (.setL h)
theorem Wp.assignSub {m mo mi : M V} {s : St} {Q : Fl → St → Prop} (h : Wp m s (Qk.sub1 mo mi Q)) : Wp (Y.assignSub m mo mi) s Q := by
  obtain ⟨u, s1, h1, v, s2, h2, k, s3, h3, _, s4, h4, h5⟩ := h
  exact ⟨_, _, .assignSub h1 h2 h3 h4, h5⟩
theorem Wp.assignAttr {Cl : Addr} {name : Str} {m mo : M V} {s : St} {Q : Fl → St → Prop} (h : Wp m s (Qk.att1 Cl name mo Q)) : Wp (Y.assignAttr Cl name m mo) s Q := by
  obtain ⟨u, s1, h1, v, s2, h2, _, s3, h3, h4⟩ := h
  exact ⟨_, _, .assignAttr h1 h2 h3, h4⟩
theorem Wp.ret {m : M V} {s : St} {Q : Fl → St → Prop} (h : Wp m s (Qk.ret Q)) : Wp (Y.ret m) s Q := by
  obtain ⟨v, s1, h1, h2⟩ := h; exact ⟨_, _, .ret h1, h2⟩
theorem Wp.expr {m : M V} {s : St} {Q : Fl → St → Prop} (h : Wp m s (Qk.exp Q)) : Wp (Y.expr m) s Q := by
  obtain ⟨v, s1, h1, h2⟩ := h; exact ⟨_, _, .expr h1, h2⟩
theorem Wp.ite {mt : M Bool} {m1 m2 : M Fl} {s : St} {Q : Fl → St → Prop} (h : Wp mt s (Qk.two m1 m2 Q)) : Wp (Y.ite mt m1 m2) s Q := by
  obtain ⟨b, s1, h1, h2, h3⟩ := h
  cases b with
  | true => obtain ⟨v, s2, h4, h5⟩ := h2 rfl; exact ⟨v, s2, .iteT h1 h4, h5⟩
  | false => obtain ⟨v, s2, h4, h5⟩ := h3 rfl; exact ⟨v, s2, .iteF h1 h4, h5⟩
theorem Wp.kill {n : Nat} {m : M Fl} {s : St} {Q : Fl → St → Prop} (h : Wp m ⟨dropRefs n s.loc, upd s.hp n none⟩ Q) : Wp (Y.kill n m) s Q := by
  obtain ⟨v, s1, h1, h2⟩ := h; exact ⟨_, _, .kill h1, h2⟩
theorem Wp.for {B : Nat} {mi : M V} {bind : V → M Unit} {mb : M Fl} {s : St} {Q : Fl → St → Prop} (h : Wp mi s (Qk.for B bind mb Q)) : Wp (Y.for B mi bind mb) s Q := .bind (h.mono fun _ _ h => .bind (.guard h.1 h.2))
theorem Wp.forS {v : V} {bind : V → M Unit} {body : M Fl} {xs : List V} {s : St} {Q : Fl → St → Prop} (I : Nat → St → Prop) (h0 : I 0 s) (hit : ∀ i s, I i s → seqItems v s = some xs)
    (step : ∀ i s x, I i s → xs[i]? = some x → Wp (bind x) s (Qk.then body (Qk.loop (I (i + 1)) Q)))
    (last : ∀ s, I xs.length s → Q .next s) : Wp (M.forS v bind body) s Q := by
  have hx := hit 0 s h0
  rcases forN_ret (items := seqItems v) (bind := bind) (body := body) (xs := xs) I (fun v s => Q (.ret v) s) hit (fun i s x hi hx => by
    obtain ⟨_, s1, h1, f, s2, h2, h3⟩ := step i s x hi hx
    refine ⟨s1, s2, f, h1, h2, ?_⟩
    cases f with
    | next => exact .inl ⟨.inl rfl, h3⟩
    | cont => exact .inl ⟨.inr rfl, h3⟩
    | brk => exact h3.elim
    | ret v => exact .inr ⟨v, rfl, h3⟩) (xs.length + 1) 0 s (by (first | lia | omega)) h0 (Nat.zero_le _) with ⟨s', h1, h2⟩ | ⟨v', s', h1, h2⟩
  · exact ⟨_, _, .forS hx h1, last _ h2⟩
  · exact ⟨_, _, .forS hx h1, h2⟩
theorem Wp.compM {v : V} {j : Nat} {test : M Bool} {elt : M V} {c : Option Nat} {xs : List V} {s : St} {Q : V → St → Prop} (I : Nat → List V → St → Prop) (h0 : I 0 [] s) (hit : ∀ i acc s, I i acc s → seqItems v s = some xs)
    (step : ∀ i acc s x, I i acc s → xs[i]? = some x → Wp test { s with loc := upd s.loc j (some x) } (fun b s2 => (b = false → I (i + 1) acc s2) ∧ (b = true → Wp elt s2 (fun y s3 => y.low = true ∧ acc.length < lim ∧ I (i + 1) (acc ++ [y]) s3))))
    (last : ∀ acc s, I xs.length acc s → Wp (mkList c acc) { s with loc := upd s.loc j none } Q) : Wp (M.comp c v j test elt) s Q := by
  have hx := hit 0 [] s h0
  obtain ⟨acc', s', h1, h2⟩ := compN_run (items := seqItems v) (bind := fun u => M.setL j u) (test := test) (elt := elt) (xs := xs) I hit (fun i acc s x hi hx => by
    obtain ⟨b, s2, h1, h2, h3⟩ := step i acc s x hi hx
    refine ⟨_, s2, b, .setL, h1, ?_⟩
    cases b with
    | false => exact .inl ⟨rfl, h2 rfl⟩
    | true => obtain ⟨y, s3, h4, h5, h6, h7⟩ := h3 rfl; exact .inr ⟨rfl, y, s3, h4, h5, h6, h7⟩) (xs.length + 1) 0 [] s (by (first | lia | omega)) h0 (Nat.zero_le _)
  obtain ⟨r, s2, h3, h4⟩ := last _ _ h2
  refine ⟨r, s2, R.bind (a := acc') (s1 := s') ?_ (R.bind (a := ()) rfl h3), h4⟩
  unfold R
  show (match seqItems v s with | none => none | some xs => _) = _
  rw [hx]; exact h1
noncomputable def Ws (fm : FM) (vs : List V) (σ : Hp) (Q : V → Hp → Prop) : Prop := ∃ v σ', fm vs σ = some (v, σ') ∧ Q v σ'
theorem Ws.mono {fm : FM} {vs : List V} {σ : Hp} {Q Q' : V → Hp → Prop} (h : Ws fm vs σ Q) (k : ∀ v σ', Q v σ' → Q' v σ') : Ws fm vs σ Q' := by
  obtain ⟨v, σ', h1, h2⟩ := h; exact ⟨v, σ', h1, k _ _ h2⟩
theorem Wp.callM {fm : FM} {vs : List V} {s : St} {Q : V → St → Prop} (h : Ws fm vs s.hp (Qk.hp s Q)) : Wp (Lay.callM fm vs) s Q := by
  obtain ⟨v, σ', h1, h2⟩ := h; exact ⟨v, _, .callM h1, h2⟩
theorem Ws.fn {B n : Nat} {mb : M Fl} {args : List V} {σ : Hp} {Q : V → Hp → Prop} (hl : args.length = n) (h : Wp mb ⟨fun i => args[i]?, σ⟩ (Qk.fn B Q)) : Ws (runF B n mb) args σ Q := by
  obtain ⟨f, s, h1, v, v', h2, h3, h4⟩ := h
  exact ⟨v', _, run_fn hl h1 h2 h3, h4⟩
end Lay
end

section
open PySem PySem.W PyProof.Rows
set_option Elab.async false
set_option linter.unusedVariables false
namespace Lay
namespace L04
noncomputable def m_place_of : M Fl :=
  M.seq (Y.ret (X.tup (X.cons (X.call bAbs (X.cons (M.getL 0) X.nil)) (X.cons (M.getL 0) X.nil))))
  (Y.end)
noncomputable def m_clause_of : M Fl :=
  M.seq (Y.assign 1 (M.new 600 (.idict [])))
  (M.seq (Y.for 600 (M.getL 0) (fun v => M.setL 2 v) (M.seq (Y.ite (X.tcmp (vIn false) (X.op1 vNeg (M.getL 2)) (M.getL 1)) (M.seq (Y.ret (pure .none))
  (Y.end)) (Y.end))
  (M.seq (Y.assignSub (pure (.bool true)) (M.getL 1) (M.getL 2))
  (Y.end))))
  (M.seq (Y.ret (X.call bTuple (X.cons (X.sortedK none (runF 620 1 m_place_of) (M.getL 1)) X.nil)))
  (Y.end)))
noncomputable def m__law_draw : M Fl :=
  M.seq (Y.assign 2 (X.op2 vItem (M.getL 0) (pure (.str (Str.ofString "count")))))
  (M.seq (Y.assignSub (X.op2 (vAdd none) (M.getL 2) (pure (.int 1))) (M.getL 0) (pure (.str (Str.ofString "count"))))
  (M.seq (Y.ite (X.tcmp vLt (M.getL 2) (X.call bLen (X.cons (X.op2 vItem (M.getL 0) (pure (.str (Str.ofString "cells")))) X.nil))) (M.seq (Y.ret (X.op2 vMod (X.op2 vItem (X.op2 vItem (M.getL 0) (pure (.str (Str.ofString "cells")))) (M.getL 2)) (M.getL 1)))
  (Y.end)) (Y.end))
  (M.seq (Y.ret (X.op2 vMod (X.op2 vMod (X.op2 (vAdd none) (X.op2 (vAdd none) (X.op2 vMul (X.op2 vMul (pure (.int 7)) (M.getL 2)) (M.getL 2)) (X.op2 vMul (pure (.int 4)) (M.getL 2))) (pure (.int 2))) (pure (.int 61))) (M.getL 1)))
  (Y.end))))
noncomputable def m_Circuit_init__ : M Fl :=
  M.seq (Y.assignAttr 224 (Str.ofString "kinds") (X.list (some 3) (X.cons (pure (.str (Str.ofString ""))) (X.cons (pure (.str (Str.ofString "true"))) X.nil))) (M.getL 0))
  (M.seq (Y.assignAttr 224 (Str.ofString "parts_now") (X.list (some 4) (X.cons (X.tup X.nil) (X.cons (X.tup X.nil) X.nil))) (M.getL 0))
  (M.seq (Y.assignAttr 224 (Str.ofString "known") (M.new 5 (.tdict [])) (M.getL 0))
  (Y.end)))
noncomputable def m_Circuit_size : M Fl :=
  M.seq (Y.ret (X.op2 vSub (X.call bLen (X.cons (X.op1 (getAC 224 (Str.ofString "kinds")) (M.getL 0)) X.nil)) (pure (.int 1))))
  (Y.end)
noncomputable def m_Circuit_kind : M Fl :=
  M.seq (Y.ret (X.op2 vItem (X.op1 (getAC 224 (Str.ofString "kinds")) (M.getL 0)) (X.call bAbs (X.cons (M.getL 1) X.nil))))
  (Y.end)
noncomputable def m_Circuit_parts : M Fl :=
  M.seq (Y.ret (X.op2 vItem (X.op1 (getAC 224 (Str.ofString "parts_now")) (M.getL 0)) (X.call bAbs (X.cons (M.getL 1) X.nil))))
  (Y.end)
noncomputable def m_Circuit_new_gate : M Fl :=
  M.seq (Y.expr (X.meth isLst mApp (X.op1 (getAC 224 (Str.ofString "kinds")) (M.getL 0)) (X.cons (M.getL 1) X.nil)))
  (M.seq (Y.expr (X.meth isLst mApp (X.op1 (getAC 224 (Str.ofString "parts_now")) (M.getL 0)) (X.cons (M.getL 2) X.nil)))
  (M.seq (Y.ret (X.op2 vSub (X.call bLen (X.cons (X.op1 (getAC 224 (Str.ofString "kinds")) (M.getL 0)) X.nil)) (pure (.int 1))))
  (Y.end)))
noncomputable def m_Circuit_new_input : M Fl :=
  M.seq (Y.ret (X.meth (instOk 224 (Str.ofString "new_gate")) (callM (runF 480 3 m_Circuit_new_gate)) (M.getL 0) (X.cons (pure (.str (Str.ofString "input"))) (X.cons (X.tup X.nil) X.nil))))
  (Y.end)
noncomputable def m_Circuit_all_of : M Fl :=
  M.seq (Y.assign 2 (M.new 440 (.idict [])))
  (M.seq (Y.for 440 (M.getL 1) (fun v => M.setL 3 v) (M.seq (Y.ite ((X.or1 (X.tcmp (vEq false) (M.getL 3) (X.op1 vNeg (pure (.int 1)))) (X.or1 (X.tcmp (vIn false) (X.op1 vNeg (M.getL 3)) (M.getL 2)) X.or0))) (M.seq (Y.ret (X.op1 vNeg (pure (.int 1))))
  (Y.end)) (Y.end))
  (M.seq (Y.ite (X.tcmp (vEq true) (M.getL 3) (pure (.int 1))) (M.seq (Y.assignSub (pure (.bool true)) (M.getL 2) (M.getL 3))
  (Y.end)) (Y.end))
  (Y.end))))
  (M.seq (Y.assign 4 (X.call bTuple (X.cons (X.call (bSorted none) (X.cons (M.getL 2) X.nil)) X.nil)))
  (M.seq (Y.ite (X.tcmp vLt (X.call bLen (X.cons (M.getL 4) X.nil)) (pure (.int 2))) (M.seq (Y.ret (X.ife (X.tcmp (vEq false) (X.call bLen (X.cons (M.getL 4) X.nil)) (pure (.int 1))) (X.op2 vItem (M.getL 4) (pure (.int 0))) (pure (.int 1))))
  (Y.end)) (Y.end))
  (M.seq (Y.ite (X.tcmp (vIn true) (M.getL 4) (X.op1 (getAC 224 (Str.ofString "known")) (M.getL 0))) (M.seq (Y.assignSub (X.meth (instOk 224 (Str.ofString "new_gate")) (callM (runF 480 3 m_Circuit_new_gate)) (M.getL 0) (X.cons (pure (.str (Str.ofString "and"))) (X.cons (M.getL 4) X.nil))) (X.op1 (getAC 224 (Str.ofString "known")) (M.getL 0)) (M.getL 4))
  (Y.end)) (Y.end))
  (M.seq (Y.ret (X.op2 vItem (X.op1 (getAC 224 (Str.ofString "known")) (M.getL 0)) (M.getL 4)))
  (Y.end))))))
noncomputable def m_Circuit_any_of : M Fl :=
  M.seq (Y.ret (X.op1 vNeg (X.meth (instOk 224 (Str.ofString "all_of")) (callM (runF 440 2 m_Circuit_all_of)) (M.getL 0) (X.cons (X.comp none 440 2 (M.getL 1) (X.and0) (X.op1 vNeg (M.getL 2))) X.nil))))
  (Y.end)
noncomputable def m_Circuit_implies : M Fl :=
  M.seq (Y.ret (X.op1 vNeg (X.meth (instOk 224 (Str.ofString "all_of")) (callM (runF 440 2 m_Circuit_all_of)) (M.getL 0) (X.cons (X.tup (X.cons (M.getL 1) (X.cons (X.op1 vNeg (M.getL 2)) X.nil))) X.nil))))
  (Y.end)
noncomputable def m_Circuit_iff : M Fl :=
  M.seq (Y.ret (X.meth (instOk 224 (Str.ofString "all_of")) (callM (runF 440 2 m_Circuit_all_of)) (M.getL 0) (X.cons (X.tup (X.cons (X.meth (instOk 224 (Str.ofString "implies")) (callM (runF 400 3 m_Circuit_implies)) (M.getL 0) (X.cons (M.getL 1) (X.cons (M.getL 2) X.nil))) (X.cons (X.meth (instOk 224 (Str.ofString "implies")) (callM (runF 400 3 m_Circuit_implies)) (M.getL 0) (X.cons (M.getL 2) (X.cons (M.getL 1) X.nil))) X.nil))) X.nil)))
  (Y.end)
noncomputable def m__law_due : M Fl :=
  M.seq (Y.assign 1 (X.list none X.nil))
  (M.seq (Y.for 360 (X.call (bSorted none) (X.cons (X.comp none 380 6 (M.getL 0) (X.and0) (X.call bAbs (X.cons (M.getL 6) X.nil))) X.nil)) (fun v => M.setL 3 v) (M.seq (Y.ite ((X.and1 (X.tcmp (vIn false) (M.getL 3) (M.getL 0)) (X.and1 (X.tcmp (vIn false) (X.op1 vNeg (M.getL 3)) (M.getL 0)) X.and0))) (M.seq (Y.ret (pure .none))
  (Y.end)) (Y.end))
  (M.seq (Y.assign 2 (X.ife (X.tcmp (vIn false) (M.getL 3) (M.getL 0)) (M.getL 3) (X.op1 vNeg (M.getL 3))))
  (M.seq (Y.assign 1 (X.ife (X.tcmp (vIn false) (M.getL 2) (M.getL 1)) (M.getL 1) (X.op2 (vAdd none) (M.getL 1) (X.list none (X.cons (M.getL 2) X.nil)))))
  (Y.end)))))
  (M.seq (Y.ret (X.call bTuple (X.cons (M.getL 1) X.nil)))
  (Y.end)))
noncomputable def m_Clauses_tell : M Fl :=
  M.seq (Y.assign 2 (X.call (callM (runF 600 1 m_clause_of)) (X.cons (M.getL 1) X.nil)))
  (M.seq (Y.ite (X.tcmp (vIsNone true) (M.getL 2) (pure .none)) (M.seq (Y.expr (X.meth isLst mApp (X.op1 (getAC 114 (Str.ofString "clauses")) (M.getL 0)) (X.cons (M.getL 2) X.nil)))
  (Y.end)) (Y.end))
  (Y.end))
noncomputable def m_Clauses_many : M Fl :=
  M.seq (Y.ret (X.op2 vSub (X.call bLen (X.cons (X.op1 (getAC 114 (Str.ofString "gates")) (M.getL 0)) X.nil)) (pure (.int 1))))
  (Y.end)
noncomputable def m_Clauses_number_of : M Fl :=
  M.seq (Y.ite (X.tcmp (vIn true) (M.getL 1) (X.op1 (getAC 114 (Str.ofString "numbers")) (M.getL 0))) (M.seq (Y.assignSub (X.call bLen (X.cons (X.op1 (getAC 114 (Str.ofString "gates")) (M.getL 0)) X.nil)) (X.op1 (getAC 114 (Str.ofString "numbers")) (M.getL 0)) (M.getL 1))
  (M.seq (Y.expr (X.meth isLst mApp (X.op1 (getAC 114 (Str.ofString "gates")) (M.getL 0)) (X.cons (M.getL 1) X.nil)))
  (Y.end))) (Y.end))
  (M.seq (Y.ret (X.op2 vItem (X.op1 (getAC 114 (Str.ofString "numbers")) (M.getL 0)) (M.getL 1)))
  (Y.end))
noncomputable def m_Clauses_init__ : M Fl :=
  M.seq (Y.assignAttr 114 (Str.ofString "circuit") (M.getL 1) (M.getL 0))
  (M.seq (Y.assignAttr 114 (Str.ofString "whole") (M.getL 2) (M.getL 0))
  (M.seq (Y.assignAttr 114 (Str.ofString "clauses") (X.list (some 8) X.nil) (M.getL 0))
  (M.seq (Y.assignAttr 114 (Str.ofString "gates") (X.list (some 9) (X.cons (pure (.int 0)) X.nil)) (M.getL 0))
  (M.seq (Y.assignAttr 114 (Str.ofString "numbers") (M.new 10 (.idict [])) (M.getL 0))
  (M.seq (Y.assignAttr 114 (Str.ofString "opened") (M.new 11 (.idict [])) (M.getL 0))
  (M.seq (Y.assignAttr 114 (Str.ofString "waiting") (X.list (some 12) X.nil) (M.getL 0))
  (M.seq (Y.for 280 (X.call bRange (X.cons (pure (.int 2)) (X.cons (X.op2 (vAdd none) (X.meth (instOk 224 (Str.ofString "size")) (callM (runF 540 1 m_Circuit_size)) (M.getL 1) X.nil) (pure (.int 1))) X.nil))) (fun v => M.setL 3 v) (M.seq (Y.ite (X.tcmp (vEq false) (X.meth (instOk 224 (Str.ofString "kind")) (callM (runF 520 2 m_Circuit_kind)) (M.getL 1) (X.cons (M.getL 3) X.nil)) (pure (.str (Str.ofString "input")))) (M.seq (Y.expr (X.meth (instOk 114 (Str.ofString "number_of")) (callM (runF 300 2 m_Clauses_number_of)) (M.getL 0) (X.cons (M.getL 3) X.nil)))
  (Y.end)) (Y.end))
  (Y.end)))
  (Y.end))))))))
noncomputable def m_Clauses_enter : M Fl :=
  M.seq (Y.assign 2 (X.call bAbs (X.cons (M.getL 1) X.nil)))
  (M.seq (Y.assign 3 (X.meth (instOk 114 (Str.ofString "number_of")) (callM (runF 300 2 m_Clauses_number_of)) (M.getL 0) (X.cons (M.getL 2) X.nil)))
  (M.seq (Y.for 260 (X.ife (X.tcmp vGt (X.op1 (getAC 114 (Str.ofString "whole")) (M.getL 0)) (pure (.int 0))) (X.tup (X.cons (M.getL 2) (X.cons (X.op1 vNeg (M.getL 2)) X.nil))) (X.tup (X.cons (M.getL 1) X.nil))) (fun v => M.setL 4 v) (M.seq (Y.ite (X.tcmp (vIn true) (M.getL 4) (X.op1 (getAC 114 (Str.ofString "opened")) (M.getL 0))) (M.seq (Y.assignSub (pure (.bool true)) (X.op1 (getAC 114 (Str.ofString "opened")) (M.getL 0)) (M.getL 4))
  (M.seq (Y.expr (X.meth isLst mApp (X.op1 (getAC 114 (Str.ofString "waiting")) (M.getL 0)) (X.cons (M.getL 4) X.nil)))
  (Y.end))) (Y.end))
  (Y.end)))
  (M.seq (Y.ret (X.ife (X.tcmp vGt (M.getL 1) (pure (.int 0))) (M.getL 3) (X.op1 vNeg (M.getL 3))))
  (Y.end))))
noncomputable def m_Clauses_open_gate : M Fl :=
  M.seq (Y.assignSwap [3, 2] (X.cons (X.meth (instOk 224 (Str.ofString "kind")) (callM (runF 520 2 m_Circuit_kind)) (X.op1 (getAC 114 (Str.ofString "circuit")) (M.getL 0)) (X.cons (X.call bAbs (X.cons (M.getL 1) X.nil)) X.nil)) (X.cons (X.op2 vItem (X.op1 (getAC 114 (Str.ofString "numbers")) (M.getL 0)) (X.call bAbs (X.cons (M.getL 1) X.nil))) X.nil)))
  (M.seq (Y.ite (X.tcmp (vEq false) (M.getL 2) (pure (.str (Str.ofString "true")))) (M.seq (Y.expr (X.meth (instOk 114 (Str.ofString "tell")) (callM (runF 340 2 m_Clauses_tell)) (M.getL 0) (X.cons (X.list none (X.cons (M.getL 3) X.nil)) X.nil)))
  (Y.end)) (M.seq (Y.ite ((X.and1 (X.tcmp (vEq false) (M.getL 2) (pure (.str (Str.ofString "and")))) (X.and1 (X.tcmp vGt (M.getL 1) (pure (.int 0))) X.and0))) (M.seq (Y.for 240 (X.meth (instOk 224 (Str.ofString "parts")) (callM (runF 500 2 m_Circuit_parts)) (X.op1 (getAC 114 (Str.ofString "circuit")) (M.getL 0)) (X.cons (M.getL 1) X.nil)) (fun v => M.setL 4 v) (M.seq (Y.expr (X.meth (instOk 114 (Str.ofString "tell")) (callM (runF 340 2 m_Clauses_tell)) (M.getL 0) (X.cons (X.list none (X.cons (X.op1 vNeg (M.getL 3)) (X.cons (X.meth (instOk 114 (Str.ofString "enter")) (callM (runF 260 2 m_Clauses_enter)) (M.getL 0) (X.cons (M.getL 4) X.nil)) X.nil))) X.nil)))
  (Y.end)))
  (Y.end)) (M.seq (Y.ite (X.tcmp (vEq false) (M.getL 2) (pure (.str (Str.ofString "and")))) (M.seq (Y.expr (X.meth (instOk 114 (Str.ofString "tell")) (callM (runF 340 2 m_Clauses_tell)) (M.getL 0) (X.cons (X.op2 (vAdd none) (X.list none (X.cons (M.getL 3) X.nil)) (X.comp none 260 6 (X.meth (instOk 224 (Str.ofString "parts")) (callM (runF 500 2 m_Circuit_parts)) (X.op1 (getAC 114 (Str.ofString "circuit")) (M.getL 0)) (X.cons (X.op1 vNeg (M.getL 1)) X.nil)) (X.and0) (X.meth (instOk 114 (Str.ofString "enter")) (callM (runF 260 2 m_Clauses_enter)) (M.getL 0) (X.cons (X.op1 vNeg (M.getL 6)) X.nil)))) X.nil)))
  (Y.end)) (Y.end))
  (Y.end)))
  (Y.end)))
  (Y.end))
noncomputable def m_Clauses_flush : M Fl :=
  M.seq (M.whileW (X.tcmp vGt (X.call bLen (X.cons (X.op1 (getAC 114 (Str.ofString "waiting")) (M.getL 0)) X.nil)) (pure (.int 0))) (M.seq (Y.expr (X.meth (instOk 114 (Str.ofString "open_gate")) (callM (runF 240 2 m_Clauses_open_gate)) (M.getL 0) (X.cons (X.meth isLst mPop (X.op1 (getAC 114 (Str.ofString "waiting")) (M.getL 0)) X.nil) X.nil)))
  (Y.end)))
  (Y.end)
noncomputable def m_Clauses_literal_of : M Fl :=
  M.seq (Y.assign 2 (X.meth (instOk 114 (Str.ofString "enter")) (callM (runF 260 2 m_Clauses_enter)) (M.getL 0) (X.cons (M.getL 1) X.nil)))
  (M.seq (Y.expr (X.meth (instOk 114 (Str.ofString "flush")) (callM (runF 220 1 m_Clauses_flush)) (M.getL 0) X.nil))
  (M.seq (Y.ret (M.getL 2))
  (Y.end)))
noncomputable def m__law_is_plain_right : M Fl :=
  M.seq (Y.ite ((X.or1 (X.tcmp (vIsNone true) (X.call (callM (runF 600 1 m_clause_of)) (X.cons (X.list none (X.cons (pure (.int 3)) (X.cons (pure (.int 1)) (X.cons (X.op1 vNeg (pure (.int 3))) X.nil)))) X.nil)) (pure .none)) (X.or1 (X.tcmp (vEq true) (X.call (callM (runF 600 1 m_clause_of)) (X.cons (X.list none X.nil) X.nil)) (X.tup X.nil)) X.or0))) (M.seq (Y.ret (pure (.bool false)))
  (Y.end)) (Y.end))
  (M.seq (Y.for 180 (X.call bRange (X.cons (pure (.int 2)) X.nil)) (fun v => M.setL 1 v) (M.seq (Y.assign 2 (X.op2 vItem (X.list none (X.cons (pure (.int 1)) (X.cons (X.op2 (vAdd none) (X.op2 vPow (pure (.int 10)) (pure (.int 30))) (pure (.int 7))) X.nil))) (X.call (callM (runF 580 2 m__law_draw)) (X.cons (M.getL 0) (X.cons (pure (.int 2)) X.nil)))))
  (M.seq (Y.kill 180 (Y.assign 3 (X.list (some 180) X.nil)))
  (M.seq (Y.for 180 (X.call bRange (X.cons (X.call (callM (runF 580 2 m__law_draw)) (X.cons (M.getL 0) (X.cons (pure (.int 7)) X.nil))) X.nil)) (fun v => M.setL 4 v) (M.seq (Y.assign 5 (X.call (callM (runF 580 2 m__law_draw)) (X.cons (M.getL 0) (X.cons (pure (.int 8)) X.nil))))
  (M.seq (Y.expr (X.meth isLst mApp (M.getL 3) (X.cons (X.op2 vMul (X.op2 (vAdd none) (X.op2 vFloorDiv (M.getL 5) (pure (.int 2))) (M.getL 2)) (X.op2 vSub (pure (.int 1)) (X.op2 vMul (pure (.int 2)) (X.op2 vMod (M.getL 5) (pure (.int 2)))))) X.nil)))
  (Y.end))))
  (M.seq (Y.assign 6 (X.call (callM (runF 360 1 m__law_due)) (X.cons (M.getL 3) X.nil)))
  (M.seq (Y.ite ((X.or1 (X.tcmp (vEq true) (X.call (callM (runF 600 1 m_clause_of)) (X.cons (M.getL 3) X.nil)) (M.getL 6)) (X.or1 (X.tcmp (vEq true) (X.call (callM (runF 600 1 m_clause_of)) (X.cons (X.op2 (vAdd none) (X.op2 (vBack none) (M.getL 3) (X.op1 vNeg (pure (.int 1)))) (M.getL 3)) X.nil)) (M.getL 6)) X.or0))) (M.seq (Y.ret (pure (.bool false)))
  (Y.end)) (Y.end))
  (M.seq (Y.ite ((X.and1 (X.tcmp (vIsNone true) (M.getL 6) (pure .none)) (X.and1 (X.tcmp (vEq true) (X.call (callM (runF 600 1 m_clause_of)) (X.cons (M.getL 6) X.nil)) (M.getL 6)) X.and0))) (M.seq (Y.ret (pure (.bool false)))
  (Y.end)) (Y.end))
  (Y.end))))))))
  (M.seq (Y.ret (pure (.bool true)))
  (Y.end)))
noncomputable def m__law_gate : M Fl :=
  M.seq (Y.assign 3 (X.call (callM (runF 580 2 m__law_draw)) (X.cons (M.getL 0) (X.cons (pure (.int 3)) X.nil))))
  (M.seq (Y.assign 4 (X.list (some 160) X.nil))
  (M.seq (Y.for 160 (X.call bRange (X.cons (X.ife (X.tcmp (vEq false) (M.getL 3) (pure (.int 2))) (pure (.int 2)) (X.op2 (vAdd none) (pure (.int 2)) (X.call (callM (runF 580 2 m__law_draw)) (X.cons (M.getL 0) (X.cons (pure (.int 2)) X.nil))))) X.nil)) (fun v => M.setL 5 v) (M.seq (Y.assign 6 (X.op2 vItem (M.getL 2) (X.call (callM (runF 580 2 m__law_draw)) (X.cons (M.getL 0) (X.cons (X.call bLen (X.cons (M.getL 2) X.nil)) X.nil)))))
  (M.seq (Y.expr (X.meth isLst mApp (M.getL 4) (X.cons (X.ife (X.tcmp (vEq false) (X.call (callM (runF 580 2 m__law_draw)) (X.cons (M.getL 0) (X.cons (pure (.int 2)) X.nil))) (pure (.int 0))) (M.getL 6) (X.op1 vNeg (M.getL 6))) X.nil)))
  (Y.end))))
  (M.seq (Y.ite (X.tcmp (vEq false) (M.getL 3) (pure (.int 2))) (M.seq (Y.ret (X.meth (instOk 224 (Str.ofString "iff")) (callM (runF 380 3 m_Circuit_iff)) (M.getL 1) (X.cons (X.op2 vItem (M.getL 4) (pure (.int 0))) (X.cons (X.op2 vItem (M.getL 4) (pure (.int 1))) X.nil))))
  (Y.end)) (Y.end))
  (M.seq (Y.ret (X.ife (X.tcmp (vEq false) (M.getL 3) (pure (.int 0))) (X.meth (instOk 224 (Str.ofString "all_of")) (callM (runF 440 2 m_Circuit_all_of)) (M.getL 1) (X.cons (M.getL 4) X.nil)) (X.meth (instOk 224 (Str.ofString "any_of")) (callM (runF 420 2 m_Circuit_any_of)) (M.getL 1) (X.cons (M.getL 4) X.nil))))
  (Y.end)))))
noncomputable def m__law_taken_out : M Fl :=
  M.seq (Y.assign 3 (X.call (bDictT 140) (X.cons (X.comp none 160 9 (M.getL 0) ((X.and1 (X.tcmp (vIn true) (M.getL 1) (M.getL 9)) (X.and1 (X.tcmp (vIn true) (X.op1 vNeg (M.getL 1)) (M.getL 9)) X.and0))) (X.tup (X.cons (M.getL 9) (X.cons (pure (.bool true)) X.nil)))) X.nil)))
  (M.seq (Y.for 140 (X.comp none 160 10 (M.getL 0) (X.tcmp (vIn false) (M.getL 1) (M.getL 10)) (M.getL 10)) (fun v => M.setL 2 v) (M.seq (Y.for 140 (X.comp none 160 11 (M.getL 0) (X.tcmp (vIn false) (X.op1 vNeg (M.getL 1)) (M.getL 11)) (M.getL 11)) (fun v => M.setL 4 v) (M.seq (Y.assign 5 (X.call (callM (runF 600 1 m_clause_of)) (X.cons (X.op2 (vAdd none) (X.comp none 160 12 (M.getL 2) (X.tcmp (vEq true) (M.getL 12) (M.getL 1)) (M.getL 12)) (X.comp none 160 13 (M.getL 4) (X.tcmp (vEq true) (M.getL 13) (X.op1 vNeg (M.getL 1))) (M.getL 13))) X.nil)))
  (M.seq (Y.ite (X.tcmp (vIsNone true) (M.getL 5) (pure .none)) (M.seq (Y.assignSub (pure (.bool true)) (M.getL 3) (M.getL 5))
  (Y.end)) (Y.end))
  (Y.end))))
  (Y.end)))
  (M.seq (Y.ret (X.call (bList none) (X.cons (M.getL 3) X.nil)))
  (Y.end)))
noncomputable def m__law_can_hold : M Fl :=
  M.seq (Y.for 120 (X.call bRange (X.cons (X.op2 vPow (pure (.int 2)) (X.call bLen (X.cons (M.getL 2) X.nil))) X.nil)) (fun v => M.setL 3 v) (M.seq (Y.kill 120 (Y.assign 4 (X.list (some 120) (X.cons (pure (.bool false)) (X.cons (pure (.bool true)) X.nil)))))
  (M.seq (Y.for 120 (X.call bRange (X.cons (pure (.int 2)) (X.cons (X.op2 (vAdd none) (X.meth (instOk 224 (Str.ofString "size")) (callM (runF 540 1 m_Circuit_size)) (M.getL 0) X.nil) (pure (.int 1))) X.nil))) (fun v => M.setL 5 v) (M.seq (Y.ite (X.tcmp (vIn false) (M.getL 5) (M.getL 2)) (M.seq (Y.expr (X.meth isLst mApp (M.getL 4) (X.cons (X.op2 (vEq false) (X.op2 vAnd (X.op2 vRShift (M.getL 3) (X.meth isLst mIndex (M.getL 2) (X.cons (M.getL 5) X.nil))) (pure (.int 1))) (pure (.int 1))) X.nil)))
  (Y.end)) (M.seq (Y.expr (X.meth isLst mApp (M.getL 4) (X.cons (X.op2 (vEq false) (X.comp none 140 9 (X.meth (instOk 224 (Str.ofString "parts")) (callM (runF 500 2 m_Circuit_parts)) (M.getL 0) (X.cons (M.getL 5) X.nil)) (X.tcmp (vEq true) (X.op2 vItem (M.getL 4) (X.call bAbs (X.cons (M.getL 9) X.nil))) (X.op2 vGt (M.getL 9) (pure (.int 0)))) (M.getL 9)) (X.list none X.nil)) X.nil)))
  (Y.end)))
  (Y.end)))
  (M.seq (Y.ite (X.tcmp (vEq false) (X.op2 vItem (M.getL 4) (X.call bAbs (X.cons (M.getL 1) X.nil))) (X.op2 vGt (M.getL 1) (pure (.int 0)))) (M.seq (Y.ret (pure (.bool true)))
  (Y.end)) (Y.end))
  (Y.end)))))
  (M.seq (Y.ret (pure (.bool false)))
  (Y.end))
noncomputable def m_law : M Fl :=
  M.seq (Y.assignDisp [1, 2] (X.cons (X.dictS 100 (X.dcons (pure (.str (Str.ofString "cells"))) (X.op2 (vUpto none) (M.getL 0) (pure (.int 60))) (X.dcons (pure (.str (Str.ofString "count"))) (pure (.int 0)) X.dnil))) (X.cons (X.call (newM 1 2 224 (runF 560 1 m_Circuit_init__)) X.nil) X.nil)))
  (M.seq (Y.ite (X.tnot (X.truth (X.call (callM (runF 180 1 m__law_is_plain_right)) (X.cons (M.getL 1) X.nil)))) (M.seq (Y.ret (pure (.bool false)))
  (Y.end)) (Y.end))
  (M.seq (Y.assign 4 (X.comp none 120 24 (X.call bRange (X.cons (X.op2 (vAdd none) (pure (.int 2)) (X.call (callM (runF 580 2 m__law_draw)) (X.cons (M.getL 1) (X.cons (pure (.int 2)) X.nil)))) X.nil)) (X.and0) (X.meth (instOk 224 (Str.ofString "new_input")) (callM (runF 460 1 m_Circuit_new_input)) (M.getL 2) X.nil)))
  (M.seq (Y.assign 5 (X.call (bList (some 101)) (X.cons (M.getL 4) X.nil)))
  (M.seq (Y.for 100 (X.call bRange (X.cons (X.op2 (vAdd none) (pure (.int 2)) (X.call (callM (runF 580 2 m__law_draw)) (X.cons (M.getL 1) (X.cons (pure (.int 2)) X.nil)))) X.nil)) (fun v => M.setL 3 v) (M.seq (Y.expr (X.meth isLst mApp (M.getL 5) (X.cons (X.call (callM (runF 160 3 m__law_gate)) (X.cons (M.getL 1) (X.cons (M.getL 2) (X.cons (M.getL 5) X.nil)))) X.nil)))
  (Y.end)))
  (M.seq (Y.assign 6 (X.ife (X.tcmp (vEq false) (X.call (callM (runF 580 2 m__law_draw)) (X.cons (M.getL 1) (X.cons (pure (.int 2)) X.nil))) (pure (.int 0))) (X.op2 vItem (M.getL 5) (X.op1 vNeg (pure (.int 1)))) (X.op1 vNeg (X.op2 vItem (M.getL 5) (X.op1 vNeg (pure (.int 1)))))))
  (M.seq (Y.assign 7 (X.call (newM 6 7 114 (runF 280 3 m_Clauses_init__)) (X.cons (M.getL 2) (X.cons (X.call (callM (runF 580 2 m__law_draw)) (X.cons (M.getL 1) (X.cons (pure (.int 2)) X.nil))) X.nil))))
  (M.seq (Y.assign 8 (X.meth (instOk 114 (Str.ofString "literal_of")) (callM (runF 200 2 m_Clauses_literal_of)) (M.getL 7) (X.cons (M.getL 6) X.nil)))
  (M.seq (Y.assign 9 (X.op2 (vAdd none) (X.list none (X.cons (X.tup (X.cons (M.getL 8) X.nil)) X.nil)) (X.call (bList none) (X.cons (X.op1 (getAC 114 (Str.ofString "clauses")) (M.getL 7)) X.nil))))
  (M.seq (Y.for 100 (M.getL 9) (fun v => M.setL 10 v) (M.seq (Y.ite ((X.or1 (X.tcmp (vEq true) (X.call (callM (runF 360 1 m__law_due)) (X.cons (X.call (bList none) (X.cons (M.getL 10) X.nil)) X.nil)) (M.getL 10)) (X.or1 (X.tcmp (vEq true) (X.call (callM (runF 600 1 m_clause_of)) (X.cons (X.op2 (vAdd none) (X.op2 (vBack none) (X.call (bList none) (X.cons (M.getL 10) X.nil)) (X.op1 vNeg (pure (.int 1)))) (X.call (bList none) (X.cons (M.getL 10) X.nil))) X.nil)) (M.getL 10)) X.or0))) (M.seq (Y.ret (pure (.bool false)))
  (Y.end)) (Y.end))
  (Y.end)))
  (M.seq (Y.assign 11 (X.call (bList none) (X.cons (X.call bRange (X.cons (pure (.int 1)) (X.cons (X.op2 (vAdd none) (X.meth (instOk 114 (Str.ofString "many")) (callM (runF 320 1 m_Clauses_many)) (M.getL 7) X.nil) (pure (.int 1))) X.nil))) X.nil)))
  (M.seq (Y.for 100 (X.ife (X.tcmp (vEq false) (X.call (callM (runF 580 2 m__law_draw)) (X.cons (M.getL 1) (X.cons (pure (.int 2)) X.nil))) (pure (.int 0))) (M.getL 11) (X.op2 (vBack none) (M.getL 11) (X.op1 vNeg (pure (.int 1))))) (fun v => M.setL 12 v) (M.seq (Y.assign 9 (X.call (callM (runF 140 2 m__law_taken_out)) (X.cons (M.getL 9) (X.cons (M.getL 12) X.nil))))
  (Y.end)))
  (M.seq (Y.ret (X.op2 (vEq false) (X.op2 (vIn true) (X.tup X.nil) (M.getL 9)) (X.call (callM (runF 120 3 m__law_can_hold)) (X.cons (M.getL 2) (X.cons (M.getL 6) (X.cons (M.getL 4) X.nil))))))
  (Y.end)))))))))))))
end L04
end Lay
end

section
open PySem PySem.W PyProof.Rows
set_option Elab.async false
set_option linter.unusedVariables false
namespace Lay
theorem P.item_s {n : Nat} {kvs : List (Str × V)} {x : Str} {u : V} {s : St} (h : s.hp n = some (.sdict kvs)) (hx : kvGet kvs x = some u) : R (vItem (.ref n) (.str x)) s u s := by
  unfold R vItem sView; simp only [h, hx, Option.map_some]
theorem P.item_l {v : V} {xs : List V} {k : Int} {j : Nat} {u : V} {s : St} (hv : ∀ ys, v ≠ .tup ys) (h : lView v s = some xs) (hk : k.natAbs < 2 ^ 62) (hj : seqIndex? k xs.length = some j) (hu : xs[j]? = some u) : R (vItem v (.int k)) s u s := by
  have h1 : (decide (-(2 ^ 63) ≤ k) && decide (k < 2 ^ 63)) = true := by simp only [Bool.and_eq_true, decide_eq_true_eq]; (first | lia | omega)
  unfold R vItem
  cases v with
  | tup ys => exact absurd rfl (hv ys)
  | _ => simp only [h, h1, if_true, hj, hu, Option.map_some]
theorem P.item_t {xs : List V} {k : Int} {j : Nat} {u : V} {s : St} (hk : k.natAbs < 2 ^ 62) (hj : seqIndex? k xs.length = some j) (hu : xs[j]? = some u) : R (vItem (.tup xs) (.int k)) s u s := by
  have h1 : (decide (-(2 ^ 63) ≤ k) && decide (k < 2 ^ 63)) = true := by simp only [Bool.and_eq_true, decide_eq_true_eq]; (first | lia | omega)
  unfold R vItem
  simp only [h1, if_true, hj, hu, Option.map_some]
theorem P.item_d {v : V} {kvs : List (Int × V)} {k : Int} {u : V} {s : St} (h : dView v s = some kvs) (hu : kvGet kvs k = some u) : R (vItem v (.int k)) s u s := by
  have hl : lView v s = none := by
    unfold dView at h
    unfold lView
    split at h
    · rfl
    · split at h
      · rename_i q; simp only [q]
      · cases h
    · cases h
  unfold R vItem
  cases v with
  | tup ys => cases h
  | _ => simp only [hl, h, hu, Option.map_some]
theorem P.item_k {n : Nat} {kvs : List (List Int × V)} {ks : List V} {l : List Int} {u : V} {s : St} (h : s.hp n = some (.tdict kvs)) (hk : intsOf ks = some l) (hu : kvGet kvs l = some u) : R (vItem (.ref n) (.tup ks)) s u s := by
  unfold R vItem tView; simp only [h, hk, hu, Option.map_some]
theorem idx_nat {k : Int} {n : Nat} (h0 : 0 ≤ k) (h1 : k < n) : seqIndex? k n = some k.toNat := by
  unfold seqIndex?
  have : ¬ k < 0 := by (first | lia | omega)
  simp only [this, if_false]
  rw [if_pos (by simp; (first | lia | omega))]
theorem P.add {a b : Int} {c : Option Nat} {s : St} : R (vAdd c (.int a) (.int b)) s (.int (a + b)) s := rfl
theorem P.sub {a b : Int} {s : St} : R (vSub (.int a) (.int b)) s (.int (a - b)) s := rfl
theorem P.mul {a b : Int} {s : St} (h : a.natAbs < 2 ^ 63 ∨ b.natAbs < 2 ^ 63) : R (vMul (.int a) (.int b)) s (.int (a * b)) s := .bind (.guard (by simpa using h)) .pure
theorem P.mod {a b : Int} {s : St} (h : b ≠ 0) : R (vMod (.int a) (.int b)) s (.int (a.fmod b)) s := .bind (.guard (by simpa using h)) .pure
theorem P.fdiv {a b : Int} {s : St} (h : b ≠ 0) (h2 : b.natAbs < 2 ^ 63) : R (vFloorDiv (.int a) (.int b)) s (.int (a.fdiv b)) s := .bind (.guard (by simp [h]; (first | lia | omega))) .pure
theorem P.lt {a b : Int} {s : St} : R (vLt (.int a) (.int b)) s (.bool (decide (a < b))) s := rfl
theorem P.gt {a b : Int} {s : St} : R (vGt (.int a) (.int b)) s (.bool (decide (b < a))) s := rfl
theorem P.neg {a : Int} {s : St} : R (vNeg (.int a)) s (.int (-a)) s := rfl
theorem P.abs {a : Int} {s : St} : R (bAbs [.int a]) s (.int a.natAbs) s := by
  have : (if a < 0 then -a else a) = (a.natAbs : Int) := by split <;> (first | lia | omega)
  show R (Pure.pure (V.int (if a < 0 then -a else a))) s _ s
  rw [this]; rfl
theorem P.ltT {a b : Int} {s : St} (h : a < b) : R (vLt (.int a) (.int b)) s (.bool true) s := by have := @P.lt a b s; rwa [decide_eq_true h] at this
theorem P.ltF {a b : Int} {s : St} (h : ¬ a < b) : R (vLt (.int a) (.int b)) s (.bool false) s := by have := @P.lt a b s; rwa [decide_eq_false h] at this
theorem P.len {v : V} {n : Nat} {s : St} (h : lenOf v s = some n) (hl : n ≤ lim) : R (bLen [v]) s (.int n) s := by
  unfold bLen R; simp only [h, if_pos hl]
theorem P.setS {n : Nat} {kvs : List (Str × V)} {x : Str} {u : V} {s : St} (h : s.hp n = some (.sdict kvs)) (hu : u.low = true) (hl : kvs.length < lim) : R (setI (.ref n) (.str x) u) s () { s with hp := upd s.hp n (some (.sdict (kvSet kvs x u))) } := by
  unfold R setI; simp only [h, hu, if_true, if_pos hl]
theorem P.setD {n : Nat} {kvs : List (Int × V)} {x : Int} {u : V} {s : St} (h : s.hp n = some (.idict kvs)) (hu : u.low = true) (hl : kvs.length < lim) : R (setI (.ref n) (.int x) u) s () { s with hp := upd s.hp n (some (.idict (kvSet kvs x u))) } := by
  unfold R setI; simp only [h, hu, if_true, if_pos hl]
theorem P.setT {n : Nat} {kvs : List (List Int × V)} {ks : List V} {l : List Int} {u : V} {s : St} (h : s.hp n = some (.tdict kvs)) (hk : intsOf ks = some l) (hu : u.low = true) (hl : kvs.length < lim) : R (setI (.ref n) (.tup ks) u) s () { s with hp := upd s.hp n (some (.tdict (kvSet kvs l u))) } := by
  unfold R setI; simp only [h, hu, hk, if_true, if_pos hl]
namespace L04
noncomputable def feedO (xs : List Int) (k : Int) : O := .sdict [(Str.ofString "cells", .lst (xs.map .int)), (Str.ofString "count", .int k)]
theorem draw_run {F : Nat} {xs : List Int} {k many : Int} {σ : Hp} (hF : σ F = some (feedO xs k)) (h0 : 0 ≤ k) (hk : k < 2 ^ 40) (hl : xs.length ≤ 60) (hm : 0 < many) (hn : Free 580 σ) (hF5 : F < 580) :
    ∃ r, 0 ≤ r ∧ r < many ∧ runF 580 2 m__law_draw [.ref F, .int many] σ = some (.int r, upd σ F (some (feedO xs (k + 1)))) := by
  have e1 : Str.ofString "cells" ≠ Str.ofString "count" := by decide
  have gc : ∀ k, kvGet [(Str.ofString "cells", V.lst (xs.map .int)), (Str.ofString "count", V.int k)] (Str.ofString "count") = some (.int k) := fun k => by rw [kvGet_cons, if_neg e1, kvGet_cons, if_pos rfl]
  have gl : ∀ k, kvGet [(Str.ofString "cells", V.lst (xs.map .int)), (Str.ofString "count", V.int k)] (Str.ofString "cells") = some (.lst (xs.map .int)) := fun k => by rw [kvGet_cons, if_pos rfl]
  have hset : kvSet [(Str.ofString "cells", V.lst (xs.map .int)), (Str.ofString "count", V.int k)] (Str.ofString "count") (.int (k + 1)) = [(Str.ofString "cells", V.lst (xs.map .int)), (Str.ofString "count", V.int (k + 1))] := by
    unfold kvSet; simp [e1]
  have hcut : cut 580 (upd σ F (some (feedO xs (k + 1)))) = upd σ F (some (feedO xs (k + 1))) := cut_free (hn.upd hF5)
  have hlim : (xs.map V.int).length ≤ lim := by rw [List.length_map]; exact Nat.le_trans hl (by decide)
  have hs1 : (upd σ F (some (feedO xs (k + 1)))) F = some (feedO xs (k + 1)) := upd_same _ _ _
  by_cases hlt : k < xs.length
  · have hj : k.toNat < xs.length := by (first | lia | omega)
    refine ⟨(xs[k.toNat]).fmod many, Int.fmod_nonneg_of_pos _ hm, Int.fmod_lt_of_pos _ hm, ?_⟩
    rw [← hcut]
    refine run_fn (v := .int ((xs[k.toNat]).fmod many)) (st' := ⟨upd (fun i => [V.ref F, V.int many][i]?) 2 (some (.int k)), upd σ F (some (feedO xs (k + 1)))⟩) rfl (R.seq (R.assign (R.op2 (R.getL rfl) R.pure (P.item_s hF (gc k)))) (R.seq (s1 := ⟨upd (fun i => [V.ref F, V.int many][i]?) 2 (some (.int k)), upd σ F (some (feedO xs (k + 1)))⟩) (R.assignSub (R.op2 (R.getL rfl) R.pure P.add) (R.getL rfl) R.pure ?_)
      (R.seqRet (R.iteT (R.tcmp (R.getL rfl) (R.call (R.cons (R.op2 (R.getL rfl) R.pure (P.item_s hs1 (gl _))) R.nil) (P.len rfl hlim)) ?_)
        (R.seqRet (R.ret (R.op2 (R.op2 (R.op2 (R.getL rfl) R.pure (P.item_s hs1 (gl _))) (R.getL rfl) (P.item_l (xs := xs.map .int) (j := k.toNat) (u := .int xs[k.toNat]) nofun rfl ?_ ?_ ?_)) (R.getL rfl) (P.mod ?_)))))))) rfl rfl
    · have := P.setS (s := ⟨upd (fun i => [V.ref F, V.int many][i]?) 2 (some (.int k)), σ⟩) (x := Str.ofString "count") (u := .int (k + 1)) hF rfl (show 2 < lim by decide)
      rw [hset] at this
      exact this
    · rw [List.length_map]; exact P.ltT hlt
    · (first | lia | omega)
    · rw [List.length_map]; exact idx_nat h0 hlt
    · simp [hj]
    · (first | lia | omega)
  · refine ⟨(Int.fmod (7 * k * k + 4 * k + 2) 61).fmod many, Int.fmod_nonneg_of_pos _ hm, Int.fmod_lt_of_pos _ hm, ?_⟩
    rw [← hcut]
    refine run_fn (v := .int ((Int.fmod (7 * k * k + 4 * k + 2) 61).fmod many)) (st' := ⟨upd (fun i => [V.ref F, V.int many][i]?) 2 (some (.int k)), upd σ F (some (feedO xs (k + 1)))⟩) rfl (R.seq (R.assign (R.op2 (R.getL rfl) R.pure (P.item_s hF (gc k)))) (R.seq (s1 := ⟨upd (fun i => [V.ref F, V.int many][i]?) 2 (some (.int k)), upd σ F (some (feedO xs (k + 1)))⟩) (R.assignSub (R.op2 (R.getL rfl) R.pure P.add) (R.getL rfl) R.pure ?_)
      (R.seq (R.iteF (R.tcmp (R.getL rfl) (R.call (R.cons (R.op2 (R.getL rfl) R.pure (P.item_s hs1 (gl _))) R.nil) (P.len rfl hlim)) ?_) R.end)
        (R.seqRet (R.ret (R.op2 (R.op2 (R.op2 (R.op2 (R.op2 (R.op2 R.pure (R.getL rfl) (P.mul ?_)) (R.getL rfl) (P.mul ?_)) (R.op2 R.pure (R.getL rfl) (P.mul ?_)) P.add) R.pure P.add) R.pure (P.mod ?_)) (R.getL rfl) (P.mod ?_))))))) rfl rfl
    · have := P.setS (s := ⟨upd (fun i => [V.ref F, V.int many][i]?) 2 (some (.int k)), σ⟩) (x := Str.ofString "count") (u := .int (k + 1)) hF rfl (show 2 < lim by decide)
      rw [hset] at this
      exact this
    · rw [List.length_map]; exact P.ltF hlt
    · (first | lia | omega)
    · (first | lia | omega)
    · (first | lia | omega)
    · decide
    · (first | lia | omega)
end L04
end Lay
end

section
open PySem PySem.W PyProof.Rows
set_option Elab.async false
set_option linter.unusedVariables false
namespace Lay
theorem kv_keys_some {K : Type} [DecidableEq K] {α : Type} (kvs : List (K × α)) (k : K) : (kvGet kvs k).isSome = true ↔ k ∈ kvs.map (·.1) := by
  rw [← kvGet_some_of_any, List.any_eq_true]
  simp only [List.mem_map, decide_eq_true_eq]
theorem kvSet_keys {K : Type} [DecidableEq K] {α : Type} (kvs : List (K × α)) (k : K) (v : α) : (kvSet kvs k v).map (·.1) = if k ∈ kvs.map (·.1) then kvs.map (·.1) else kvs.map (·.1) ++ [k] := by
  unfold kvSet
  have e : kvs.any (fun kv => decide (kv.1 = k)) = true ↔ k ∈ kvs.map (·.1) := by rw [kvGet_some_of_any]; exact kv_keys_some kvs k
  by_cases h : k ∈ kvs.map (·.1)
  · rw [if_pos (e.mpr h), if_pos h, List.map_map]
    refine List.map_congr_left fun kv _ => ?_
    simp only [Function.comp]
    split <;> rfl
  · rw [if_neg (fun q => h (e.mp q)), if_neg h, List.map_append]; rfl
theorem kvSet_mem {K : Type} [DecidableEq K] {α : Type} (kvs : List (K × α)) (k : K) (v : α) (x : K) : x ∈ (kvSet kvs k v).map (·.1) ↔ x ∈ kvs.map (·.1) ∨ x = k := by
  rw [kvSet_keys]
  split
  · rename_i h
    exact ⟨.inl, fun q => q.elim id fun e => e ▸ h⟩
  · simp
theorem kvSet_nodup {K : Type} [DecidableEq K] {α : Type} (kvs : List (K × α)) (k : K) (v : α) (h : (kvs.map (·.1)).Nodup) : ((kvSet kvs k v).map (·.1)).Nodup := by
  rw [kvSet_keys]
  split
  · exact h
  · rename_i hk
    rw [List.nodup_append]
    refine ⟨h, by simp, fun a ha b hb => ?_⟩
    simp only [List.mem_singleton] at hb
    subst hb
    exact fun e => hk (e ▸ ha)
theorem nodup_length_le {α : Type} [DecidableEq α] : ∀ {a b : List α}, a.Nodup → (∀ x ∈ a, x ∈ b) → a.length ≤ b.length
  | [], _, _, _ => Nat.zero_le _
  | x :: r, b, h, s => by
    have hx := s x (List.mem_cons_self ..)
    have h2 := List.nodup_cons.mp h
    have := nodup_length_le (a := r) (b := b.erase x) h2.2 fun y hy => (List.mem_erase_of_ne (by rintro rfl; exact h2.1 hy)).mpr (s y (List.mem_cons_of_mem _ hy))
    rw [List.length_erase_of_mem hx] at this
    have := List.length_pos_of_mem hx
    simp only [List.length_cons]
    (first | lia | omega)
namespace L04
noncomputable def Asc (r : List Int) : Prop := r.Pairwise (fun a b => a.natAbs < b.natAbs)
noncomputable def NormOf (L r : List Int) : Prop := (∀ x, x ∈ r ↔ x ∈ L) ∧ Asc r
noncomputable def Clash (L : List Int) : Prop := ∃ x, x ∈ L ∧ -x ∈ L
theorem Asc.nodup {r : List Int} (h : Asc r) : r.Nodup := h.imp fun q e => by subst e; (first | lia | omega)
theorem asc_unique : ∀ {a b : List Int}, Asc a → Asc b → (∀ x, x ∈ a ↔ x ∈ b) → a = b
  | [], [], _, _, _ => rfl
  | [], y :: _, _, _, h => by have := (h y).mpr (List.mem_cons_self ..); cases this
  | x :: _, [], _, _, h => by have := (h x).mp (List.mem_cons_self ..); cases this
  | x :: a, y :: b, ha, hb, h => by
    have ha := List.pairwise_cons.mp ha
    have hb := List.pairwise_cons.mp hb
    have e : x = y := by
      rcases List.mem_cons.mp ((h x).mp (List.mem_cons_self ..)) with q | q
      · exact q
      · rcases List.mem_cons.mp ((h y).mpr (List.mem_cons_self ..)) with p | p
        · exact p.symm
        · have h1 := hb.1 _ q
          have h2 := ha.1 _ p
          (first | lia | omega)
    subst e
    congr 1
    refine asc_unique ha.2 hb.2 fun z => ?_
    have hz := h z
    simp only [List.mem_cons] at hz
    constructor
    · intro q
      rcases hz.mp (.inr q) with e | e
      · subst e; have := ha.1 _ q; (first | lia | omega)
      · exact e
    · intro q
      rcases hz.mpr (.inr q) with e | e
      · subst e; have := hb.1 _ q; (first | lia | omega)
      · exact e
theorem NormOf.unique {L L' a b : List Int} (ha : NormOf L a) (hb : NormOf L' b) (h : ∀ x, x ∈ L ↔ x ∈ L') : a = b :=
  asc_unique ha.2 hb.2 fun x => (ha.1 x).trans ((h x).trans (hb.1 x).symm)
theorem Asc.noClash {r : List Int} (h : Asc r) (hz : ∀ x ∈ r, x ≠ 0) : ¬ Clash r := by
  rintro ⟨x, h1, h2⟩
  have h0 := hz x h1
  have : ∀ {r : List Int}, Asc r → ∀ a b, a ∈ r → b ∈ r → a.natAbs = b.natAbs → a = b := by
    intro r
    induction r with
    | nil => intro _ a b ha; cases ha
    | cons y r ih =>
      intro h a b ha hb e
      have h := List.pairwise_cons.mp h
      rcases List.mem_cons.mp ha with ha2 | ha2 <;> rcases List.mem_cons.mp hb with hb2 | hb2
      · rw [ha2, hb2]
      · subst ha2; have := h.1 _ hb2; (first | lia | omega)
      · subst hb2; have := h.1 _ ha2; (first | lia | omega)
      · exact ih h.2 a b ha2 hb2 e
  have := this h x (-x) h1 h2 (by (first | lia | omega))
  (first | lia | omega)
theorem place_run {x : Int} {σ : Hp} (hn : Free 620 σ) : runF 620 1 m_place_of [.int x] σ = some (.tup [.int x.natAbs, .int x], σ) := by
  have e : cut 620 σ = σ := cut_free hn
  have := run_fn (B := 620) (n := 1) (mb := m_place_of) (args := [.int x]) (σ := σ) (f := .ret (.tup [.int x.natAbs, .int x])) (v := .tup [.int x.natAbs, .int x]) (v' := .tup [.int x.natAbs, .int x]) (st' := ⟨fun i => [V.int x][i]?, σ⟩) rfl
    (R.seqRet (R.ret (R.tup (R.cons (R.call (R.cons (R.getL rfl) R.nil) P.abs) (R.cons (R.getL rfl) R.nil)) (R.mkTup rfl (show 2 ≤ lim by decide))))) rfl rfl
  rw [e] at this
  exact this
theorem each_place {loc : Nat → Option V} {σ : Hp} (hn : Free 620 σ) : ∀ (ks : List Int), R (callEach (runF 620 1 m_place_of) (ks.map .int)) ⟨loc, σ⟩ (ks.map fun x => .tup [.int x.natAbs, .int x]) ⟨loc, σ⟩
  | [] => rfl
  | x :: r => .bind (R.callM (place_run hn)) (.bind (each_place hn r) .pure)
theorem pairs_place : ∀ (ks : List Int), pairKeys (ks.map fun x => V.tup [.int x.natAbs, .int x]) = some (ks.map fun x => ((x.natAbs : Int), x))
  | [] => rfl
  | x :: r => by
    rw [List.map_cons]
    unfold pairKeys
    rw [pairs_place r]; rfl
theorem sort_place {ks : List Int} (hnd : ks.Nodup) (hz : ∀ x ∈ ks, x ≠ 0) (hc : ¬ Clash ks) : ∃ r, NormOf ks r ∧ sortP ((ks.map fun x => ((x.natAbs : Int), x)).zip (ks.map V.int)) = r.map V.int := by
  have hzip : (ks.map fun x => ((x.natAbs : Int), x)).zip (ks.map V.int) = ks.map fun x => (((x.natAbs : Int), x), V.int x) := by
    clear hnd hz hc
    induction ks with
    | nil => rfl
    | cons x r ih => simp only [List.map_cons, List.zip_cons_cons, ih]
  unfold sortP
  rw [hzip]
  have pm := List.mergeSort_perm (ks.map fun x => (((x.natAbs : Int), x), V.int x)) (fun a b => !lexLt b.1 a.1)
  have pw := List.pairwise_mergeSort (le := fun a b : (Int × Int) × V => !lexLt b.1 a.1) (fun a b c h1 h2 => by
        simp only [Bool.not_eq_true', lexLt_ff] at *; (first | lia | omega)) (fun a b => by
        cases h1 : lexLt b.1 a.1 with
        | false => rfl
        | true => rw [lexLt_iff] at h1; have : lexLt a.1 b.1 = false := by rw [lexLt_ff]; (first | lia | omega)
                  rw [this]; rfl) (ks.map fun x => (((x.natAbs : Int), x), V.int x))
  generalize (ks.map fun x => (((x.natAbs : Int), x), V.int x)).mergeSort (fun a b => !lexLt b.1 a.1) = l at pm pw
  have hm : ∀ t ∈ l, t = (((t.1.2.natAbs : Int), t.1.2), V.int t.1.2) := fun t ht => by
    obtain ⟨x, _, rfl⟩ := List.mem_map.mp (pm.mem_iff.mp ht); rfl
  refine ⟨l.map (·.1.2), ⟨fun x => ?_, ?_⟩, ?_⟩
  · have := (pm.map (·.1.2)).mem_iff (a := x)
    rw [this, List.map_map]
    have : ((fun t : (Int × Int) × V => t.1.2) ∘ fun x : Int => (((x.natAbs : Int), x), V.int x)) = id := rfl
    rw [this, List.map_id]
  · have nd : (l.map (·.1.2)).Nodup := by
      refine (pm.map (·.1.2)).nodup_iff.mpr ?_
      rw [List.map_map]
      have : ((fun t : (Int × Int) × V => t.1.2) ∘ fun x : Int => (((x.natAbs : Int), x), V.int x)) = id := rfl
      rw [this, List.map_id]; exact hnd
    have nd2 := List.pairwise_map.mp nd
    unfold Asc
    rw [List.pairwise_map]
    refine (pw.and nd2).imp_of_mem fun {a b} ha hb h => ?_
    obtain ⟨h1, h2⟩ := h
    have ea := hm a ha
    have eb := hm b hb
    have ka : a.1.2 ∈ ks := by obtain ⟨x, hx, rfl⟩ := List.mem_map.mp (pm.mem_iff.mp ha); exact hx
    have kb : b.1.2 ∈ ks := by obtain ⟨x, hx, rfl⟩ := List.mem_map.mp (pm.mem_iff.mp hb); exact hx
    have hne : b.1.2 ≠ -a.1.2 := fun e => hc ⟨_, ka, e ▸ kb⟩
    have z1 := hz _ ka
    simp only [Bool.not_eq_true', lexLt_ff] at h1
    rw [ea, eb] at h1
    simp only at h1
    (first | lia | omega)
  · rw [List.map_map]
    exact List.map_congr_left fun t ht => by rw [hm t ht]; rfl
noncomputable def SeqIs (v : V) (L : List Int) (σ : Hp) (B : Nat) : Prop := v.stays B = true ∧ ∀ s : St, (∀ n, n < B → s.hp n = σ n) → seqItems v s = some (L.map .int)
theorem SeqIs.lst {L : List Int} {σ : Hp} {B : Nat} : SeqIs (.lst (L.map .int)) L σ B := ⟨rfl, fun _ _ => rfl⟩
theorem SeqIs.tup {L : List Int} {σ : Hp} {B : Nat} : SeqIs (.tup (L.map .int)) L σ B := ⟨rfl, fun _ _ => rfl⟩
theorem SeqIs.ref {n : Nat} {L : List Int} {σ : Hp} {B : Nat} (h : σ n = some (.list (L.map .int))) (hn : n < B) : SeqIs (.ref n) L σ B := ⟨decide_eq_true hn, fun s hs => by unfold seqItems lView; simp only [hs n hn, h]⟩
theorem ints_low (L : List Int) : (L.map V.int).all V.low = true := by simp [V.low]
theorem W.neg {a : Int} {s : St} {Q : V → St → Prop} (k : Q (.int (-a)) s) : Wp (vNeg (.int a)) s Q := ⟨_, _, P.neg, k⟩
theorem W.inD {neg : Bool} {c : V} {x : Int} {kvs : List (Int × V)} {s : St} {Q : V → St → Prop} (h : dView c s = some kvs) (k : Q (.bool ((kvGet kvs x).isSome ^^ neg)) s) : Wp (vIn neg (.int x) c) s Q := ⟨_, _, by unfold R vIn; simp only [h], k⟩
theorem W.setD {n : Nat} {kvs : List (Int × V)} {x : Int} {u : V} {s : St} {Q : Unit → St → Prop} (h : s.hp n = some (.idict kvs)) (hu : u.low = true) (hl : kvs.length < lim) (k : Q () { s with hp := upd s.hp n (some (.idict (kvSet kvs x u))) }) : Wp (setI (.ref n) (.int x) u) s Q := ⟨_, _, P.setD h hu hl, k⟩
theorem clause_run {v : V} {L : List Int} {σ : Hp} (hn : Free 600 σ) (hv : SeqIs v L σ 600) (hl : L.length < 64) (hz : ∀ x ∈ L, x ≠ 0) :
    Ws (runF 600 1 m_clause_of) [v] σ (fun u σ' => σ' = σ ∧ ((Clash L ∧ u = .none) ∨ (¬ Clash L ∧ ∃ r, NormOf L r ∧ u = .tup (r.map .int)))) := by
  have lim64 : 64 < lim := by decide
  refine Ws.fn rfl ?_
  unfold m_clause_of
  refine .seq (.assign (.new (hn 600 (Nat.le_refl _)) ?_))
  refine .seq (.for (.getL rfl ⟨hv.1, ?_⟩))
  refine .forS (xs := L.map .int) (fun i s => i ≤ L.length ∧ s.loc 1 = some (.ref 600) ∧ ∃ kvs, s.hp = upd σ 600 (some (.idict kvs)) ∧ (kvs.map (·.1)).Nodup ∧ (∀ x, x ∈ kvs.map (·.1) ↔ x ∈ L.take i) ∧ ¬ Clash (L.take i)) ?_ ?_ ?_ ?_
  · exact ⟨Nat.zero_le _, rfl, [], rfl, List.nodup_nil, fun x => by simp, fun ⟨x, h, _⟩ => by simp at h⟩
  · rintro i s ⟨_, _, kvs, h, _⟩
    exact hv.2 s fun n q => by rw [h, upd_ne _ _ (by (first | lia | omega))]
  · rintro i s x ⟨hi, h1, kvs, h2, nd, hm, hc⟩ hx
    rw [List.getElem?_map] at hx
    obtain ⟨y, hy, rfl⟩ := Option.map_eq_some_iff.mp hx
    have hlt : i < L.length := (List.getElem?_eq_some_iff.mp hy).1
    have htk : L.take (i + 1) = L.take i ++ [y] := by rw [List.take_add_one, hy]; rfl
    have hz2 : y ≠ 0 := hz y (List.mem_of_getElem? hy)
    have hk : s.hp 600 = some (.idict kvs) := by rw [h2, upd_same]
    refine .setL (.seq (.ite (.tcmp (.op1 (.getL (v := .int y) rfl (W.neg ?_))))))
    refine .getL (v := .ref 600) h1 (W.inD (kvs := kvs) (by unfold dView; simp only [hk]) (.asBool ⟨fun hb => ?_, fun hb => ?_⟩))
    · -- the contrary is there
      rw [Bool.xor_false] at hb
      refine .seq (.ret (.pure ?_))
      refine ⟨.none, .none, rfl, rfl, ?_, .inl ⟨?_, rfl⟩⟩
      · show cut 600 s.hp = σ
        rw [h2]; exact cut_own hn (Nat.le_refl _)
      · exact ⟨y, List.mem_of_getElem? hy, List.mem_of_mem_take ((hm _).mp ((kv_keys_some _ _).mp hb))⟩
    · rw [Bool.xor_false] at hb
      have hno : -y ∉ L.take i := fun q => by rw [(kv_keys_some kvs (-y)).mpr ((hm _).mpr q)] at hb; cases hb
      refine .end (.seq (.assignSub (.pure (.getL (v := .ref 600) h1 (.getL (v := .int y) rfl ?_)))))
      have hkl : kvs.length < lim := by
        have := nodup_length_le nd (b := L) fun x hx => List.mem_of_mem_take ((hm x).mp hx)
        rw [List.length_map] at this; (first | lia | omega)
      refine W.setD hk rfl hkl (.end ?_)
      refine ⟨hlt, ?_, kvSet kvs y (.bool true), ?_, kvSet_nodup _ _ _ nd, fun x => ?_, ?_⟩
      · exact h1
      · show upd s.hp _ _ = _
        rw [h2]; funext m; unfold upd; split <;> rfl
      · rw [kvSet_mem, hm, htk]; simp
      · rintro ⟨x, hx1, hx2⟩
        rw [htk, List.mem_append, List.mem_singleton] at hx1 hx2
        rcases hx1 with hx1 | rfl <;> rcases hx2 with hx2 | hx2
        · exact hc ⟨x, hx1, hx2⟩
        · have : x = -y := by (first | lia | omega)
          exact hno (this ▸ hx1)
        · exact hno hx2
        · (first | lia | omega)
  · rintro s ⟨hi, h1, kvs, h2, nd, hm, hc⟩
    rw [List.length_map, List.take_length] at hm hc
    have hk : s.hp 600 = some (.idict kvs) := by rw [h2, upd_same]
    have hkl : (kvs.map (·.1)).length ≤ L.length := nodup_length_le nd fun x hx => (hm x).mp hx
    have hcoll : collItems (.ref 600) s = some ((kvs.map (·.1)).map .int) := by unfold collItems; simp only [hk, List.map_map]; rfl
    have hf : Free 620 s.hp := by rw [h2]; exact (hn.mono (by decide)).upd (by decide)
    obtain ⟨r, hr1, hr2⟩ := sort_place nd (fun x hx => hz x ((hm x).mp hx)) (fun ⟨x, h1, h2⟩ => hc ⟨x, (hm _).mp h1, (hm _).mp h2⟩)
    have hrl : r.length ≤ L.length := nodup_length_le hr1.2.nodup fun x hx => (hm x).mp ((hr1.1 x).mp hx)
    refine .seq (.ret (.call (.cons (.sortedK (.getL h1 (Wp.ofR (a := .lst (r.map .int)) (s' := s) ?_ (.nil ?_)))))))
    · unfold R bSortedK
      rw [hcoll]
      simp only [List.length_map]
      rw [if_pos (by rw [List.length_map] at hkl; (first | lia | omega))]
      refine R.bind (each_place (loc := s.loc) hf (kvs.map (·.1))) ?_
      rw [pairs_place]
      refine R.bind (a := ()) (.guard (decide_eq_true ?_)) ?_
      · rw [List.nodup_iff_pairwise_ne, List.pairwise_map]
        exact nd.imp fun h e => h (Prod.mk.inj e).2
      · rw [hr2]
        exact R.mkLst (ints_low _) (by rw [List.length_map]; (first | lia | omega))
    · refine Wp.ofR (a := .tup (r.map .int)) (s' := s) ?_ ?_
      · unfold R bTuple
        exact R.mkTup (ints_low _) (by rw [List.length_map]; (first | lia | omega))
      · refine ⟨_, _, rfl, rfl, ?_, .inr ⟨hc, r, ⟨fun x => (hr1.1 x).trans (hm x), hr1.2⟩, rfl⟩⟩
        show cut 600 s.hp = σ
        rw [h2]; exact cut_own hn (Nat.le_refl _)
end L04
end Lay
end

section
open PySem PySem.W PyProof.Rows
set_option Elab.async false
set_option linter.unusedVariables false
namespace Lay
theorem pys_ints : ∀ L : List Int, V.pys (L.map .int) = some (L.map .int)
  | [] => rfl
  | x :: r => by rw [List.map_cons]; unfold V.pys; rw [pys_ints r]; rfl
theorem shaped_list_ints (L : List Int) : SeqAt.shaped (.list (L.map PyData.int)) = true := ke_shaped_ints L
theorem shaped_tup_ints (L : List Int) : SeqAt.shaped (.tuple (L.map PyData.int)) = true := by
  simp [SeqAt.shaped, PyData.canLay0, PyData.depth, ke_canLayAll0, ke_depthAll]
theorem any_ints (L : List Int) (x : Int) : ((L.map PyData.int).any fun y => PyData.eqv y (.int x)) = decide (x ∈ L) := by
  induction L with
  | nil => rfl
  | cons y r ih =>
    rw [List.map_cons, List.any_cons, ih]
    simp only [PyData.eqv, List.mem_cons]
    by_cases h : y = x
    · subst h; simp
    · have : ¬ x = y := fun e => h e.symm
      simp [h, this]
theorem eqv_ints : ∀ (a b : List Int), PyData.eqvAll (a.map PyData.int) (b.map PyData.int) = decide (a = b)
  | [], [] => rfl
  | [], _ :: _ => rfl
  | _ :: _, [] => rfl
  | x :: a, y :: b => by
    simp only [List.map_cons, PyData.eqvAll, PyData.eqv, eqv_ints a b]
    by_cases h : x = y <;> simp [h]
namespace L04
noncomputable def IsSeq (v : V) (L : List Int) (s : St) : Prop := lView v s = some (L.map .int) ∨ v = .tup (L.map .int)
theorem IsSeq.data {v : V} {L : List Int} {s : St} (h : IsSeq v L s) : dView v s = none ∧ (∀ n, v = .ref n → ∃ xs, s.hp n = some (.list xs)) ∧ (dataOf v s = some (.list (L.map PyData.int)) ∨ dataOf v s = some (.tuple (L.map PyData.int))) := by
  rcases h with h | rfl
  · unfold lView at h
    split at h
    · cases h
      refine ⟨rfl, nofun, .inl ?_⟩
      unfold dataOf V.py; simp only [pys_ints]; rfl
    · split at h
      · rename_i n _ xs q
        cases h
        refine ⟨by unfold dView; simp only [q], fun m e => ⟨_, by cases e; exact q⟩, .inl ?_⟩
        unfold dataOf; simp only [q, pys_ints]; rfl
      · cases h
    · cases h
  · refine ⟨rfl, nofun, .inr ?_⟩
    unfold dataOf V.py; simp only [pys_ints]; rfl
theorem W.inL {neg : Bool} {c : V} {x : Int} {L : List Int} {s : St} {Q : V → St → Prop} (h : IsSeq c L s) (k : Q (.bool (decide (x ∈ L) ^^ neg)) s) : Wp (vIn neg (.int x) c) s Q := by
  obtain ⟨h1, h2, h3⟩ := h.data
  refine ⟨_, _, ?_, k⟩
  have hd : dataOf (.int x) s = some (.int x) := rfl
  have e1 : ∀ d : PyData, d = .list (L.map PyData.int) ∨ d = .tuple (L.map PyData.int) → (SeqAt.shaped (.int x) && SeqAt.shaped d) = true := by
    rintro d (rfl | rfl)
    · rw [shaped_list_ints]; rfl
    · rw [shaped_tup_ints]; rfl
  unfold R vIn
  rw [h1]
  simp only
  rw [hd]
  rcases h3 with h3 | h3
  · rw [h3]; simp only; rw [if_pos (e1 _ (.inl rfl)), any_ints]
  · rw [h3]; simp only; rw [if_pos (e1 _ (.inr rfl)), any_ints]
noncomputable def Oc : Option (List Int) → V
  | none => .none
  | some r => .tup (r.map .int)
theorem W.eqO {neg : Bool} {a b : Option (List Int)} {s : St} {Q : V → St → Prop} (k : Q (.bool (decide (a = b) ^^ neg)) s) : Wp (vEq neg (Oc a) (Oc b)) s Q := by
  refine ⟨_, _, ?_, k⟩
  have dn : dataOf (Oc none) s = some .none := rfl
  have ds : ∀ r, dataOf (Oc (some r)) s = some (.tuple (r.map PyData.int)) := fun r => by
    show V.py (.tup (r.map .int)) = _
    simp only [V.py, pys_ints]; rfl
  have sn : SeqAt.shaped .none = true := rfl
  unfold R vEq
  cases a <;> cases b <;> simp only [dn, ds, sn, shaped_tup_ints, Bool.and_self, if_true]
  · simp [PyData.eqv]
  · simp [PyData.eqv]
  · simp [PyData.eqv]
  · simp only [PyData.eqv, eqv_ints, Option.some.injEq]
theorem W.isNone {neg : Bool} {a : Option (List Int)} {s : St} {Q : V → St → Prop} (k : Q (.bool (a.isNone ^^ neg)) s) : Wp (vIsNone neg (Oc a) .none) s Q := by
  cases a with
  | none => exact ⟨_, _, rfl, k⟩
  | some r => exact ⟨_, _, rfl, k⟩
theorem W.abs {a : Int} {s : St} {Q : V → St → Prop} (k : Q (.int a.natAbs) s) : Wp (bAbs [.int a]) s Q := ⟨_, _, P.abs, k⟩
theorem W.addL {v u : V} {a b : List V} {s : St} {Q : V → St → Prop} (h1 : lView v s = some a) (h2 : lView u s = some b) (hl : (a ++ b).all V.low = true) (hn : (a ++ b).length ≤ lim) (k : Q (.lst (a ++ b)) s) : Wp (vAdd none v u) s Q := by
  refine ⟨_, _, ?_, k⟩
  unfold R vAdd
  split
  · cases h1
  · rw [h1, h2]; exact R.mkLst hl hn
theorem W.rev {v : V} {a : List V} {s : St} {Q : V → St → Prop} (h1 : lView v s = some a) (hl : a.all V.low = true) (hn : a.length ≤ lim) (k : Q (.lst a.reverse) s) : Wp (vBack none v (.int (-1))) s Q := by
  refine ⟨_, _, ?_, k⟩
  unfold R vBack
  rw [h1]
  simp only
  rw [if_pos ⟨trivial, hn⟩]
  exact R.mkLst (by rw [List.all_reverse]; exact hl) (by rw [List.length_reverse]; exact hn)
theorem W.tuple {v : V} {a : List V} {s : St} {Q : V → St → Prop} (h1 : lView v s = some a) (hl : a.all V.low = true) (hn : a.length ≤ lim) (k : Q (.tup a) s) : Wp (bTuple [v]) s Q := by
  refine ⟨_, _, ?_, k⟩
  unfold R bTuple
  simp only [h1]
  exact R.mkTup hl hn
theorem W.sorted {v : V} {L : List Int} {s : St} {Q : V → St → Prop} (h1 : collItems v s = some (L.map .int)) (hn : L.length < 64) (k : Q (.lst ((sortI L).map .int)) s) : Wp (bSorted none [v]) s Q := by
  refine ⟨_, _, ?_, k⟩
  unfold R bSorted
  simp only [h1, ints_map, if_pos hn]
  refine R.mkLst (ints_low _) ?_
  rw [List.length_map, (sortI_perm L).length_eq]
  exact Nat.le_trans (Nat.le_of_lt hn) (by decide)
theorem W.item {v : V} {xs : List V} {k : Int} {u : V} {s : St} {Q : V → St → Prop} (hv : lView v s = some xs ∨ v = .tup xs) (h0 : 0 ≤ k) (hk : k < 2 ^ 40) (hu : xs[k.toNat]? = some u) (q : Q u s) : Wp (vItem v (.int k)) s Q := by
  have hlt := (List.getElem?_eq_some_iff.mp hu).1
  rcases hv with h | rfl
  · refine ⟨_, _, P.item_l (j := k.toNat) (fun ys e => by subst e; cases h) h (by (first | lia | omega)) (idx_nat h0 (by (first | lia | omega))) hu, q⟩
  · exact ⟨_, _, P.item_t (j := k.toNat) (by (first | lia | omega)) (idx_nat h0 (by (first | lia | omega))) hu, q⟩
noncomputable def Fed (xs : List Int) (n : Nat) (σ : Hp) : Prop := ∃ k : Int, 0 ≤ k ∧ k ≤ n ∧ σ 100 = some (feedO xs k)
theorem draw_ws {xs : List Int} {n : Nat} {many : Int} {σ : Hp} (hF : Fed xs n σ) (hk : n < 2 ^ 40) (hl : xs.length ≤ 60) (hm : 0 < many) (hn : Free 580 σ) :
    Ws (runF 580 2 m__law_draw) [.ref 100, .int many] σ (fun v σ' => ∃ r k, v = .int r ∧ 0 ≤ r ∧ r < many ∧ (0 ≤ k ∧ k ≤ ((n + 1 : Nat) : Int)) ∧ σ' = upd σ 100 (some (feedO xs k))) := by
  obtain ⟨k, h0, h1, h2⟩ := hF
  obtain ⟨r, h3, h4, h5⟩ := draw_run h2 h0 (by (first | lia | omega)) hl hm hn (by decide)
  exact ⟨_, _, h5, r, k + 1, rfl, h3, h4, by (first | lia | omega), rfl⟩
inductive DueI (v : V) (L T : List Int) (σ : Hp) (i : Nat) (s : St) : Prop
  | mk (h1 : s.hp = σ) (h2 : s.loc 0 = some v) (f : List Int) (h3 : s.loc 1 = some (.lst (f.map .int))) (h4 : Asc f) (h5 : f.length ≤ i) (h6 : (∀ x, x ∈ f ↔ x ∈ L ∧ ((x.natAbs : Nat) : Int) ∈ T.take i)) (h7 : (∀ x ∈ T.take i, x ∈ L → -x ∉ L))
theorem due_run {v : V} {L : List Int} {σ : Hp} (hn : Free 360 σ) (hv : SeqIs v L σ 360) (hs : ∀ loc, IsSeq v L ⟨loc, σ⟩) (hl : L.length < 64) (hz : ∀ x ∈ L, x ≠ 0) :
    Ws (runF 360 1 m__law_due) [v] σ (fun u σ' => σ' = σ ∧ ((Clash L ∧ u = .none) ∨ (¬ Clash L ∧ ∃ r, NormOf L r ∧ u = .tup (r.map .int)))) := by
  refine Ws.fn rfl ?_
  unfold m__law_due
  have hlim : 64 ≤ lim := by decide
  refine .seq (.assign (.list (.nil (.mkLst rfl (Nat.zero_le _) ?_))))
  refine .seq (.for (.call (.cons (.comp (.getL (v := v) rfl ⟨?_, ?_⟩)))))
  · have := hv.1
    cases v with
    | ref n => simp only [V.stays, decide_eq_true_eq] at *; (first | lia | omega)
    | _ => rfl
  refine .compM (xs := L.map .int) (fun i acc s => s.hp = σ ∧ s.loc 0 = some v ∧ s.loc 1 = some (.lst []) ∧ acc = ((L.take i).map fun x => ((x.natAbs : Nat) : Int)).map V.int) ?_ ?_ ?_ ?_
  · exact ⟨rfl, rfl, rfl, rfl⟩
  · rintro i acc s ⟨h, _⟩; exact hv.2 s fun n _ => by rw [h]
  · rintro i acc s x ⟨h1, h2, h3, h4⟩ hx
    rw [List.getElem?_map] at hx
    obtain ⟨y, hy, rfl⟩ := Option.map_eq_some_iff.mp hx
    have hlt : i < L.length := (List.getElem?_eq_some_iff.mp hy).1
    refine .and0 ⟨nofun, fun _ => .call (.cons (.getL (v := .int y) rfl (.nil (W.abs ?_))))⟩
    refine ⟨rfl, ?_, h1, h2, h3, ?_⟩
    · rw [h4]; simp only [List.length_map, List.length_take]; (first | lia | omega)
    · rw [h4, List.take_add_one, hy]; simp
  · rintro acc s ⟨h1, h2, h3, h4⟩
    rw [List.length_map, List.take_length] at h4
    subst h4
    refine .mkLst (ints_low _) (by simp only [List.length_map]; (first | lia | omega)) (.nil (W.sorted (L := L.map fun x => ((x.natAbs : Nat) : Int)) rfl (by rw [List.length_map]; exact hl) ⟨rfl, ?_⟩))
    have hsm : ∀ x, x ∈ sortI (L.map fun x => ((x.natAbs : Nat) : Int)) ↔ ∃ y ∈ L, ((y.natAbs : Nat) : Int) = x := fun x => by rw [(sortI_perm _).mem_iff, List.mem_map]
    have hsp := sortI_sorted (L.map fun x => ((x.natAbs : Nat) : Int))
    have hsl : (sortI (L.map fun x => ((x.natAbs : Nat) : Int))).length = L.length := by rw [(sortI_perm _).length_eq, List.length_map]
    generalize sortI (L.map fun x => ((x.natAbs : Nat) : Int)) = T at hsm hsp hsl
    have hsq : ∀ s : St, s.hp = σ → IsSeq v L s := fun s e => by have := hs s.loc; rw [← e] at this; exact this
    refine .forS (xs := T.map .int) (DueI v L T σ) ?_ ?_ ?_ ?_
    · exact ⟨h1, h2, [], h3, List.Pairwise.nil, Nat.le_refl _, fun x => by simp, fun x hx => by simp at hx⟩
    · rintro i s ⟨h, _⟩; rfl
    · rintro i s x ⟨h1, h2, f, h3, ha, hfl, hm, hc⟩ hx
      rw [List.getElem?_map] at hx
      obtain ⟨y, hy, rfl⟩ := Option.map_eq_some_iff.mp hx
      have hlt : i < T.length := (List.getElem?_eq_some_iff.mp hy).1
      have hy0 : 0 ≤ y := by obtain ⟨z, _, e⟩ := (hsm y).mp (List.mem_of_getElem? hy); (first | lia | omega)
      have htk : T.take (i + 1) = T.take i ++ [y] := by rw [List.take_add_one, hy]; rfl
      have hle : ∀ x ∈ T.take i, x ≤ y := fun x hx => by
        obtain ⟨j, hj, rfl⟩ := List.mem_iff_getElem.mp hx
        rw [List.length_take] at hj
        rw [List.getElem_take]
        have : T[i] = y := by have := (List.getElem?_eq_some_iff.mp hy).2; exact this
        rw [← this]
        exact List.pairwise_iff_getElem.mp hsp j i (by (first | lia | omega)) hlt (by (first | lia | omega))
      have key : ∀ (Rt : V → St → Prop) (one : Int), one ∈ L → ((one.natAbs : Nat) : Int) = y → -one ∉ L → Wp (M.seq (Y.assign 1 (X.ife (X.tcmp (vIn false) (M.getL 2) (M.getL 1)) (M.getL 1) (X.op2 (vAdd none) (M.getL 1) (X.list none (X.cons (M.getL 2) X.nil))))) (Y.end))
          ⟨upd (upd s.loc 3 (some (.int y))) 2 (some (.int one)), s.hp⟩ (fun f s2 => match f with | .next => DueI v L T σ (i + 1) s2 | .cont => DueI v L T σ (i + 1) s2 | .brk => False | .ret v => Rt v s2) := fun Rt one h4 h5 h6 => by
        have hc2 : ∀ x ∈ T.take (i + 1), x ∈ L → -x ∉ L := fun x hx => by
          rw [htk, List.mem_append, List.mem_singleton] at hx
          rcases hx with hx | rfl
          · exact hc x hx
          · intro q1 q2
            have : one = x ∨ one = -x := by (first | lia | omega)
            rcases this with rfl | rfl
            · exact h6 q2
            · rw [Int.neg_neg] at h6; exact h6 q1
        refine .seq (.assign (.ife (.tcmp (.getL (v := .int one) rfl (.getL (v := .lst (f.map .int)) h3 (W.inL (L := f) (.inl rfl) (.asBool ⟨fun hb => .getL (v := .lst (f.map .int)) h3 (.end ?_), fun hb => .op2 (.getL (v := .lst (f.map .int)) h3 (.list (.cons (.getL (v := .int one) rfl (.nil (.mkLst rfl (show 1 ≤ lim by decide) (W.addL (a := f.map .int) (b := [.int one]) rfl rfl ?_ ?_ (.end ?_))))))))⟩)))))))
        · rw [Bool.xor_false, decide_eq_true_eq] at hb
          refine ⟨h1, h2, f, rfl, ha, by (first | lia | omega), fun x => ?_, hc2⟩
          rw [hm, htk, List.mem_append, List.mem_singleton]
          constructor
          · exact fun q => ⟨q.1, .inl q.2⟩
          · rintro ⟨q1, q2 | q2⟩
            · exact ⟨q1, q2⟩
            · have : x = one ∨ x = -one := by (first | lia | omega)
              rcases this with rfl | rfl
              · exact (hm x).mp hb
              · exact absurd q1 h6
        · simp [V.low]
        · simp only [List.length_append, List.length_map, List.length_cons, List.length_nil]; (first | lia | omega)
        · rw [Bool.xor_false, decide_eq_false_iff_not] at hb
          refine ⟨h1, h2, f ++ [one], by rw [List.map_append]; rfl, ?_, by simp only [List.length_append, List.length_cons, List.length_nil]; (first | lia | omega), fun x => ?_, hc2⟩
          · unfold Asc
            rw [List.pairwise_append]
            refine ⟨ha, List.pairwise_singleton _ _, fun x hx z hz => ?_⟩
            rw [List.mem_singleton] at hz
            subst hz
            obtain ⟨q1, q2⟩ := (hm x).mp hx
            have := hle _ q2
            have : x ≠ z := fun e => hb (e ▸ hx)
            have : x ≠ -z := fun e => h6 (e ▸ q1)
            (first | lia | omega)
          · rw [List.mem_append, List.mem_singleton, hm, htk, List.mem_append, List.mem_singleton]
            constructor
            · rintro (q | rfl)
              · exact ⟨q.1, .inl q.2⟩
              · exact ⟨h4, .inr h5⟩
            · rintro ⟨q1, q2 | q2⟩
              · exact .inl ⟨q1, q2⟩
              · have : x = one ∨ x = -one := by (first | lia | omega)
                rcases this with rfl | rfl
                · exact .inr rfl
                · exact absurd q1 h6
      have hsq' := hsq ⟨upd s.loc 3 (some (.int y)), s.hp⟩ h1
      refine .setL (.seq (.ite (.and1 (.tcmp (.getL (v := .int y) rfl (.getL (v := v) h2 (W.inL hsq' (.asBool ⟨fun hb => ?_, fun hb => ?_⟩))))))))
      · rw [Bool.xor_false, decide_eq_true_eq] at hb
        refine .and1 (.tcmp (.op1 (.getL (v := .int y) rfl (W.neg (.getL (v := v) h2 (W.inL hsq' (.asBool ⟨fun hb2 => .and0 ⟨fun _ => ?_, nofun⟩, fun hb2 => ⟨nofun, fun _ => ?_⟩⟩)))))))
        · rw [Bool.xor_false, decide_eq_true_eq] at hb2
          exact .seq (.ret (.pure ⟨_, _, rfl, rfl, by show cut 360 s.hp = σ; rw [h1]; exact cut_free hn, .inl ⟨⟨y, hb, hb2⟩, rfl⟩⟩))
        · rw [Bool.xor_false, decide_eq_false_iff_not] at hb2
          refine .end (.seq (.assign (.ife (.tcmp (.getL (v := .int y) rfl (.getL (v := v) h2 (W.inL hsq' (.asBool ⟨fun _ => .getL (v := .int y) rfl (key _ y hb (by (first | lia | omega)) hb2), fun q => ?_⟩))))))))
          rw [Bool.xor_false, decide_eq_false_iff_not] at q; exact absurd hb q
      · rw [Bool.xor_false, decide_eq_false_iff_not] at hb
        have hny : -y ∈ L := by
          obtain ⟨z, hz, e⟩ := (hsm y).mp (List.mem_of_getElem? hy)
          have : z = y ∨ z = -y := by (first | lia | omega)
          rcases this with rfl | rfl
          · exact absurd hz hb
          · exact hz
        refine ⟨nofun, fun _ => .end (.seq (.assign (.ife (.tcmp (.getL (v := .int y) rfl (.getL (v := v) h2 (W.inL hsq' (.asBool ⟨fun q => ?_, fun q => .op1 (.getL (v := .int y) rfl (W.neg (key _ (-y) hny (by (first | lia | omega)) (by rw [Int.neg_neg]; exact hb))))⟩))))))))⟩
        rw [Bool.xor_false, decide_eq_true_eq] at q; exact absurd q hb
    · rintro s ⟨h1, h2, f, h3, ha, hfl, hm, hc⟩
      rw [List.length_map] at hfl hm hc
      rw [List.take_length] at hm hc
      have hall : ∀ x ∈ L, ((x.natAbs : Nat) : Int) ∈ T := fun x hx => (hsm _).mpr ⟨x, hx, rfl⟩
      refine .seq (.ret (.call (.cons (.getL h3 (.nil (W.tuple (a := f.map .int) rfl (ints_low _) (by rw [List.length_map]; (first | lia | omega)) ⟨_, _, rfl, rfl, by show cut 360 s.hp = σ; rw [h1]; exact cut_free hn, .inr ⟨?_, f, ⟨fun x => (hm x).trans ⟨fun q => q.1, fun q => ⟨q, hall x q⟩⟩, ha⟩, rfl⟩⟩))))))
      rintro ⟨x, q1, q2⟩
      rcases Int.le_total 0 x with h0 | h0
      · exact hc x (by have := hall x q1; rwa [show ((x.natAbs : Nat) : Int) = x by (first | lia | omega)] at this) q1 q2
      · exact hc (-x) (by have := hall x q1; rwa [show ((x.natAbs : Nat) : Int) = -x by (first | lia | omega)] at this) q2 (by rw [Int.neg_neg]; exact q1)
end L04
end Lay
end

section
open PySem PySem.W PyProof.Rows
set_option Elab.async false
set_option linter.unusedVariables false
namespace Lay
namespace L04
theorem rng_items {a b : Int} {s : St} (h0 : a.natAbs < 2 ^ 40) (h1 : b.natAbs < 2 ^ 40) : seqItems (.rng a b 1) s = some ((List.range (b - a).toNat).map fun (i : Nat) => V.int (a + i)) := by
  have e : Builtin.Range.rangeSize a b 1 = ((b - a).toNat : Int) := by
    unfold Builtin.Range.rangeSize
    rw [if_pos (by decide)]
    split <;> (first | lia | omega)
  have hs : Builtin.Range.small a b 1 = true := small_one (by (first | lia | omega)) (by (first | lia | omega)) (by (first | lia | omega)) (by (first | lia | omega))
  unfold seqItems rView
  simp only [hs, if_true]
  unfold rngItems
  rw [e, Int.toNat_natCast]
  simp only [Int.mul_one]
theorem rng_get {a b : Int} {i : Nat} {x : V} (h : ((List.range (b - a).toNat).map fun (i : Nat) => V.int (a + i))[i]? = some x) : x = .int (a + i) ∧ a + i < b := by
  rw [List.getElem?_map] at h
  obtain ⟨y, hy, rfl⟩ := Option.map_eq_some_iff.mp h
  obtain ⟨h1, h2⟩ := List.getElem?_eq_some_iff.mp hy
  rw [List.getElem_range] at h2
  rw [List.length_range] at h1
  subst h2
  exact ⟨rfl, by (first | lia | omega)⟩
noncomputable def Res (L : List Int) : Option (List Int) → Prop
  | none => Clash L
  | some r => ¬ Clash L ∧ NormOf L r
theorem Clash.congr {L L' : List Int} (h : Clash L) (e : ∀ x, x ∈ L ↔ x ∈ L') : Clash L' := by
  obtain ⟨x, h1, h2⟩ := h; exact ⟨x, (e _).mp h1, (e _).mp h2⟩
theorem Res.unique {L L' : List Int} {o o' : Option (List Int)} (h : Res L o) (h' : Res L' o') (e : ∀ x, x ∈ L ↔ x ∈ L') : o = o' := by
  cases o <;> cases o'
  · rfl
  · exact absurd (Clash.congr h e) h'.1
  · exact absurd (Clash.congr h' fun x => (e x).symm) h.1
  · rw [NormOf.unique h.2 h'.2 e]
theorem W.clauseC {v : V} {L : List Int} {s : St} {Q : V → St → Prop} (hn : Free 600 s.hp) (hv : SeqIs v L s.hp 600) (hl : L.length < 64) (hz : ∀ x ∈ L, x ≠ 0) (k : ∀ o, Res L o → Q (Oc o) s) : Wp (callM (runF 600 1 m_clause_of) [v]) s Q := by
  refine .callM ((clause_run hn hv hl hz).mono fun u σ' ⟨h1, h2⟩ => ?_)
  subst h1
  rcases h2 with ⟨h2, rfl⟩ | ⟨h2, r, h3, rfl⟩
  · exact k none h2
  · exact k (some r) ⟨h2, h3⟩
theorem W.dueC {v : V} {L : List Int} {s : St} {Q : V → St → Prop} (hn : Free 360 s.hp) (hv : SeqIs v L s.hp 360) (hs : IsSeq v L s) (hl : L.length < 64) (hz : ∀ x ∈ L, x ≠ 0) (k : ∀ o, Res L o → Q (Oc o) s) : Wp (callM (runF 360 1 m__law_due) [v]) s Q := by
  refine .callM ((due_run hn hv (fun loc => by
    rcases hs with h | h
    · refine .inl ?_
      unfold lView at *
      exact h
    · exact .inr h) hl hz).mono fun u σ' ⟨h1, h2⟩ => ?_)
  subst h1
  rcases h2 with ⟨h2, rfl⟩ | ⟨h2, r, h3, rfl⟩
  · exact k none h2
  · exact k (some r) ⟨h2, h3⟩
theorem W.draw {xs : List Int} {n i : Nat} {many : Int} {s : St} {Q : V → St → Prop} (hi : s.loc i = some (.ref 100)) (hF : Fed xs n s.hp) (hk : n < 2 ^ 40) (hl : xs.length ≤ 60) (hm : 0 < many) (hn : Free 580 s.hp)
    (k : ∀ r k : Int, 0 ≤ r → r < many → 0 ≤ k → k ≤ ((n + 1 : Nat) : Int) → Q (.int r) { s with hp := upd s.hp 100 (some (feedO xs k)) }) : Wp (X.call (callM (runF 580 2 m__law_draw)) (X.cons (M.getL i) (X.cons (pure (.int many)) X.nil))) s Q := by
  refine .call (.cons (.getL hi (.cons (.pure (.nil (.callM ((draw_ws hF hk hl hm hn).mono ?_)))))))
  rintro v σ' ⟨r, k', rfl, h1, h2, h3, rfl⟩
  exact k r k' h1 h2 h3.1 h3.2
theorem W.add {a b : Int} {c : Option Nat} {s : St} {Q : V → St → Prop} (k : Q (.int (a + b)) s) : Wp (vAdd c (.int a) (.int b)) s Q := ⟨_, _, P.add, k⟩
theorem W.sub {a b : Int} {s : St} {Q : V → St → Prop} (k : Q (.int (a - b)) s) : Wp (vSub (.int a) (.int b)) s Q := ⟨_, _, P.sub, k⟩
theorem W.mul {a b : Int} {s : St} {Q : V → St → Prop} (h : a.natAbs < 2 ^ 63 ∨ b.natAbs < 2 ^ 63) (k : Q (.int (a * b)) s) : Wp (vMul (.int a) (.int b)) s Q := ⟨_, _, P.mul h, k⟩
theorem W.mod {a b : Int} {s : St} {Q : V → St → Prop} (h : 0 < b) (k : Q (.int (a % b)) s) : Wp (vMod (.int a) (.int b)) s Q := ⟨_, _, P.mod (by (first | lia | omega)), by rw [Int.fmod_eq_emod_of_nonneg _ (by (first | lia | omega))]; exact k⟩
theorem W.fdiv {a b : Int} {s : St} {Q : V → St → Prop} (h : 0 < b) (h2 : b < 2 ^ 60) (k : Q (.int (a / b)) s) : Wp (vFloorDiv (.int a) (.int b)) s Q := ⟨_, _, P.fdiv (by (first | lia | omega)) (by (first | lia | omega)), by rw [Int.fdiv_eq_ediv_of_nonneg _ (by (first | lia | omega))]; exact k⟩
theorem W.pow {a b : Int} {s : St} {Q : V → St → Prop} (h : 0 ≤ b) (h2 : (Builtin.Int.intBits a : Int) * b ≤ 2 ^ 27) (k : Q (.int (a ^ b.toNat)) s) : Wp (vPow (.int a) (.int b)) s Q := ⟨_, _, R.bind (a := ()) (R.guard (by simp only [decide_eq_true h, decide_eq_true h2, Bool.and_self])) R.pure, k⟩
theorem W.range1 {b : Int} {s : St} {Q : V → St → Prop} (k : Q (.rng 0 b 1) s) : Wp (bRange [.int b]) s Q := ⟨_, _, rfl, k⟩
theorem W.range2 {a b : Int} {s : St} {Q : V → St → Prop} (k : Q (.rng a b 1) s) : Wp (bRange [.int a, .int b]) s Q := ⟨_, _, rfl, k⟩
theorem isLst_ref {n : Nat} {xs : List V} {s : St} (h : s.hp n = some (.list xs)) : isLst (.ref n) s = true := by unfold isLst lView; simp only [h]; rfl
theorem W.app {n : Nat} {xs : List V} {u : V} {s : St} {Q : V → St → Prop} (h : s.hp n = some (.list xs)) (hu : u.low = true) (hl : xs.length < lim) (k : Q .none { s with hp := upd s.hp n (some (.list (xs ++ [u]))) }) : Wp (mApp [.ref n, u]) s Q := by
  refine ⟨_, _, ?_, k⟩
  unfold R mApp
  simp only [h, if_pos (And.intro hu hl)]
theorem upd_upd {β : Type} {f : Nat → Option β} {n : Nat} {a b : Option β} : upd (upd f n a) n b = upd f n b := by funext m; unfold upd; split <;> rfl
theorem upd_comm {β : Type} {f : Nat → Option β} {n m : Nat} {a b : Option β} (h : n ≠ m) : upd (upd f n a) m b = upd (upd f m b) n a := by
  funext k; unfold upd
  by_cases h1 : k = m <;> by_cases h2 : k = n
  · exact absurd (h2.symm.trans h1) h
  · rw [if_pos h1, if_neg h2, if_pos h1]
  · rw [if_neg h1, if_pos h2, if_pos h2]
  · rw [if_neg h1, if_neg h2, if_neg h2, if_neg h1]
inductive PlainI (xs : List Int) (n : Nat) (σ : Hp) (i : Nat) (s : St) : Prop
  | mk (h1 : s.loc 0 = some (.ref 100)) (k : Int) (o : Option O) (h2 : 0 ≤ k) (h3 : k ≤ ((n + 8 * i : Nat) : Int)) (h4 : s.hp = upd (upd σ 100 (some (feedO xs k))) 180 o)
inductive PlainJ (xs : List Int) (n : Nat) (σ : Hp) (g : Int) (i : Nat) (s : St) : Prop
  | mk (h1 : s.loc 0 = some (.ref 100)) (h2 : s.loc 2 = some (.int g)) (h3 : s.loc 3 = some (.ref 180)) (k : Int) (L : List Int) (h4 : 0 ≤ k) (h5 : k ≤ ((n + i : Nat) : Int)) (h6 : L.length = i) (h7 : (∀ x ∈ L, x ≠ 0)) (h8 : s.hp = upd (upd σ 100 (some (feedO xs k))) 180 (some (.list (L.map .int))))
theorem plain_ws {xs : List Int} {n : Nat} {σ : Hp} (hF : Fed xs n σ) (hk : n + 100 < 2 ^ 40) (hl : xs.length ≤ 60) (hn : Free 180 σ) :
    Ws (runF 180 1 m__law_is_plain_right) [.ref 100] σ (fun v σ' => v = .bool true ∧ ∃ k : Int, 0 ≤ k ∧ k ≤ ((n + 16 : Nat) : Int) ∧ σ' = upd σ 100 (some (feedO xs k))) := by
  have l1 : 1 ≤ lim := by decide
  have l3 : 3 ≤ lim := by decide
  have l64 : 64 ≤ lim := by decide
  refine Ws.fn rfl ?_
  unfold m__law_is_plain_right
  refine .seq (.ite (.or1 (.tcmp (.call (.cons (.list (.cons (.pure (.cons (.pure (.cons (.op1 (.pure (W.neg (.nil (.mkLst rfl l3 (.nil (W.clauseC (L := [3, 1, -3]) (hn.mono (by decide)) (SeqIs.lst (L := [3, 1, -3])) (by decide) (by decide) fun o ho => .pure (W.isNone (.asBool ⟨fun hb => ?_, fun hb => ?_⟩))))))))))))))))))))
  · exfalso
    cases o with
    | none => cases hb
    | some r => exact ho.1 ⟨3, by decide, by decide⟩
  · refine .or1 (.tcmp (.call (.cons (.list (.nil (.mkLst rfl (Nat.zero_le _) (.nil (W.clauseC (L := []) (hn.mono (by decide)) (SeqIs.lst (L := [])) (by decide) (by decide) fun o ho => .tup (.nil (.mkTup rfl (Nat.zero_le _) (W.eqO (b := some []) (.asBool ⟨fun hb => ?_, fun hb => .or0 ⟨nofun, fun _ => .end ?_⟩⟩))))))))))))
    · exfalso
      have : o = some [] := ho.unique (L' := []) (o' := some []) ⟨(fun ⟨x, h, _⟩ => nomatch h), (fun x => Iff.rfl), List.Pairwise.nil⟩ fun x => Iff.rfl
      subst this
      simp at hb
    obtain ⟨k0, h0, h1, hσ⟩ := hF
    refine .seq (.for (.call (.cons (.pure (.nil (W.range1 ⟨rfl, ?_⟩))))))
    refine .forS (xs := _) (PlainI xs n σ) ⟨rfl, k0, none, h0, by (first | lia | omega), ?_⟩ (fun i s _ => rng_items (by decide) (by decide)) ?_ ?_
    · funext m
      by_cases e : m = 180
      · subst e; rw [upd_same]; exact hn 180 (Nat.le_refl _)
      · rw [upd_ne _ _ e]
        by_cases e2 : m = 100
        · subst e2; rw [upd_same]; exact hσ
        · rw [upd_ne _ _ e2]
    · rintro i s x ⟨h1, k, o, h2, h3, h4⟩ hx
      obtain ⟨rfl, hi⟩ := rng_get hx
      have hf : ∀ k o, Free 360 (upd (upd σ 100 (some (feedO xs k))) 180 o) := fun k o => ((hn.mono (by decide)).upd (by decide)).upd (by decide)
      have fd : ∀ (k : Int) (m : Nat) o, 0 ≤ k → k ≤ m → Fed xs m (upd (upd σ 100 (some (feedO xs k))) 180 o) := fun k m o a b => ⟨k, a, b, by rw [upd_ne _ _ (by decide), upd_same]⟩
      have uu : ∀ k k' o, upd (upd (upd σ 100 (some (feedO xs k))) 180 o) 100 (some (feedO xs k')) = upd (upd σ 100 (some (feedO xs k'))) 180 o := fun k k' o => by rw [upd_comm (by decide), upd_upd, upd_comm (by decide)]
      refine .setL (.seq (.assign (.op2 (.list (.cons (.pure (.cons (.op2 (.op2 (.pure (.pure (W.pow (by decide) (by decide) (.pure (W.add (.nil (.mkLst rfl (show 2 ≤ lim by decide) (W.draw (n := n + 8 * i) (many := 2) h1 (by show Fed xs _ s.hp; rw [h4]; exact fd _ _ _ h2 h3) (by (first | lia | omega)) hl (by decide) (by show Free _ s.hp; rw [h4]; exact (hf _ _).mono (by decide)) fun r k2 a1 a2 a3 a4 => ?_)))))))))))))))))
      obtain ⟨g, hg, hget⟩ : ∃ g : Int, 1 ≤ g ∧ [V.int 1, V.int (10 ^ (30 : Int).toNat + 7)][r.toNat]? = some (.int g) := by
        have : r = 0 ∨ r = 1 := by (first | lia | omega)
        rcases this with rfl | rfl
        · exact ⟨1, by (first | lia | omega), rfl⟩
        · exact ⟨_, by decide, rfl⟩
      refine W.item (.inl rfl) a1 (by (first | lia | omega)) hget ?_
      refine .seq (.kill (.assign (.list (.nil (.mkLstS rfl (Nat.zero_le _) rfl ?_)))))
      try dsimp only
      have e0 : upd (upd (upd s.hp 100 (some (feedO xs k2))) 180 none) 180 (some (O.list [])) = upd (upd σ 100 (some (feedO xs k2))) 180 (some (.list [])) := by rw [h4, uu, upd_upd, upd_upd]
      rw [e0]
      have d0 : dropRefs 180 (upd (upd s.loc 1 (some (V.int (0 + ↑i)))) 2 (some (V.int g))) 0 = some (.ref 100) := by
        unfold dropRefs
        have : upd (upd s.loc 1 (some (V.int (0 + ↑i)))) 2 (some (V.int g)) 0 = some (.ref 100) := h1
        rw [this]; rfl
      have d2 : dropRefs 180 (upd (upd s.loc 1 (some (V.int (0 + ↑i)))) 2 (some (V.int g))) 2 = some (.int g) := rfl
      generalize dropRefs 180 (upd (upd s.loc 1 (some (V.int (0 + ↑i)))) 2 (some (V.int g))) = loc at d0 d2
      refine .seq (.for (.call (.cons (W.draw (n := n + 8 * i + 1) (many := 7) d0 (fd _ _ _ a3 a4) (by (first | lia | omega)) hl (by decide) ((hf _ _).mono (by decide)) fun m k3 b1 b2 b3 b4 => .nil (W.range1 ⟨rfl, ?_⟩)))))
      try dsimp only
      rw [uu]
      refine .forS (xs := _) (PlainJ xs (n + 8 * i + 2) σ g) ⟨d0, d2, rfl, k3, [], b3, b4, rfl, (fun _ h => nomatch h), rfl⟩ (fun i s _ => rng_items (by decide) (by (first | lia | omega))) ?_ ?_
      · rintro j s x ⟨h1, h2, h3, k, L, h4, h5, h6, h7, h8⟩ hx
        obtain ⟨rfl, hj⟩ := rng_get hx
        refine .setL (.seq (.assign (W.draw (n := n + 8 * i + 2 + j) (many := 8) h1 (by show Fed xs _ s.hp; rw [h8]; exact fd _ _ _ h4 h5) (by (first | lia | omega)) hl (by decide) (by show Free _ s.hp; rw [h8]; exact (hf _ _).mono (by decide)) fun d k4 c1 c2 c3 c4 => ?_)))
        try dsimp only
        rw [h8, uu]
        refine .seq (.expr (.meth (.getL (v := .ref 180) h3 ⟨isLst_ref (xs := L.map .int) rfl, .cons (.op2 (.op2 (.op2 (.getL (v := .int d) rfl (.pure (W.fdiv (by decide) (by decide) (.getL (v := .int g) h2 (W.add (.op2 (.pure (.op2 (.pure (.op2 (.getL (v := .int d) rfl (.pure (W.mod (by decide) (W.mul (.inl (by decide)) (W.sub (W.mul (.inr (by (first | lia | omega))) (.nil (W.app (xs := L.map .int) rfl rfl (by rw [List.length_map]; exact Nat.lt_of_lt_of_le (show L.length < 64 by (first | lia | omega)) l64) (.end ?_))))))))))))))))))))))⟩)))
        refine ⟨h1, h2, h3, k4, L ++ [(d / 2 + g) * (1 - 2 * (d % 2))], c3, c4, by simp [h6], ?_, ?_⟩
        · intro y hy
          rcases List.mem_append.mp hy with hy | hy
          · exact h7 y hy
          · rw [List.mem_singleton] at hy
            subst hy
            exact Int.mul_ne_zero (by (first | lia | omega)) (by (first | lia | omega))
        · dsimp only
          rw [upd_upd, List.map_append]; rfl
      · rintro s ⟨h1, h2, h3, k, L, h4, h5, h6, h7, h8⟩
        rw [List.length_map, List.length_range] at h5 h6
        have hL : L.length < 7 := by (first | lia | omega)
        have hh : s.hp 180 = some (.list (L.map .int)) := by rw [h8, upd_same]
        have hv : ∀ loc, lView (.ref 180) ⟨loc, s.hp⟩ = some (L.map .int) := fun loc => by unfold lView; simp only [hh]
        have hf6 : Free 360 s.hp := by rw [h8]; exact hf _ _
        refine .seq (.assign (.call (.cons (.getL (v := .ref 180) h3 (.nil (W.dueC (L := L) hf6 (SeqIs.ref hh (by decide)) (.inl (hv _)) (by (first | lia | omega)) h7 fun o ho => ?_))))))
        refine .seq (.ite (.or1 (.tcmp (.call (.cons (.getL (v := .ref 180) h3 (.nil (W.clauseC (L := L) (hf6.mono (by decide)) (SeqIs.ref hh (by decide)) (by (first | lia | omega)) h7 fun o2 ho2 => .getL (v := Oc o) rfl (W.eqO (.asBool ⟨fun hb => ?_, fun hb => ?_⟩))))))))))
        · have := ho2.unique ho fun x => Iff.rfl
          subst this
          simp at hb
        · refine .or1 (.tcmp (.call (.cons (.op2 (.op2 (.getL (v := .ref 180) h3 (.op1 (.pure (W.neg (W.rev (hv _) (ints_low _) (by rw [List.length_map]; (first | lia | omega)) (.getL (v := .ref 180) h3 (W.addL rfl (hv _) ?_ ?_ (.nil (W.clauseC (L := L.reverse ++ L) (hf6.mono (by decide)) ?_ ?_ ?_ fun o3 ho3 => .getL (v := Oc o) rfl (W.eqO (.asBool ⟨fun hb => ?_, fun hb => .or0 ⟨nofun, fun _ => .end ?_⟩⟩))))))))))))))))
          · rw [← List.map_reverse, ← List.map_append]; exact ints_low _
          · simp only [List.length_append, List.length_reverse, List.length_map]; (first | lia | omega)
          · rw [← List.map_reverse, ← List.map_append]; exact SeqIs.lst
          · simp only [List.length_append, List.length_reverse]; (first | lia | omega)
          · intro x hx; simp at hx; exact h7 x hx
          · have := ho3.unique ho fun x => by simp
            subst this
            simp at hb
          have fin : PlainI xs n σ (i + 1) ⟨upd s.loc 6 (some (Oc o)), s.hp⟩ := ⟨h1, k, _, h4, by (first | lia | omega), h8⟩
          cases o with
          | none => exact .seq (.ite (.and1 (.tcmp (.getL (v := Oc none) rfl (.pure (W.isNone (.asBool ⟨nofun, fun _ => ⟨nofun, fun _ => .end (.end fin)⟩⟩)))))))
          | some r =>
            have hrl : r.length ≤ L.length := nodup_length_le ho.2.2.nodup fun x hx => (ho.2.1 x).mp hx
            have hrz : ∀ x ∈ r, x ≠ 0 := fun x hx => h7 x ((ho.2.1 x).mp hx)
            refine .seq (.ite (.and1 (.tcmp (.getL (v := Oc (some r)) rfl (.pure (W.isNone (.asBool ⟨fun _ => .and1 (.tcmp (.call (.cons (.getL (v := Oc (some r)) rfl (.nil (W.clauseC (L := r) (hf6.mono (by decide)) SeqIs.tup (by (first | lia | omega)) hrz fun o4 ho4 => .getL (v := Oc (some r)) rfl (W.eqO (.asBool ⟨fun hb => ?_, fun _ => ⟨nofun, fun _ => .end (.end fin)⟩⟩)))))))), nofun⟩)))))))
            have := ho4.unique (L' := r) (o' := some r) ⟨ho.2.2.noClash hrz, fun x => Iff.rfl, ho.2.2⟩ fun x => Iff.rfl
            subst this
            simp at hb
    · rintro s ⟨h1, k, o, h2, h3, h4⟩
      refine .seq (.ret (.pure ⟨_, _, rfl, rfl, rfl, k, h2, h3, ?_⟩))
      show cut 180 s.hp = _
      rw [h4]
      exact cut_own (hn.upd (by decide)) (Nat.le_refl _)
end L04
end Lay
end

section
open PySem PySem.W PyProof.Rows
set_option Elab.async false
set_option linter.unusedVariables false
namespace Lay
namespace L04
theorem W.filt {α : Type} {RS : List α} {emb e : α → V} {p : α → Bool} {T j : Nat} {mi : M V} {mt : M Bool} {me : M V} {s : St} {Q : V → St → Prop}
    (hi : Wp mi s (fun v s1 => v.stays T = true ∧ s1 = s ∧ ∀ s' : St, s'.hp = s.hp → seqItems v s' = some (RS.map emb)))
    (ht : ∀ a ∈ RS, ∀ s' : St, s'.hp = s.hp → (∀ k, k ≠ j → s'.loc k = s.loc k) → s'.loc j = some (emb a) → Wp mt s' (fun b s2 => b = p a ∧ s2 = s'))
    (he : ∀ a ∈ RS, p a = true → ∀ s' : St, s'.hp = s.hp → (∀ k, k ≠ j → s'.loc k = s.loc k) → s'.loc j = some (emb a) → Wp me s' (fun y s2 => y = e a ∧ s2 = s'))
    (low : ∀ a ∈ RS, (e a).low = true) (len : RS.length ≤ lim) (k : ∀ s' : St, s'.hp = s.hp → (∀ k, k ≠ j → s'.loc k = s.loc k) → Q (.lst ((RS.filter p).map e)) s') : Wp (X.comp none T j mi mt me) s Q := by
  refine .comp (hi.mono ?_)
  rintro v s1 ⟨h1, rfl, h2⟩
  refine ⟨h1, .compM (xs := RS.map emb) (fun i acc s' => s'.hp = s1.hp ∧ (∀ k, k ≠ j → s'.loc k = s1.loc k) ∧ acc = ((RS.take i).filter p).map e) ?_ ?_ ?_ ?_⟩
  · exact ⟨rfl, fun _ _ => rfl, by simp⟩
  · rintro i acc s' ⟨h, _⟩; exact h2 s' h
  · rintro i acc s' x ⟨a1, a2, a3⟩ hx
    rw [List.getElem?_map] at hx
    obtain ⟨y, hy, rfl⟩ := Option.map_eq_some_iff.mp hx
    have hm := List.mem_of_getElem? hy
    have hlt : i < RS.length := (List.getElem?_eq_some_iff.mp hy).1
    have htk : RS.take (i + 1) = RS.take i ++ [y] := by rw [List.take_add_one, hy]; rfl
    have b2 : ∀ k, k ≠ j → upd s'.loc j (some (emb y)) k = s1.loc k := fun k hk => by rw [upd_ne _ _ hk]; exact a2 k hk
    refine (ht y hm ⟨upd s'.loc j (some (emb y)), s'.hp⟩ a1 b2 (upd_same _ _ _)).mono ?_
    rintro b s2 ⟨rfl, rfl⟩
    refine ⟨fun hb => ⟨a1, b2, ?_⟩, fun hb => (he y hm hb ⟨upd s'.loc j (some (emb y)), s'.hp⟩ a1 b2 (upd_same _ _ _)).mono ?_⟩
    · rw [htk, List.filter_append, a3]; simp [hb]
    · rintro z s3 ⟨rfl, rfl⟩
      refine ⟨low y hm, ?_, a1, b2, ?_⟩
      · rw [a3, List.length_map]
        have := List.length_filter_le p (RS.take i)
        rw [List.length_take] at this; (first | lia | omega)
      · rw [htk, List.filter_append, a3]; simp [hb]
  · rintro acc s' ⟨a1, a2, a3⟩
    rw [List.length_map, List.take_length] at a3
    subst a3
    refine .mkLst ?_ ?_ (k _ a1 fun k hk => by show upd _ _ _ _ = _; rw [upd_ne _ _ hk]; exact a2 k hk)
    · rw [List.all_eq_true]
      intro x hx
      obtain ⟨y, hy, rfl⟩ := List.mem_map.mp hx
      exact low y (List.mem_filter.mp hy).1
    · rw [List.length_map]
      exact Nat.le_trans (List.length_filter_le _ _) len
noncomputable def NRow (N : Nat) (r : List Int) : Prop := Asc r ∧ ∀ x ∈ r, 1 ≤ x.natAbs ∧ x.natAbs ≤ N
noncomputable def allCl : Nat → List (List Int)
  | 0 => [[]]
  | n + 1 => allCl n ++ (allCl n).map (· ++ [((n + 1 : Nat) : Int)]) ++ (allCl n).map (· ++ [-((n + 1 : Nat) : Int)])
theorem allCl_length : ∀ n, (allCl n).length = 3 ^ n
  | 0 => rfl
  | n + 1 => by unfold allCl; simp only [List.length_append, List.length_map, allCl_length n]; (first | lia | omega)
theorem NRow.mem_all : ∀ {N : Nat} {r : List Int}, NRow N r → r ∈ allCl N
  | 0, r, h => by
    cases r with
    | nil => exact List.mem_singleton.mpr rfl
    | cons x r => have := h.2 x (List.mem_cons_self ..); (first | lia | omega)
  | n + 1, r, h => by
    unfold allCl
    rw [List.mem_append, List.mem_append]
    by_cases e : ∀ x ∈ r, x.natAbs ≤ n
    · exact .inl (.inl (NRow.mem_all ⟨h.1, fun x hx => ⟨(h.2 x hx).1, e x hx⟩⟩))
    · rcases List.eq_nil_or_concat r with rfl | ⟨q, x, rfl⟩
      · exact absurd (fun x hx => nomatch hx) e
      · rw [List.concat_eq_append] at h e ⊢
        have hp := List.pairwise_append.mp h.1
        have hx := h.2 x (by simp)
        have hq : ∀ y ∈ q, y.natAbs < x.natAbs := fun y hy => hp.2.2 y hy x (List.mem_singleton.mpr rfl)
        have hxn : x.natAbs = n + 1 := by
          refine Classical.byContradiction fun hne => e fun y hy => ?_
          rcases List.mem_append.mp hy with hy | hy
          · have := hq y hy; (first | lia | omega)
          · rw [List.mem_singleton] at hy; subst hy; (first | lia | omega)
        have hqm : q ∈ allCl n := NRow.mem_all ⟨hp.1, fun y hy => ⟨(h.2 y (List.mem_append_left _ hy)).1, by have := hq y hy; (first | lia | omega)⟩⟩
        have : x = ((n + 1 : Nat) : Int) ∨ x = -((n + 1 : Nat) : Int) := by (first | lia | omega)
        rcases this with rfl | rfl
        · exact .inl (.inr (List.mem_map.mpr ⟨q, hqm, rfl⟩))
        · exact .inr (List.mem_map.mpr ⟨q, hqm, rfl⟩)
theorem rows_bound {N : Nat} {RS : List (List Int)} (hnd : RS.Nodup) (h : ∀ r ∈ RS, NRow N r) : RS.length ≤ 3 ^ N := by
  rw [← allCl_length]
  exact nodup_length_le hnd fun r hr => (h r hr).mem_all
theorem NRow.length {N : Nat} {r : List Int} (h : NRow N r) : r.length ≤ N := by
  have : (r.map Int.natAbs).Nodup := by
    rw [List.nodup_iff_pairwise_ne, List.pairwise_map]
    exact h.1.imp fun a b => by (first | lia | omega)
  have h2 := nodup_length_le this (b := (List.range (N + 1)).tail) fun x hx => by
    obtain ⟨y, hy, rfl⟩ := List.mem_map.mp hx
    have := h.2 y hy
    rw [List.range_succ_eq_map, List.tail_cons, List.mem_map]
    exact ⟨y.natAbs - 1, List.mem_range.mpr (by (first | lia | omega)), by (first | lia | omega)⟩
  simpa using h2
theorem NRow.nz {N : Nat} {r : List Int} (h : NRow N r) : ∀ x ∈ r, x ≠ 0 := fun x hx e => by have := h.2 x hx; subst e; simp at this
end L04
end Lay
end

section
open PySem PySem.W PyProof.Rows
set_option Elab.async false
set_option linter.unusedVariables false
namespace Lay
namespace L04
noncomputable def tupI (r : List Int) : V := .tup (r.map V.int)
noncomputable def Kept (v : Int) (RS : List (List Int)) (r : List Int) : Prop := r ∈ RS ∧ v ∉ r ∧ -v ∉ r
noncomputable def Mixed (v : Int) (a b r : List Int) : Prop := Res (a.filter (fun x => decide (x ≠ v)) ++ b.filter (fun x => decide (x ≠ -v))) (some r)
noncomputable def Cut1 (v : Int) (RS : List (List Int)) (r : List Int) : Prop := Kept v RS r ∨ ∃ a ∈ RS, v ∈ a ∧ ∃ b ∈ RS, -v ∈ b ∧ Mixed v a b r
theorem Mixed.nrow {N : Nat} {v : Int} {a b r : List Int} (ha : NRow N a) (hb : NRow N b) (h : Mixed v a b r) : NRow N r := by
  refine ⟨h.2.2, fun x hx => ?_⟩
  rcases List.mem_append.mp ((h.2.1 x).mp hx) with q | q
  · exact ha.2 x (List.mem_filter.mp q).1
  · exact hb.2 x (List.mem_filter.mp q).1
theorem Cut1.nrow {N : Nat} {v : Int} {RS : List (List Int)} {r : List Int} (h : ∀ r ∈ RS, NRow N r) (c : Cut1 v RS r) : NRow N r := by
  rcases c with c | ⟨a, ha, _, b, hb, _, c⟩
  · exact h r c.1
  · exact c.nrow (h a ha) (h b hb)
theorem pairs_tups (l : List (List Int)) : pairsBy tupPair (l.map fun r => V.tup [tupI r, .bool true]) = some (l.map fun r => (r, V.bool true)) := by
  induction l with
  | nil => rfl
  | cons r l ih =>
    rw [List.map_cons]
    unfold pairsBy
    rw [ih]
    have : tupPair (V.tup [tupI r, .bool true]) = some (r, .bool true) := by
      unfold tupPair tupI
      simp only [ints_map, V.low]
    rw [this]; rfl
theorem foldSet_keys {K : Type} [DecidableEq K] (ps : List (K × V)) : ((foldSet ps).map (·.1)).Nodup ∧ ∀ x, x ∈ (foldSet ps).map (·.1) ↔ x ∈ ps.map (·.1) := by
  unfold foldSet
  suffices h : ∀ (ps d : List (K × V)), (d.map (·.1)).Nodup → ((ps.foldl (fun d kv => kvSet d kv.1 kv.2) d).map (·.1)).Nodup ∧ ∀ x, x ∈ (ps.foldl (fun d kv => kvSet d kv.1 kv.2) d).map (·.1) ↔ x ∈ d.map (·.1) ∨ x ∈ ps.map (·.1) by
    have := h ps [] List.nodup_nil
    exact ⟨this.1, fun x => by rw [this.2]; simp⟩
  intro ps
  induction ps with
  | nil => intro d hd; exact ⟨hd, fun x => by simp⟩
  | cons p ps ih =>
    intro d hd
    have := ih (kvSet d p.1 p.2) (kvSet_nodup _ _ _ hd)
    refine ⟨this.1, fun x => ?_⟩
    rw [List.foldl_cons, this.2, kvSet_mem, List.map_cons, List.mem_cons]
    constructor
    · rintro ((h | h) | h)
      · exact .inl h
      · exact .inr (.inl h)
      · exact .inr (.inr h)
    · rintro (h | h | h)
      · exact .inl (.inl h)
      · exact .inl (.inr h)
      · exact .inr h
theorem W.setT {n : Nat} {kvs : List (List Int × V)} {l : List Int} {u : V} {s : St} {Q : Unit → St → Prop} (h : s.hp n = some (.tdict kvs)) (hu : u.low = true) (hl : kvs.length < lim) (k : Q () { s with hp := upd s.hp n (some (.tdict (kvSet kvs l u))) }) : Wp (setI (.ref n) (tupI l) u) s Q := ⟨_, _, P.setT h (ints_map l) hu hl, k⟩
inductive TakeI (RS : List (List Int)) (v : Int) (σ : Hp) (D : List Int → Prop) (s : St) : Prop
  | mk (h0 : s.loc 0 = some (.lst (RS.map tupI))) (h1 : s.loc 1 = some (.int v)) (h3 : s.loc 3 = some (.ref 140)) (kvs : List (List Int × V)) (e : s.hp = upd σ 140 (some (.tdict kvs))) (nd : (kvs.map (·.1)).Nodup) (d : ∀ r, r ∈ kvs.map (·.1) ↔ D r)
noncomputable def TkA (RS : List (List Int)) (v : Int) (i : Nat) (r : List Int) : Prop := Kept v RS r ∨ ∃ a ∈ (RS.filter fun r => decide (v ∈ r)).take i, ∃ b ∈ RS, -v ∈ b ∧ Mixed v a b r
noncomputable def TkB (RS : List (List Int)) (v : Int) (i : Nat) (a : List Int) (j : Nat) (r : List Int) : Prop := TkA RS v i r ∨ ∃ b ∈ (RS.filter fun r => decide (-v ∈ r)).take j, Mixed v a b r
inductive TakeJ (RS : List (List Int)) (v : Int) (σ : Hp) (i : Nat) (a : List Int) (j : Nat) (s : St) : Prop
  | mk (h2 : s.loc 2 = some (tupI a)) (h : TakeI RS v σ (TkB RS v i a j) s)
theorem W.eqI {neg : Bool} {a b : Int} {s : St} {Q : V → St → Prop} (k : Q (.bool (decide (a = b) ^^ neg)) s) : Wp (vEq neg (.int a) (.int b)) s Q := by
  refine ⟨_, _, ?_, k⟩
  have h : ∀ x : Int, dataOf (.int x) s = some (.int x) := fun x => rfl
  have h2 : ∀ x : Int, SeqAt.shaped (.int x) = true := fun x => rfl
  unfold R vEq
  simp only [h, h2, Bool.and_self, if_true, PyData.eqv]
  rfl
theorem taken_ws {RS : List (List Int)} {N : Nat} {v : Int} {σ : Hp} (hN : N ≤ 12) (hr : ∀ r ∈ RS, NRow N r) (hlen : RS.length ≤ lim) (hn : Free 140 σ) :
    Ws (runF 140 2 m__law_taken_out) [.lst (RS.map tupI), .int v] σ (fun u σ' => σ' = σ ∧ ∃ RS' : List (List Int), u = .lst (RS'.map tupI) ∧ RS'.Nodup ∧ ∀ r, r ∈ RS' ↔ Cut1 v RS r) := by
  have l2 : 2 ≤ lim := by decide
  have l64 : 64 ≤ lim := by decide
  have bound : ∀ (kvs : List (List Int × V)), (kvs.map (·.1)).Nodup → (∀ r ∈ kvs.map (·.1), NRow N r) → kvs.length < lim := fun kvs h1 h2 => by
    have := rows_bound h1 h2
    rw [List.length_map] at this
    have h3 : 3 ^ N ≤ 3 ^ 12 := Nat.pow_le_pow_right (by decide) hN
    have : (3 ^ 12 : Nat) < lim := by decide
    (first | lia | omega)
  have lowT : ∀ r : List Int, (tupI r).low = true := fun _ => rfl
  refine Ws.fn rfl ?_
  unfold m__law_taken_out
  refine .seq (.assign (.call (.cons (W.filt (RS := RS) (emb := tupI) (e := fun r => V.tup [tupI r, .bool true]) (p := fun r => decide (v ∉ r) && decide (-v ∉ r)) (.getL (v := .lst (RS.map tupI)) rfl ⟨rfl, rfl, fun _ _ => rfl⟩) ?_ ?_ (fun _ _ => rfl) hlen fun s h1 h2 => .nil ?_))))
  · intro r hrr s a1 a2 a3
    have h1 : s.loc 1 = some (.int v) := (a2 1 (by decide))
    refine .and1 (.tcmp (.getL h1 (.getL a3 (W.inL (.inr rfl) (.asBool ⟨fun hb => .and1 (.tcmp (.op1 (.getL h1 (W.neg (.getL a3 (W.inL (.inr rfl) (.asBool ⟨fun hb2 => .and0 ⟨?_, rfl⟩, fun hb2 => ⟨?_, rfl⟩⟩))))))), fun hb => ⟨?_, rfl⟩⟩)))))
    · simp only [Bool.xor_true, Bool.not_eq_true', decide_eq_false_iff_not] at hb hb2; simp [hb, hb2]
    · simp only [Bool.xor_true, Bool.not_eq_true', Bool.not_eq_false', decide_eq_true_eq, decide_eq_false_iff_not] at hb hb2; simp [hb2]
    · simp only [Bool.xor_true, Bool.not_eq_false', decide_eq_true_eq] at hb; simp [hb]
  · intro r hrr _ s a1 a2 a3
    exact .tup (.cons (.getL a3 (.cons (.pure (.nil (.mkTup rfl l2 ⟨rfl, rfl⟩))))))
  have h0 : s.loc 0 = some (.lst (RS.map tupI)) := h2 0 (by decide)
  have hv1 : s.loc 1 = some (.int v) := h2 1 (by decide)
  dsimp only at h1
  clear h2
  refine Wp.ofR (a := .ref 140) (s' := ⟨s.loc, upd s.hp 140 (some (.tdict (foldSet ((RS.filter fun r => decide (v ∉ r) && decide (-v ∉ r)).map fun r => (r, V.bool true)))))⟩) ?_ ?_
  · unfold R bDictT lView
    simp only [pairs_tups, List.length_map]
    rw [if_pos (Nat.le_trans (List.length_filter_le _ _) hlen)]
    exact R.new (by rw [h1]; exact hn 140 (Nat.le_refl _))
  have fk := foldSet_keys ((RS.filter fun r => decide (v ∉ r) && decide (-v ∉ r)).map fun r => (r, V.bool true))
  generalize foldSet ((RS.filter fun r => decide (v ∉ r) && decide (-v ∉ r)).map fun r => (r, V.bool true)) = kv0 at fk
  have fk2 : ∀ r, r ∈ kv0.map (·.1) ↔ Kept v RS r := fun r => by
    rw [fk.2, List.map_map]
    have : ((fun p : List Int × V => p.1) ∘ fun r => (r, V.bool true)) = id := rfl
    rw [this, List.map_id, List.mem_filter]
    simp [Kept]
  try dsimp only
  refine .seq (.for (W.filt (RS := RS) (emb := tupI) (e := tupI) (p := fun r => decide (v ∈ r)) (.getL (v := .lst (RS.map tupI)) h0 ⟨rfl, rfl, fun _ _ => rfl⟩) ?_ ?_ (fun _ _ => rfl) hlen fun s2 h3 h4 => ⟨rfl, ?_⟩))
  · intro r hrr s a1 a2 a3
    have h1 : s.loc 1 = some (.int v) := (a2 1 (by decide)).trans hv1
    exact .tcmp (.getL h1 (.getL a3 (W.inL (.inr rfl) (.asBool ⟨by simp, rfl⟩))))
  · intro r hrr _ s a1 a2 a3
    exact .getL a3 ⟨rfl, rfl⟩
  refine .forS (xs := (RS.filter fun r => decide (v ∈ r)).map tupI) (fun i s => TakeI RS v σ (TkA RS v i) s) ?_ (fun _ _ _ => rfl) ?_ ?_
  · refine ⟨(h4 0 (by decide)).trans h0, (h4 1 (by decide)).trans hv1, (h4 3 (by decide)).trans rfl, kv0, ?_, fk.1, fun r => by rw [fk2]; simp [TkA]⟩
    rw [h3]; dsimp only; rw [h1]
  · rintro i s x hI hx
    rw [List.getElem?_map] at hx
    obtain ⟨a, ha, rfl⟩ := Option.map_eq_some_iff.mp hx
    have ham := List.mem_filter.mp (List.mem_of_getElem? ha)
    have htk : (RS.filter fun r => decide (v ∈ r)).take (i + 1) = (RS.filter fun r => decide (v ∈ r)).take i ++ [a] := by rw [List.take_add_one, ha]; rfl
    obtain ⟨h0, hv1, h3, kvs, h5, h6, h7⟩ := hI
    refine .setL (.seq (.for (W.filt (RS := RS) (emb := tupI) (e := tupI) (p := fun r => decide (-v ∈ r)) (.getL (v := .lst (RS.map tupI)) h0 ⟨rfl, rfl, fun _ _ => rfl⟩) ?_ ?_ (fun _ _ => rfl) hlen fun s3 g3 g4 => ⟨rfl, ?_⟩)))
    · intro r hrr s a1 a2 a3
      have h1 : s.loc 1 = some (.int v) := (a2 1 (by decide)).trans hv1
      exact .tcmp (.op1 (.getL h1 (W.neg (.getL a3 (W.inL (.inr rfl) (.asBool ⟨by simp, rfl⟩))))))
    · intro r hrr _ s a1 a2 a3
      exact .getL a3 ⟨rfl, rfl⟩
    refine .forS (xs := (RS.filter fun r => decide (-v ∈ r)).map tupI) (TakeJ RS v σ i a) ?_ (fun _ _ _ => rfl) ?_ ?_
    · refine ⟨(g4 2 (by decide)).trans rfl, (g4 0 (by decide)).trans h0, (g4 1 (by decide)).trans hv1, (g4 3 (by decide)).trans h3, kvs, g3.trans h5, h6, fun r => by rw [h7]; simp [TkB]⟩
    · rintro j s x ⟨k2, k0, k1, k3, kvs, k5, k6, k7⟩ hx
      rw [List.getElem?_map] at hx
      obtain ⟨b, hb, rfl⟩ := Option.map_eq_some_iff.mp hx
      have hbm := List.mem_filter.mp (List.mem_of_getElem? hb)
      have htk2 : (RS.filter fun r => decide (-v ∈ r)).take (j + 1) = (RS.filter fun r => decide (-v ∈ r)).take j ++ [b] := by rw [List.take_add_one, hb]; rfl
      have na := hr a ham.1
      have nb := hr b hbm.1
      have la := na.length
      have lb := nb.length
      have lfa := List.length_filter_le (fun x => decide (x ≠ v)) a
      have lfb := List.length_filter_le (fun x => decide (x ≠ -v)) b
      have keyN : ∀ r ∈ kvs.map (·.1), NRow N r := fun r hr' => by
        rcases (k7 r).mp hr' with (q | ⟨a', ha', b', hb', _, q⟩) | ⟨b', hb', q⟩
        · exact hr r q.1
        · exact q.nrow (hr a' (List.mem_filter.mp (List.mem_of_mem_take ha')).1) (hr b' hb')
        · exact q.nrow na (hr b' (List.mem_filter.mp (List.mem_of_mem_take hb')).1)
      refine .setL (.seq (.assign (.call (.cons (.op2 (W.filt (RS := a) (emb := V.int) (e := V.int) (p := fun x => decide (x ≠ v)) (.getL (v := tupI a) k2 ⟨rfl, rfl, fun _ _ => rfl⟩) ?_ ?_ (fun _ _ => rfl) (by (first | lia | omega)) fun s5 g5 g6 => W.filt (RS := b) (emb := V.int) (e := V.int) (p := fun x => decide (x ≠ -v)) (.getL (v := tupI b) (by rw [g6 4 (by decide)]; rfl) ⟨rfl, rfl, fun _ _ => rfl⟩) ?_ ?_ (fun _ _ => rfl) (by (first | lia | omega)) fun s6 g7 g8 => W.addL rfl rfl ?_ ?_ (.nil (W.clauseC (L := a.filter (fun x => decide (x ≠ v)) ++ b.filter (fun x => decide (x ≠ -v))) ?_ ?_ ?_ ?_ fun o ho => ?_))))))))
      · intro y hy s a1 a2 a3
        exact .tcmp (.getL a3 (.getL ((a2 1 (by decide)).trans k1) (W.eqI (.asBool ⟨by simp, rfl⟩))))
      · intro y hy _ s a1 a2 a3
        exact .getL a3 ⟨rfl, rfl⟩
      · intro y hy s a1 a2 a3
        exact .tcmp (.getL a3 (.op1 (.getL ((a2 1 (by decide)).trans ((g6 1 (by decide)).trans k1)) (W.neg (W.eqI (.asBool ⟨by simp, rfl⟩))))))
      · intro y hy _ s a1 a2 a3
        exact .getL a3 ⟨rfl, rfl⟩
      · rw [← List.map_append]; exact ints_low _
      · simp only [List.length_append, List.length_map]; (first | lia | omega)
      · rw [g7, g5]; dsimp only; rw [k5]; exact (hn.mono (by decide)).upd (by decide)
      · rw [← List.map_append]; exact SeqIs.lst
      · simp only [List.length_append]; (first | lia | omega)
      · intro y hy
        rcases List.mem_append.mp hy with q | q
        · exact na.nz y (List.mem_filter.mp q).1
        · exact nb.nz y (List.mem_filter.mp q).1
      have f0 : s6.loc 0 = some (.lst (RS.map tupI)) := (g8 0 (by decide)).trans ((g6 0 (by decide)).trans k0)
      have f1 : s6.loc 1 = some (.int v) := (g8 1 (by decide)).trans ((g6 1 (by decide)).trans k1)
      have f2 : s6.loc 2 = some (tupI a) := (g8 2 (by decide)).trans ((g6 2 (by decide)).trans k2)
      have f3 : s6.loc 3 = some (.ref 140) := (g8 3 (by decide)).trans ((g6 3 (by decide)).trans k3)
      have fh : s6.hp = upd σ 140 (some (.tdict kvs)) := by rw [g7, g5]; exact k5
      have step : ∀ r, (∃ b' ∈ (RS.filter fun r => decide (-v ∈ r)).take (j + 1), Mixed v a b' r) ↔ (∃ b' ∈ (RS.filter fun r => decide (-v ∈ r)).take j, Mixed v a b' r) ∨ o = some r := fun r => by
        rw [htk2]
        constructor
        · rintro ⟨b', hb', q⟩
          rcases List.mem_append.mp hb' with q2 | q2
          · exact .inl ⟨b', q2, q⟩
          · rw [List.mem_singleton] at q2; subst q2
            exact .inr (ho.unique q fun x => Iff.rfl)
        · rintro (⟨b', hb', q⟩ | rfl)
          · exact ⟨b', List.mem_append_left _ hb', q⟩
          · exact ⟨b, List.mem_append_right _ (List.mem_singleton.mpr rfl), ho⟩
      cases o with
      | none =>
        refine .seq (.ite (.tcmp (.getL (v := Oc none) rfl (.pure (W.isNone (.asBool ⟨nofun, fun _ => .end (.end ?_)⟩))))))
        refine ⟨f2, f0, f1, f3, kvs, fh, k6, fun r => ?_⟩
        rw [k7]; unfold TkB; rw [step]; simp
      | some c =>
        refine .seq (.ite (.tcmp (.getL (v := Oc (some c)) rfl (.pure (W.isNone (.asBool ⟨fun _ => .seq (.assignSub (.pure (.getL (v := .ref 140) f3 (.getL (v := tupI c) rfl (W.setT (kvs := kvs) ?_ rfl (bound kvs k6 keyN) (.end (.end ?_))))))), nofun⟩))))))
        · dsimp only; rw [fh, upd_same]
        · refine ⟨f2, f0, f1, f3, kvSet kvs c (.bool true), ?_, kvSet_nodup _ _ _ k6, fun r => ?_⟩
          · dsimp only; rw [fh, upd_upd]
          · rw [kvSet_mem, k7]; unfold TkB; rw [step, Option.some.injEq]
            constructor
            · rintro (q | rfl)
              · rcases q with q | q
                · exact .inl q
                · exact .inr (.inl q)
              · exact .inr (.inr rfl)
            · rintro (q | q | rfl)
              · exact .inl (.inl q)
              · exact .inl (.inr q)
              · exact .inr rfl
    · rintro s ⟨k2, k0, k1, k3, kvs, k5, k6, k7⟩
      rw [List.length_map] at k7; unfold TkB at k7; rw [List.take_length] at k7
      refine .end ⟨k0, k1, k3, kvs, k5, k6, fun r => ?_⟩
      rw [k7]; unfold TkA; rw [htk]
      try dsimp only
      constructor
      · rintro ((q | ⟨a', q1, q2⟩) | ⟨b, hb, q⟩)
        · exact .inl q
        · exact .inr ⟨a', List.mem_append_left _ q1, q2⟩
        · rw [List.mem_filter] at hb
          exact .inr ⟨a, List.mem_append_right _ (List.mem_singleton.mpr rfl), b, hb.1, by simpa using hb.2, q⟩
      · rintro (q | ⟨a', q1, b, q2, q3, q4⟩)
        · exact .inl (.inl q)
        · rcases List.mem_append.mp q1 with q | q
          · exact .inl (.inr ⟨a', q, b, q2, q3, q4⟩)
          · rw [List.mem_singleton] at q; subst q
            exact .inr ⟨b, List.mem_filter.mpr ⟨q2, by simpa using q3⟩, q4⟩
  · rintro s ⟨a1, a2, a3, kvs, a4, a5, a6⟩
    rw [List.length_map] at a6; unfold TkA at a6; rw [List.take_length] at a6
    have e1 : ∀ r, r ∈ kvs.map (·.1) ↔ Cut1 v RS r := fun r => by
      rw [a6]
      constructor
      · rintro (h | ⟨a, ha, b, hb, hvb, hm⟩)
        · exact .inl h
        · rw [List.mem_filter] at ha
          exact .inr ⟨a, ha.1, by simpa using ha.2, b, hb, hvb, hm⟩
      · rintro (h | ⟨a, ha, hva, b, hb, hvb, hm⟩)
        · exact .inl h
        · exact .inr ⟨a, List.mem_filter.mpr ⟨ha, by simpa using hva⟩, b, hb, hvb, hm⟩
    refine .seq (.ret (.call (.cons (.getL a3 (.nil (Wp.ofR (a := .lst ((kvs.map (·.1)).map tupI)) (s' := s) ?_ ⟨_, _, rfl, rfl, ?_, kvs.map (·.1), rfl, a5, e1⟩))))))
    · unfold R bList
      have hk : s.hp 140 = some (.tdict kvs) := by rw [a4, upd_same]
      simp only [rView, collItems, hk]
      rw [List.map_map]
      refine R.mkLst ?_ ?_
      · rw [List.all_eq_true]; intro x hx; obtain ⟨y, _, rfl⟩ := List.mem_map.mp hx; rfl
      · rw [List.length_map]
        exact Nat.le_of_lt (bound kvs a5 fun r hr' => Cut1.nrow hr ((e1 r).mp hr'))
    · show cut 140 s.hp = σ
      rw [a4]; exact cut_own hn (Nat.le_refl _)
end L04
end Lay
end

section
open PySem PySem.W PyProof.Rows
set_option Elab.async false
set_option linter.unusedVariables false
namespace Lay
namespace L04
noncomputable def Yes (τ : Nat → Bool) (x : Int) : Prop := τ x.natAbs = decide (0 < x)
noncomputable def Sat (τ : Nat → Bool) (RS : List (List Int)) : Prop := ∀ r ∈ RS, ∃ x ∈ r, Yes τ x
theorem Yes.neg {τ : Nat → Bool} {x : Int} (h : x ≠ 0) : Yes τ (-x) ↔ ¬ Yes τ x := by
  unfold Yes
  rw [Int.natAbs_neg]
  by_cases h1 : 0 < x
  · have h2 : ¬ 0 < -x := by (first | lia | omega)
    rw [decide_eq_true h1, decide_eq_false h2]; simp
  · have h2 : 0 < -x := by (first | lia | omega)
    rw [decide_eq_false h1, decide_eq_true h2]; simp
noncomputable def put (τ : Nat → Bool) (n : Nat) (b : Bool) : Nat → Bool := fun m => if m = n then b else τ m
theorem put_yes {τ : Nat → Bool} {n : Nat} {b : Bool} {x : Int} (h : x.natAbs ≠ n) : Yes (put τ n b) x ↔ Yes τ x := by
  unfold Yes put; rw [if_neg h]
theorem dedup (L : List Int) : ∃ D : List Int, D.Nodup ∧ ∀ x, x ∈ D ↔ x ∈ L := by
  have := foldSet_keys (L.map fun x => (x, V.none))
  refine ⟨_, this.1, fun x => ?_⟩
  rw [this.2, List.map_map]
  have : ((fun p : Int × V => p.1) ∘ fun x => (x, V.none)) = id := rfl
  rw [this, List.map_id]
theorem cut_sat {N : Nat} {v : Int} {RS RS' : List (List Int)} (hv : 0 < v) (hr : ∀ r ∈ RS, NRow N r) (h : ∀ r, r ∈ RS' ↔ Cut1 v RS r) : (∃ τ, Sat τ RS') ↔ ∃ τ, Sat τ RS := by
  constructor
  · rintro ⟨τ, hs⟩
    by_cases c1 : Sat (put τ v.natAbs true) RS
    · exact ⟨_, c1⟩
    by_cases c2 : Sat (put τ v.natAbs false) RS
    · exact ⟨_, c2⟩
    exfalso
    unfold Sat at c1 c2
    simp only [Classical.not_forall, not_exists, not_and] at c1 c2
    obtain ⟨b, hb, c1⟩ := c1
    obtain ⟨a, ha, c2⟩ := c2
    have hvb : v ∉ b := fun q => c1 v q (by unfold Yes put; rw [if_pos rfl]; simp [hv])
    have hva : -v ∉ a := fun q => c2 (-v) q (by unfold Yes put; rw [Int.natAbs_neg, if_pos rfl]; have h2 : ¬ 0 < -v := by (first | lia | omega)
                                                rw [decide_eq_false h2])
    have other : ∀ x : Int, x ≠ v → x ≠ -v → x.natAbs ≠ v.natAbs := fun x h1 h2 => by (first | lia | omega)
    have hva2 : v ∈ a := Classical.byContradiction fun q => by
      obtain ⟨x, hx, hy⟩ := hs a ((h a).mpr (.inl ⟨ha, q, hva⟩))
      exact c2 x hx ((put_yes (other x (fun e => q (e ▸ hx)) (fun e => hva (e ▸ hx)))).mpr hy)
    have hvb2 : -v ∈ b := Classical.byContradiction fun q => by
      obtain ⟨x, hx, hy⟩ := hs b ((h b).mpr (.inl ⟨hb, hvb, q⟩))
      exact c1 x hx ((put_yes (other x (fun e => hvb (e ▸ hx)) (fun e => q (e ▸ hx)))).mpr hy)
    have no : ∀ x ∈ a.filter (fun x => decide (x ≠ v)) ++ b.filter (fun x => decide (x ≠ -v)), ¬ Yes τ x := fun x hx => by
      rcases List.mem_append.mp hx with q | q
      · obtain ⟨q1, q2⟩ := List.mem_filter.mp q
        have q2 : x ≠ v := by simpa using q2
        exact fun y => c2 x q1 ((put_yes (other x q2 (fun e => hva (e ▸ q1)))).mpr y)
      · obtain ⟨q1, q2⟩ := List.mem_filter.mp q
        have q2 : x ≠ -v := by simpa using q2
        exact fun y => c1 x q1 ((put_yes (other x (fun e => hvb (e ▸ q1)) q2)).mpr y)
    by_cases cl : Clash (a.filter (fun x => decide (x ≠ v)) ++ b.filter (fun x => decide (x ≠ -v)))
    · obtain ⟨x, h1, h2⟩ := cl
      have hx0 : x ≠ 0 := by
        rcases List.mem_append.mp h1 with q | q
        · exact (hr a ha).nz x (List.mem_filter.mp q).1
        · exact (hr b hb).nz x (List.mem_filter.mp q).1
      exact no _ h2 ((Yes.neg hx0).mpr (no _ h1))
    · have hz : ∀ x ∈ a.filter (fun x => decide (x ≠ v)) ++ b.filter (fun x => decide (x ≠ -v)), x ≠ 0 := fun x hx => by
        rcases List.mem_append.mp hx with q | q
        · exact (hr a ha).nz x (List.mem_filter.mp q).1
        · exact (hr b hb).nz x (List.mem_filter.mp q).1
      obtain ⟨D, hD1, hD2⟩ := dedup (a.filter (fun x => decide (x ≠ v)) ++ b.filter (fun x => decide (x ≠ -v)))
      obtain ⟨r, hr1, _⟩ := sort_place (ks := D) hD1 (fun x hx => hz x ((hD2 x).mp hx)) (fun ⟨x, q1, q2⟩ => cl ⟨x, (hD2 _).mp q1, (hD2 _).mp q2⟩)
      have hr2 : NormOf (a.filter (fun x => decide (x ≠ v)) ++ b.filter (fun x => decide (x ≠ -v))) r := ⟨fun x => (hr1.1 x).trans (hD2 x), hr1.2⟩
      obtain ⟨x, hx, hy⟩ := hs r ((h r).mpr (.inr ⟨a, ha, hva2, b, hb, hvb2, cl, hr2⟩))
      exact no x ((hr2.1 x).mp hx) hy
  · rintro ⟨τ, hs⟩
    refine ⟨τ, fun r hm => ?_⟩
    rcases (h r).mp hm with q | ⟨a, ha, hva, b, hb, hvb, cl, hn⟩
    · exact hs r q.1
    · have hv0 : v ≠ 0 := by (first | lia | omega)
      by_cases c : Yes τ v
      · obtain ⟨x, hx, hy⟩ := hs b hb
        exact ⟨x, (hn.1 x).mpr (List.mem_append_right _ (List.mem_filter.mpr ⟨hx, by
          simp only [decide_eq_true_eq]; rintro rfl; exact (Yes.neg hv0).mp hy c⟩)), hy⟩
      · obtain ⟨x, hx, hy⟩ := hs a ha
        exact ⟨x, (hn.1 x).mpr (List.mem_append_left _ (List.mem_filter.mpr ⟨hx, by
          simp only [decide_eq_true_eq]; rintro rfl; exact c hy⟩)), hy⟩
noncomputable def Uses (P : Nat → Prop) (RS : List (List Int)) : Prop := ∀ r ∈ RS, ∀ x ∈ r, P x.natAbs
theorem cut_uses {N : Nat} {P : Nat → Prop} {v : Int} {RS RS' : List (List Int)} (hv : 0 < v) (hr : ∀ r ∈ RS, NRow N r) (h : ∀ r, r ∈ RS' ↔ Cut1 v RS r) (hu : Uses P RS) : Uses (fun n => P n ∧ n ≠ v.natAbs) RS' := by
  intro r hm x hx
  have noc : ∀ r ∈ RS, ¬ (v ∈ r ∧ -v ∈ r) := fun r h ⟨q1, q2⟩ => (hr r h).1.noClash (hr r h).nz ⟨v, q1, q2⟩
  have other : x ≠ v → x ≠ -v → x.natAbs ≠ v.natAbs := fun h1 h2 => by (first | lia | omega)
  rcases (h r).mp hm with ⟨q1, q2, q3⟩ | ⟨a, ha, hva, b, hb, hvb, cl, hn⟩
  · exact ⟨hu r q1 x hx, other (fun e => q2 (e ▸ hx)) (fun e => q3 (e ▸ hx))⟩
  · rcases List.mem_append.mp ((hn.1 x).mp hx) with q | q
    · obtain ⟨q1, q2⟩ := List.mem_filter.mp q
      exact ⟨hu a ha x q1, other (by simpa using q2) (fun e => noc a ha ⟨hva, e ▸ q1⟩)⟩
    · obtain ⟨q1, q2⟩ := List.mem_filter.mp q
      exact ⟨hu b hb x q1, other (fun e => noc b hb ⟨e ▸ q1, hvb⟩) (by simpa using q2)⟩
theorem none_left {P : Nat → Prop} {RS : List (List Int)} (hu : Uses P RS) (hp : ∀ n, ¬ P n) : (∃ τ, Sat τ RS) ↔ [] ∉ RS := by
  constructor
  · rintro ⟨τ, h⟩ q
    obtain ⟨x, hx, _⟩ := h [] q
    cases hx
  · intro h
    refine ⟨fun _ => true, fun r hr => ?_⟩
    cases r with
    | nil => exact absurd hr h
    | cons x r => exact absurd (hu _ hr x (List.mem_cons_self ..)) (hp _)
end L04
end Lay
end

section
open PySem PySem.W PyProof.Rows
set_option Elab.async false
set_option linter.unusedVariables false
namespace Lay
namespace L04
inductive G where
  | non | tru | inp | and (ps : List Int)
noncomputable def G.kind : G → Str
  | .non => Str.ofString ""
  | .tru => Str.ofString "true"
  | .inp => Str.ofString "input"
  | .and _ => Str.ofString "and"
noncomputable def G.parts : G → List Int
  | .and ps => ps
  | _ => []
structure CircR (K P : List V) (kn : List (List Int × V)) (σ : Hp) : Prop where
  i : σ 1 = some (.inst 224 2)
  a : σ 2 = some (.attrs [(Str.ofString "kinds", .ref 3), (Str.ofString "parts_now", .ref 4), (Str.ofString "known", .ref 5)])
  k : σ 3 = some (.list K)
  p : σ 4 = some (.list P)
  n : σ 5 = some (.tdict kn)
noncomputable abbrev CircAt (gs : List G) (kn : List (List Int × V)) (σ : Hp) : Prop := CircR (gs.map fun g => V.str g.kind) (gs.map fun g => tupI g.parts) kn σ
noncomputable def Fr5 (σ σ' : Hp) : Prop := ∀ n, n ≠ 3 → n ≠ 4 → n ≠ 5 → σ' n = σ n
theorem Fr5.refl (σ : Hp) : Fr5 σ σ := fun _ _ _ _ => rfl
theorem Fr5.trans {a b c : Hp} (h : Fr5 a b) (k : Fr5 b c) : Fr5 a c := fun n h1 h2 h3 => (k n h1 h2 h3).trans (h n h1 h2 h3)
theorem Fr5.free {a b : Hp} {B : Nat} (h : Fr5 a b) (hf : Free B a) (hB : 5 < B) : Free B b := fun n hn => (h n (by (first | lia | omega)) (by (first | lia | omega)) (by (first | lia | omega))).trans (hf n hn)
theorem CircR.mono {K P : List V} {kn : List (List Int × V)} {σ τ : Hp} (h : CircR K P kn σ) (e : ∀ n, n ≤ 5 → τ n = σ n) : CircR K P kn τ :=
  ⟨(e 1 (by decide)).trans h.i, (e 2 (by decide)).trans h.a, (e 3 (by decide)).trans h.k, (e 4 (by decide)).trans h.p, (e 5 (by decide)).trans h.n⟩
section
variable {K P : List V} {kn : List (List Int × V)} {s : St} {Q : V → St → Prop}
theorem instOf_c (h : CircR K P kn s.hp) : instOf (.ref 1) s = some (224, [(Str.ofString "kinds", .ref 3), (Str.ofString "parts_now", .ref 4), (Str.ofString "known", .ref 5)]) := by
  unfold instOf; simp only [h.i, h.a]
theorem W.kinds (h : CircR K P kn s.hp) (k : Q (.ref 3) s) : Wp (getAC 224 (Str.ofString "kinds") (.ref 1)) s Q := by
  refine ⟨_, _, ?_, k⟩
  unfold R getAC
  rw [instOf_c h]
  rfl
theorem W.partsNow (h : CircR K P kn s.hp) (k : Q (.ref 4) s) : Wp (getAC 224 (Str.ofString "parts_now") (.ref 1)) s Q := by
  refine ⟨_, _, ?_, k⟩
  unfold R getAC
  rw [instOf_c h]
  rfl
theorem W.known (h : CircR K P kn s.hp) (k : Q (.ref 5) s) : Wp (getAC 224 (Str.ofString "known") (.ref 1)) s Q := by
  refine ⟨_, _, ?_, k⟩
  unfold R getAC
  rw [instOf_c h]
  rfl
theorem okC (h : CircR K P kn s.hp) {name : Str} (h1 : Str.ofString "kinds" ≠ name) (h2 : Str.ofString "parts_now" ≠ name) (h3 : Str.ofString "known" ≠ name) : instOk 224 name (.ref 1) s = true := by
  unfold instOk
  rw [instOf_c h]
  simp only [kvGet_cons, kvGet_nil, if_neg h1, if_neg h2, if_neg h3]
  rfl
end
theorem W.len {v : V} {n : Nat} {s : St} {Q : V → St → Prop} (h : lenOf v s = some n) (hl : n ≤ lim) (k : Q (.int n) s) : Wp (bLen [v]) s Q := ⟨_, _, P.len h hl, k⟩
theorem size_ws {gs : List G} {kn : List (List Int × V)} {σ : Hp} (h : CircAt gs kn σ) (hl : gs.length ≤ 1000) (hn : Free 540 σ) : Ws (runF 540 1 m_Circuit_size) [.ref 1] σ (fun v σ' => v = .int (gs.length - 1) ∧ σ' = σ) := by
  refine Ws.fn rfl ?_
  unfold m_Circuit_size
  refine .seq (.ret (.op2 (.call (.cons (.op1 (.getL (v := .ref 1) rfl (W.kinds h (.nil (W.len (n := gs.length) ?_ ?_ (.pure (W.sub ⟨_, _, rfl, rfl, rfl, ?_⟩)))))))))))
  · unfold lenOf; simp only [h.k, List.length_map]
  · exact Nat.le_trans hl (by decide)
  · exact cut_free hn
theorem kind_ws {gs : List G} {kn : List (List Int × V)} {σ : Hp} {g : Int} {x : G} (h : CircAt gs kn σ) (hg : gs[g.natAbs]? = some x) (hl : gs.length ≤ 1000) (hn : Free 520 σ) : Ws (runF 520 2 m_Circuit_kind) [.ref 1, .int g] σ (fun v σ' => v = .str x.kind ∧ σ' = σ) := by
  have hlt := (List.getElem?_eq_some_iff.mp hg).1
  refine Ws.fn rfl ?_
  unfold m_Circuit_kind
  refine .seq (.ret (.op2 (.op1 (.getL (v := .ref 1) rfl (W.kinds h (.call (.cons (.getL (v := .int g) rfl (.nil (W.abs (W.item (xs := gs.map fun g => V.str g.kind) (u := .str x.kind) (.inl ?_) (by (first | lia | omega)) (by (first | lia | omega)) ?_ ⟨_, _, rfl, rfl, rfl, ?_⟩)))))))))))
  · unfold lView; simp only [h.k]
  · rw [Int.toNat_natCast, List.getElem?_map, hg]; rfl
  · exact cut_free hn
theorem parts_ws {gs : List G} {kn : List (List Int × V)} {σ : Hp} {g : Int} {x : G} (h : CircAt gs kn σ) (hg : gs[g.natAbs]? = some x) (hl : gs.length ≤ 1000) (hn : Free 500 σ) : Ws (runF 500 2 m_Circuit_parts) [.ref 1, .int g] σ (fun v σ' => v = tupI x.parts ∧ σ' = σ) := by
  have hlt := (List.getElem?_eq_some_iff.mp hg).1
  refine Ws.fn rfl ?_
  unfold m_Circuit_parts
  refine .seq (.ret (.op2 (.op1 (.getL (v := .ref 1) rfl (W.partsNow h (.call (.cons (.getL (v := .int g) rfl (.nil (W.abs (W.item (xs := gs.map fun g => tupI g.parts) (u := tupI x.parts) (.inl ?_) (by (first | lia | omega)) (by (first | lia | omega)) ?_ ⟨_, _, rfl, rfl, rfl, ?_⟩)))))))))))
  · unfold lView; simp only [h.p]
  · rw [Int.toNat_natCast, List.getElem?_map, hg]; rfl
  · exact cut_free hn
theorem newgate_ws {gs : List G} {kn : List (List Int × V)} {σ : Hp} (x : G) (h : CircAt gs kn σ) (hl : gs.length ≤ 1000) (hn : Free 480 σ) : Ws (runF 480 3 m_Circuit_new_gate) [.ref 1, .str x.kind, tupI x.parts] σ (fun v σ' => v = .int gs.length ∧ CircAt (gs ++ [x]) kn σ' ∧ Fr5 σ σ') := by
  have l1000 : 1001 < lim := by decide
  refine Ws.fn rfl ?_
  unfold m_Circuit_new_gate
  refine .seq (.expr (.meth (.op1 (.getL (v := .ref 1) rfl (W.kinds h ⟨isLst_ref h.k, .cons (.getL (v := .str x.kind) rfl (.nil (W.app h.k rfl (by rw [List.length_map]; (first | lia | omega)) ?_)))⟩)))))
  try dsimp only
  have h2 : CircR ((gs ++ [x]).map fun g => V.str g.kind) (gs.map fun g => tupI g.parts) kn (upd σ 3 (some (.list ((gs.map fun g => V.str g.kind) ++ [.str x.kind])))) := ⟨h.i, h.a, by rw [upd_same, List.map_append]; rfl, h.p, h.n⟩
  have f2 : Fr5 σ (upd σ 3 (some (.list ((gs.map fun g => V.str g.kind) ++ [.str x.kind])))) := fun n h1 h2 h3 => by rw [upd_ne _ _ h1]
  generalize upd σ 3 (some (.list ((gs.map fun g => V.str g.kind) ++ [.str x.kind]))) = σ2 at h2 f2
  refine .seq (.expr (.meth (.op1 (.getL (v := .ref 1) rfl (W.partsNow h2 ⟨isLst_ref h2.p, .cons (.getL (v := tupI x.parts) rfl (.nil (W.app h2.p rfl (by rw [List.length_map]; (first | lia | omega)) ?_)))⟩)))))
  try dsimp only
  have h3 : CircAt (gs ++ [x]) kn (upd σ2 4 (some (.list ((gs.map fun g => tupI g.parts) ++ [tupI x.parts])))) := ⟨h2.i, h2.a, h2.k, by rw [upd_same, List.map_append]; rfl, h2.n⟩
  have f3 : Fr5 σ (upd σ2 4 (some (.list ((gs.map fun g => tupI g.parts) ++ [tupI x.parts])))) := fun n h1 h2 h3 => by rw [upd_ne _ _ h2]; exact f2 n h1 h2 h3
  generalize upd σ2 4 (some (.list ((gs.map fun g => tupI g.parts) ++ [tupI x.parts]))) = σ3 at h3 f3
  refine .seq (.ret (.op2 (.call (.cons (.op1 (.getL (v := .ref 1) rfl (W.kinds h3 (.nil (W.len (n := gs.length + 1) ?_ ?_ (.pure (W.sub ⟨_, _, rfl, rfl, ?_⟩)))))))))))
  · unfold lenOf; simp only [h3.k, List.length_map, List.length_append, List.length_cons, List.length_nil]
  · (first | lia | omega)
  · dsimp only
    rw [cut_free (f3.free hn (by decide))]
    exact ⟨by congr 1; (first | lia | omega), h3, f3⟩
theorem input_ws {gs : List G} {kn : List (List Int × V)} {σ : Hp} (h : CircAt gs kn σ) (hl : gs.length ≤ 1000) (hn : Free 460 σ) : Ws (runF 460 1 m_Circuit_new_input) [.ref 1] σ (fun v σ' => v = .int gs.length ∧ CircAt (gs ++ [.inp]) kn σ' ∧ Fr5 σ σ') := by
  refine Ws.fn rfl ?_
  unfold m_Circuit_new_input
  refine .seq (.ret (.meth (.getL (v := .ref 1) rfl ⟨okC h (by decide) (by decide) (by decide), .cons (.pure (.cons (.tup (.nil (.mkTup rfl (Nat.zero_le _) (.nil (.callM ((newgate_ws .inp h hl (hn.mono (by decide))).mono ?_))))))))⟩)))
  rintro v σ' ⟨rfl, h2, h3⟩
  refine ⟨_, _, rfl, rfl, ?_⟩
  try dsimp only
  rw [cut_free (h3.free hn (by decide))]
  exact ⟨rfl, h2, h3⟩
end L04
end Lay
end

section
open PySem PySem.W PyProof.Rows
set_option Elab.async false
set_option linter.unusedVariables false
namespace Lay
namespace L04
structure COk (m : Nat) (gs : List G) (kn : List (List Int × V)) : Prop where
  len : m + 2 ≤ gs.length
  well : ∀ i x, gs[i]? = some x → (i = 0 ∧ x = .non) ∨ (i = 1 ∧ x = .tru) ∨ (2 ≤ i ∧ i < m + 2 ∧ x = .inp) ∨ (m + 2 ≤ i ∧ ∃ ps, x = .and ps ∧ ps.length ≤ 3 ∧ ∀ p ∈ ps, 2 ≤ p.natAbs ∧ p.natAbs < i)
  known : ∀ ps u, kvGet kn ps = some u → ∃ i : Nat, u = .int i ∧ 2 ≤ i ∧ i < gs.length
  knl : kn.length ≤ gs.length
theorem COk.add {m : Nat} {gs : List G} {kn : List (List Int × V)} {ps : List Int} (h : COk m gs kn) (hl : ps.length ≤ 3) (hp : ∀ p ∈ ps, 2 ≤ p.natAbs ∧ p.natAbs < gs.length) : COk m (gs ++ [.and ps]) (kvSet kn ps (.int gs.length)) := by
  have := h.len
  refine ⟨by rw [List.length_append]; (first | lia | omega), fun i x hx => ?_, fun qs u hu => ?_, ?_⟩
  · by_cases hi : i < gs.length
    · rw [List.getElem?_append_left hi] at hx; exact h.well i x hx
    · rw [List.getElem?_append_right (by (first | lia | omega))] at hx
      have e : i - gs.length = 0 := by have := (List.getElem?_eq_some_iff.mp hx).1; simp at this; omega
      rw [e] at hx
      simp at hx
      subst hx
      exact .inr (.inr (.inr ⟨by (first | lia | omega), ps, rfl, hl, fun p q => ⟨(hp p q).1, by have := (hp p q).2; (first | lia | omega)⟩⟩))
  · rw [kvGet_set] at hu
    rw [List.length_append]
    split at hu
    · cases hu; exact ⟨_, rfl, by (first | lia | omega), by simp⟩
    · obtain ⟨i, h1, h2, h3⟩ := h.known _ _ hu; exact ⟨i, h1, h2, by (first | lia | omega)⟩
  · have := kvSet_length kn ps (.int gs.length)
    have := h.knl
    rw [List.length_append]; simp; (first | lia | omega)
theorem Fr5.cut {B : Nat} {σ τ : Hp} {o : Option O} (h : Fr5 (upd σ B o) τ) (hn : Free B σ) (hB : 5 < B) : Fr5 σ (cut B τ) := fun n h1 h2 h3 => by
  unfold Lay.cut
  split
  · rw [h n h1 h2 h3, upd_ne _ _ (by (first | lia | omega))]
  · exact (hn n (by (first | lia | omega))).symm
theorem CircR.cut {K P : List V} {kn : List (List Int × V)} {B : Nat} {τ : Hp} (h : CircR K P kn τ) (hB : 5 < B) : CircR K P kn (cut B τ) := h.mono fun n hn => by unfold Lay.cut; rw [if_pos (by (first | lia | omega))]
theorem W.inT {neg : Bool} {n : Nat} {l : List Int} {kvs : List (List Int × V)} {s : St} {Q : V → St → Prop} (h : s.hp n = some (.tdict kvs)) (k : Q (.bool ((kvGet kvs l).isSome ^^ neg)) s) : Wp (vIn neg (tupI l) (.ref n)) s Q := by
  refine ⟨_, _, ?_, k⟩
  unfold R vIn tupI
  have : dView (.ref n) s = none := by unfold dView; simp only [h]
  simp only [h, ints_map]
theorem W.lt {a b : Int} {s : St} {Q : V → St → Prop} (k : Q (.bool (decide (a < b))) s) : Wp (vLt (.int a) (.int b)) s Q := ⟨_, _, P.lt, k⟩
theorem W.gt {a b : Int} {s : St} {Q : V → St → Prop} (k : Q (.bool (decide (b < a))) s) : Wp (vGt (.int a) (.int b)) s Q := ⟨_, _, P.gt, k⟩
inductive GateR (m : Nat) (gs : List G) (d : Nat) (σ : Hp) (v : V) (σ' : Hp) : Prop
  | mk (g : Int) (gs' : List G) (kn' : List (List Int × V)) (h1 : v = .int g) (h2 : 1 ≤ g.natAbs) (h3 : g.natAbs < gs'.length) (h4 : COk m gs' kn') (h5 : CircAt gs' kn' σ') (h6 : Fr5 σ σ') (h7 : gs.length ≤ gs'.length) (h8 : gs'.length ≤ gs.length + d)
inductive AllI (v : V) (L : List Int) (σ : Hp) (i : Nat) (s : St) : Prop
  | mk (h1 : s.loc 0 = some (.ref 1)) (h2 : s.loc 1 = some v) (h3 : s.loc 2 = some (.ref 440)) (kvs : List (Int × V)) (h4 : s.hp = upd σ 440 (some (.idict kvs))) (h5 : (kvs.map (·.1)).Nodup) (h6 : ∀ x ∈ kvs.map (·.1), x ∈ L ∧ x ≠ 1 ∧ x ≠ -1)
theorem allof_ws {m : Nat} {gs : List G} {kn : List (List Int × V)} {σ : Hp} {v : V} {L : List Int} (h : CircAt gs kn σ) (ok : COk m gs kn) (hl : gs.length ≤ 900) (hn : Free 440 σ) (hv : SeqIs v L σ 440) (hL : L.length ≤ 3) (hg : ∀ x ∈ L, 1 ≤ x.natAbs ∧ x.natAbs < gs.length) :
    Ws (runF 440 2 m_Circuit_all_of) [.ref 1, v] σ (GateR m gs 1 σ) := by
  have l1000 : 1001 < lim := by decide
  have := ok.len
  refine Ws.fn rfl ?_
  unfold m_Circuit_all_of
  refine .seq (.assign (.new (hn 440 (Nat.le_refl _)) ?_))
  refine .seq (.for (.getL (v := v) rfl ⟨hv.1, ?_⟩))
  refine .forS (xs := L.map .int) (AllI v L σ) ⟨rfl, rfl, rfl, [], rfl, List.nodup_nil, fun _ h => nomatch h⟩ ?_ ?_ ?_
  · rintro i s ⟨_, _, _, kvs, e, _⟩
    exact hv.2 s fun n q => by rw [e, upd_ne _ _ (by (first | lia | omega))]
  · rintro i s x ⟨a0, a1, a2, kvs, a3, a4, a5⟩ hx
    rw [List.getElem?_map] at hx
    obtain ⟨y, hy, rfl⟩ := Option.map_eq_some_iff.mp hx
    have hyL := List.mem_of_getElem? hy
    have hk : s.hp 440 = some (.idict kvs) := by rw [a3, upd_same]
    have hkl : kvs.length ≤ L.length := by have := nodup_length_le a4 fun x hx => (a5 x hx).1; rwa [List.length_map] at this
    have stop : ∃ v v', flV (.ret (.int (-1))) = some v ∧ leaveV 440 v s.hp = some v' ∧ GateR m gs 1 σ v' (cut 440 s.hp) := by
      refine ⟨_, _, rfl, rfl, -1, gs, kn, rfl, by decide, by show 1 < _; (first | lia | omega), ok, ?_, ?_, Nat.le_refl _, by (first | lia | omega)⟩
      · rw [a3, cut_own hn (Nat.le_refl _)]; exact h
      · rw [a3, cut_own hn (Nat.le_refl _)]; exact Fr5.refl _
    have next : ∀ kvs' : List (Int × V), (kvs'.map (·.1)).Nodup → (∀ x ∈ kvs'.map (·.1), x ∈ L ∧ x ≠ 1 ∧ x ≠ -1) → AllI v L σ (i + 1) ⟨upd s.loc 3 (some (.int y)), upd s.hp 440 (some (.idict kvs'))⟩ := fun kvs' b1 b2 => ⟨a0, a1, a2, kvs', by dsimp only; rw [a3, upd_upd], b1, b2⟩
    refine .setL (.seq (.ite (.or1 (.tcmp (.getL (v := .int y) rfl (.op1 (.pure (W.neg (W.eqI (.asBool ⟨fun _ => ⟨fun _ => .seq (.ret (.op1 (.pure (W.neg stop)))), nofun⟩, fun hb => ?_⟩))))))))))
    have hb : y ≠ -1 := by simpa using hb
    refine .or1 (.tcmp (.op1 (.getL (v := .int y) rfl (W.neg (.getL (v := .ref 440) a2 (W.inD (kvs := kvs) (by unfold dView; simp only [hk]) (.asBool ⟨fun _ => ⟨fun _ => .seq (.ret (.op1 (.pure (W.neg stop)))), nofun⟩, fun _ => .or0 ⟨nofun, fun _ => .end ?_⟩⟩)))))))
    refine .seq (.ite (.tcmp (.getL (v := .int y) rfl (.pure (W.eqI (.asBool ⟨fun hb2 => ?_, fun hb2 => .end (.end ?_)⟩))))))
    · have hb2 : y ≠ 1 := by simpa using hb2
      refine .seq (.assignSub (.pure (.getL (v := .ref 440) a2 (.getL (v := .int y) rfl (W.setD hk rfl (by (first | lia | omega)) (.end (.end (next _ (kvSet_nodup _ _ _ a4) fun x hx => ?_))))))))
      rcases (kvSet_mem _ _ _ _).mp hx with q | rfl
      · exact a5 x q
      · exact ⟨hyL, hb2, hb⟩
    · have := next kvs a4 a5
      have e : upd s.hp 440 (some (.idict kvs)) = s.hp := by rw [a3, upd_upd]
      rw [e] at this
      exact this
  · rintro s ⟨a0, a1, a2, kvs, a3, a4, a5⟩
    have hk : s.hp 440 = some (.idict kvs) := by rw [a3, upd_same]
    have hkl : (kvs.map (·.1)).length ≤ L.length := nodup_length_le a4 fun x hx => (a5 x hx).1
    have hc : collItems (.ref 440) s = some ((kvs.map (·.1)).map .int) := by unfold collItems; simp only [hk, List.map_map]; rfl
    have sm : ∀ x, x ∈ sortI (kvs.map (·.1)) ↔ x ∈ kvs.map (·.1) := fun x => (sortI_perm _).mem_iff
    have sl := (sortI_perm (kvs.map (·.1))).length_eq
    refine .seq (.assign (.call (.cons (.call (.cons (.getL (v := .ref 440) a2 (.nil (W.sorted hc (by (first | lia | omega)) (.nil (W.tuple rfl (ints_low _) (by rw [List.length_map]; (first | lia | omega)) ?_))))))))))
    generalize sortI (kvs.map (·.1)) = ps at sm sl
    have pg : ∀ p ∈ ps, 2 ≤ p.natAbs ∧ p.natAbs < gs.length := fun p hp => by
      obtain ⟨q1, q2, q3⟩ := a5 p ((sm p).mp hp)
      have := hg p q1
      (first | lia | omega)
    have pl : ps.length ≤ 3 := by (first | lia | omega)
    have h' : CircAt gs kn s.hp := h.mono fun n q => by rw [a3, upd_ne _ _ (by (first | lia | omega))]
    have fin : ∀ g : Int, 1 ≤ g.natAbs → g.natAbs < gs.length → ∃ v v', flV (.ret (.int g)) = some v ∧ leaveV 440 v s.hp = some v' ∧ GateR m gs 1 σ v' (cut 440 s.hp) := fun g q1 q2 => by
      refine ⟨_, _, rfl, rfl, g, gs, kn, rfl, q1, q2, ok, h'.cut (by decide), ?_, Nat.le_refl _, by (first | lia | omega)⟩
      rw [a3, cut_own hn (Nat.le_refl _)]; exact Fr5.refl _
    have tail : ∀ (gs' : List G) (kn' : List (List Int × V)) (τ : Hp) (loc : Nat → Option V), CircAt gs' kn' τ → COk m gs' kn' → Fr5 s.hp τ → gs.length ≤ gs'.length → gs'.length ≤ gs.length + 1 → (kvGet kn' ps).isSome = true → loc 0 = some (.ref 1) → loc 4 = some (tupI ps) →
        Wp (M.seq (Y.ret (X.op2 vItem (X.op1 (getAC 224 (Str.ofString "known")) (M.getL 0)) (M.getL 4))) (Y.end)) ⟨loc, τ⟩ (fun f s => ∃ v v', flV f = some v ∧ leaveV 440 v s.hp = some v' ∧ GateR m gs 1 σ v' (cut 440 s.hp)) := fun gs' kn' τ loc c1 c2 c3 c4 c5 c6 c7 c8 => by
      obtain ⟨u, hu⟩ := Option.isSome_iff_exists.mp c6
      obtain ⟨i, rfl, i2, i3⟩ := c2.known _ _ hu
      refine .seq (.ret (.op2 (.op1 (.getL (v := .ref 1) c7 (W.known c1 (.getL (v := tupI ps) c8 (Wp.ofR (P.item_k c1.n (ints_map ps) hu) ⟨_, _, rfl, rfl, i, gs', kn', rfl, by (first | lia | omega), by (first | lia | omega), c2, c1.cut (by decide), ?_, c4, c5⟩)))))))
      refine Fr5.cut (o := s.hp 440) ?_ hn (by decide)
      intro n q1 q2 q3
      try dsimp only
      rw [c3 n q1 q2 q3, hk, a3]
    have rest : ∀ loc : Nat → Option V, loc 0 = some (.ref 1) → loc 4 = some (tupI ps) → Wp (M.seq (Y.ite (X.tcmp (vIn true) (M.getL 4) (X.op1 (getAC 224 (Str.ofString "known")) (M.getL 0))) (M.seq (Y.assignSub (X.meth (instOk 224 (Str.ofString "new_gate")) (callM (runF 480 3 m_Circuit_new_gate)) (M.getL 0) (X.cons (pure (.str (Str.ofString "and"))) (X.cons (M.getL 4) X.nil))) (X.op1 (getAC 224 (Str.ofString "known")) (M.getL 0)) (M.getL 4))
  (Y.end)) (Y.end))
  (M.seq (Y.ret (X.op2 vItem (X.op1 (getAC 224 (Str.ofString "known")) (M.getL 0)) (M.getL 4)))
  (Y.end))) ⟨loc, s.hp⟩ (fun f s => ∃ v v', flV f = some v ∧ leaveV 440 v s.hp = some v' ∧ GateR m gs 1 σ v' (cut 440 s.hp)) := fun loc c7 c8 => by
      refine .seq (.ite (.tcmp (.getL (v := tupI ps) c8 (.op1 (.getL (v := .ref 1) c7 (W.known h' (W.inT h'.n (.asBool ⟨fun hb => ?_, fun hb => .end (tail gs kn _ _ h' ok (Fr5.refl _) (Nat.le_refl _) (by (first | lia | omega)) (by simpa using hb) c7 c8)⟩))))))))
      refine .seq (.assignSub (.meth (.getL (v := .ref 1) c7 ⟨okC h' (by decide) (by decide) (by decide), .cons (.pure (.cons (.getL (v := tupI ps) c8 (.nil (.callM ((newgate_ws (.and ps) h' (by (first | lia | omega)) (by rw [a3]; exact (hn.mono (by decide)).upd (by decide))).mono ?_))))))⟩)))
      rintro _ τ ⟨rfl, h5, f5⟩
      have := ok.knl
      have h6 : CircAt (gs ++ [.and ps]) (kvSet kn ps (.int gs.length)) (upd τ 5 (some (.tdict (kvSet kn ps (.int gs.length))))) := ⟨h5.i, h5.a, h5.k, h5.p, upd_same _ _ _⟩
      refine .op1 (.getL (v := .ref 1) c7 (W.known h5 (.getL (v := tupI ps) c8 (W.setT h5.n rfl (by (first | lia | omega)) (.end (tail (gs ++ [.and ps]) (kvSet kn ps (.int gs.length)) (upd τ 5 (some (.tdict (kvSet kn ps (.int gs.length))))) loc h6 (ok.add pl pg) ?_ (by simp) (by simp) ?_ c7 c8))))))
      · intro n q1 q2 q3
        rw [upd_ne _ _ q3]; exact f5 n q1 q2 q3
      · rw [kvGet_set, if_pos rfl]; rfl
    refine .seq (.ite (.tcmp (.call (.cons (.getL (v := tupI ps) rfl (.nil (W.len (n := ps.length) (by simp [lenOf, tupI]) (by (first | lia | omega)) (.pure (W.lt (.asBool ⟨fun hb => ?_, fun hb => .end (rest _ a0 rfl)⟩))))))))))
    have hb : ps.length < 2 := by simp at hb; (first | lia | omega)
    refine .seq (.ret (.ife (.tcmp (.call (.cons (.getL (v := tupI ps) rfl (.nil (W.len (n := ps.length) (by simp [lenOf, tupI]) (by (first | lia | omega)) (.pure (W.eqI (.asBool ⟨fun hb2 => ?_, fun hb2 => .pure (fin 1 (by decide) (by show 1 < _; (first | lia | omega)))⟩)))))))))))
    have hb2 : ps.length = 1 := by simp at hb2; (first | lia | omega)
    match ps, hb2 with
    | [p], _ => exact .op2 (.getL (v := tupI [p]) rfl (.pure (W.item (xs := [.int p]) (.inr rfl) (by decide) (by decide) rfl (fin p (by have := pg p (by simp); (first | lia | omega)) (pg p (by simp)).2))))
end L04
end Lay
end

section
open PySem PySem.W PyProof.Rows
set_option Elab.async false
set_option linter.unusedVariables false
namespace Lay
namespace L04
theorem implies_ws {m : Nat} {gs : List G} {kn : List (List Int × V)} {σ : Hp} {a b : Int} (h : CircAt gs kn σ) (ok : COk m gs kn) (hl : gs.length ≤ 900) (hn : Free 400 σ) (ha : 1 ≤ a.natAbs ∧ a.natAbs < gs.length) (hb : 1 ≤ b.natAbs ∧ b.natAbs < gs.length) :
    Ws (runF 400 3 m_Circuit_implies) [.ref 1, .int a, .int b] σ (GateR m gs 1 σ) := by
  refine Ws.fn rfl ?_
  unfold m_Circuit_implies
  refine .seq (.ret (.op1 (.meth (.getL (v := .ref 1) rfl ⟨okC h (by decide) (by decide) (by decide), .cons (.tup (.cons (.getL (v := .int a) rfl (.cons (.op1 (.getL (v := .int b) rfl (W.neg (.nil (.mkTup rfl (show 2 ≤ lim by decide) (.nil (.callM ((allof_ws (L := [a, -b]) h ok hl (hn.mono (by decide)) (SeqIs.tup (L := [a, -b])) (show 2 ≤ 3 by decide) ?_).mono ?_))))))))))))⟩))))
  · intro x hx
    simp only [List.mem_cons, List.not_mem_nil, or_false] at hx
    rcases hx with rfl | rfl <;> omega
  · rintro v σ' ⟨g, gs', kn', rfl, h1, h2, h3, h4, h5, h6, h7⟩
    refine W.neg ⟨_, _, rfl, rfl, -g, gs', kn', rfl, by (first | lia | omega), by (first | lia | omega), h3, (by rw [show cut _ _ = _ from cut_free (h5.free hn (by decide))]; exact h4), (by rw [show cut _ _ = _ from cut_free (h5.free hn (by decide))]; exact h5), h6, h7⟩
theorem iff_ws {m : Nat} {gs : List G} {kn : List (List Int × V)} {σ : Hp} {a b : Int} (h : CircAt gs kn σ) (ok : COk m gs kn) (hl : gs.length ≤ 890) (hn : Free 380 σ) (ha : 1 ≤ a.natAbs ∧ a.natAbs < gs.length) (hb : 1 ≤ b.natAbs ∧ b.natAbs < gs.length) :
    Ws (runF 380 3 m_Circuit_iff) [.ref 1, .int a, .int b] σ (GateR m gs 3 σ) := by
  refine Ws.fn rfl ?_
  unfold m_Circuit_iff
  refine .seq (.ret (.meth (.getL (v := .ref 1) rfl ⟨okC h (by decide) (by decide) (by decide), .cons (.tup (.cons (.meth (.getL (v := .ref 1) rfl ⟨okC h (by decide) (by decide) (by decide), .cons (.getL (v := .int a) rfl (.cons (.getL (v := .int b) rfl (.nil (.callM ((implies_ws h ok (by (first | lia | omega)) (hn.mono (by decide)) ha hb).mono ?_))))))⟩))))⟩)))
  rintro v σ1 ⟨g, g1, k1, rfl, a1, a2, a3, a4, a5, a6, a7⟩
  refine .cons (.meth (.getL (v := .ref 1) rfl ⟨okC a4 (by decide) (by decide) (by decide), .cons (.getL (v := .int b) rfl (.cons (.getL (v := .int a) rfl (.nil (.callM ((implies_ws a4 a3 (by (first | lia | omega)) (a5.free (hn.mono (by decide)) (by decide)) (by (first | lia | omega)) (by (first | lia | omega))).mono ?_))))))⟩))
  rintro v σ2 ⟨g', g2, k2, rfl, b1, b2, b3, b4, b5, b6, b7⟩
  have f2 := a5.trans b5
  refine .nil (.mkTup rfl (show 2 ≤ lim by decide) (.nil (.callM ((allof_ws (L := [g, g']) b4 b3 (by (first | lia | omega)) (f2.free (hn.mono (by decide)) (by decide)) (SeqIs.tup (L := [g, g'])) (show 2 ≤ 3 by decide) ?_).mono ?_))))
  · intro x hx
    simp only [List.mem_cons, List.not_mem_nil, or_false] at hx
    rcases hx with rfl | rfl <;> (first | lia | omega)
  · rintro v σ' ⟨g, gs', kn', rfl, h1, h2, h3, h4, h5, h6, h7⟩
    have f3 := f2.trans h5
    refine ⟨_, _, rfl, rfl, g, gs', kn', rfl, by omega, by omega, h3, (by rw [show cut _ _ = _ from cut_free (f3.free hn (by decide))]; exact h4), (by rw [show cut _ _ = _ from cut_free (f3.free hn (by decide))]; exact f3), by (first | lia | omega), by (first | lia | omega)⟩
theorem anyof_ws {m : Nat} {gs : List G} {kn : List (List Int × V)} {σ : Hp} {v : V} {L : List Int} (h : CircAt gs kn σ) (ok : COk m gs kn) (hl : gs.length ≤ 900) (hn : Free 420 σ) (hv : SeqIs v L σ 420) (hL : L.length ≤ 3) (hg : ∀ x ∈ L, 1 ≤ x.natAbs ∧ x.natAbs < gs.length) :
    Ws (runF 420 2 m_Circuit_any_of) [.ref 1, v] σ (GateR m gs 1 σ) := by
  have hlim : 64 ≤ lim := by decide
  refine Ws.fn rfl ?_
  unfold m_Circuit_any_of
  refine .seq (.ret (.op1 (.meth (.getL (v := .ref 1) rfl ⟨okC h (by decide) (by decide) (by decide), .cons (W.filt (RS := L) (emb := V.int) (e := fun x => V.int (-x)) (p := fun _ => true) (.getL (v := v) rfl ⟨?_, rfl, fun s' e => hv.2 s' fun n _ => by rw [e]⟩) ?_ ?_ (fun _ _ => rfl) (by (first | lia | omega)) fun s' e1 e2 => .nil (.callM ((allof_ws (L := L.map (fun x => -x)) (by rw [e1]; exact h) ok hl (by rw [e1]; exact hn.mono (by decide)) ?_ (by simpa using hL) ?_).mono ?_)))⟩))))
  · have := hv.1
    cases v with
    | ref n => simp only [V.stays, decide_eq_true_eq] at *; (first | lia | omega)
    | _ => rfl
  · intro a ha s' _ _ _; exact .and0 ⟨rfl, rfl⟩
  · intro a ha _ s' _ _ a3; exact .op1 (.getL a3 (W.neg ⟨rfl, rfl⟩))
  · rw [List.filter_eq_self.mpr fun _ _ => rfl]
    have : L.map (fun x => V.int (-x)) = (L.map (fun x => -x)).map V.int := by rw [List.map_map]; rfl
    rw [this]; exact SeqIs.lst
  · intro x hx
    obtain ⟨y, hy, rfl⟩ := List.mem_map.mp hx
    have := hg y hy
    (first | lia | omega)
  · rintro v σ' ⟨g, gs', kn', rfl, h1, h2, h3, h4, h5, h6, h7⟩
    rw [e1] at h5
    refine W.neg ⟨_, _, rfl, rfl, -g, gs', kn', rfl, by (first | lia | omega), by omega, h3, (by rw [show cut _ _ = _ from cut_free (h5.free hn (by decide))]; exact h4), (by rw [show cut _ _ = _ from cut_free (h5.free hn (by decide))]; exact h5), h6, h7⟩
end L04
end Lay
end

section
open PySem PySem.W PyProof.Rows
set_option Elab.async false
set_option linter.unusedVariables false
namespace Lay
namespace L04
theorem gate_fin {m d : Nat} {gs : List G} {σ : Hp} {o : Option O} {B : Nat} {v : V} {σ' : Hp} (h : GateR m gs d (upd σ B o) v σ') (hd : d ≤ 3) (hn : Free B σ) (hB : 5 < B) : ∃ v', (∀ τ : Hp, leaveV B v τ = some v') ∧ GateR m gs 3 σ v' (cut B σ') := by
  obtain ⟨g, gs', kn', rfl, h1, h2, h3, h4, h5, h6, h7⟩ := h
  exact ⟨_, fun _ => rfl, g, gs', kn', rfl, h1, h2, h3, h4.cut hB, h5.cut hn hB, h6, by (first | lia | omega)⟩
inductive GateI (xs : List Int) (n : Nat) (σ : Hp) (gl : Nat) (way : Int) (i : Nat) (s : St) : Prop
  | mk (h1 : s.loc 0 = some (.ref 100)) (h2 : s.loc 1 = some (.ref 1)) (h3 : s.loc 2 = some (.ref 101)) (h4 : s.loc 3 = some (.int way)) (h5 : s.loc 4 = some (.ref 160)) (k : Int) (L : List Int) (h6 : 0 ≤ k) (h7 : k ≤ ((n + 2 * i : Nat) : Int)) (h8 : L.length = i) (h9 : (∀ x ∈ L, 1 ≤ x.natAbs ∧ x.natAbs < gl)) (h10 : s.hp = upd (upd σ 100 (some (feedO xs k))) 160 (some (.list (L.map .int))))
theorem gate_ws {xs : List Int} {n m : Nat} {gs : List G} {kn : List (List Int × V)} {σ : Hp} {S : List Int} (hF : Fed xs n σ) (hk : n + 100 < 2 ^ 40) (hxl : xs.length ≤ 60) (h : CircAt gs kn σ) (ok : COk m gs kn) (hl : gs.length ≤ 890) (hn : Free 160 σ)
    (hS : σ 101 = some (.list (S.map .int))) (hS0 : 0 < S.length) (hS1 : S.length ≤ 60) (hg : ∀ x ∈ S, 1 ≤ x.natAbs ∧ x.natAbs < gs.length) :
    Ws (runF 160 3 m__law_gate) [.ref 100, .ref 1, .ref 101] σ (fun v σ' => ∃ k : Int, 0 ≤ k ∧ k ≤ ((n + 8 : Nat) : Int) ∧ GateR m gs 3 (upd σ 100 (some (feedO xs k))) v σ') := by
  have l64 : 64 ≤ lim := by decide
  have hf : ∀ k o, Free 360 (upd (upd σ 100 (some (feedO xs k))) 160 o) := fun k o => ((hn.mono (by decide)).upd (by decide)).upd (by decide)
  have fd : ∀ (k : Int) (m : Nat) o, 0 ≤ k → k ≤ m → Fed xs m (upd (upd σ 100 (some (feedO xs k))) 160 o) := fun k m o a b => ⟨k, a, b, by rw [upd_ne _ _ (by decide), upd_same]⟩
  have uu : ∀ k k' o, upd (upd (upd σ 100 (some (feedO xs k))) 160 o) 100 (some (feedO xs k')) = upd (upd σ 100 (some (feedO xs k'))) 160 o := fun k k' o => by rw [upd_comm (by decide), upd_upd, upd_comm (by decide)]
  refine Ws.fn rfl ?_
  unfold m__law_gate
  refine .seq (.assign (W.draw (n := n) (many := 3) rfl hF (by (first | lia | omega)) hxl (by decide) (hn.mono (by decide)) fun way k0 w1 w2 w3 w4 => ?_))
  try dsimp only
  refine .seq (.assign (.list (.nil (.mkLstS rfl (Nat.zero_le _) ?_ ?_))))
  · dsimp only; rw [upd_ne _ _ (by decide)]; exact hn 160 (Nat.le_refl _)
  try dsimp only
  have loop : ∀ (c : Int) (n' : Nat) (k : Int) (loc : Nat → Option V), 2 ≤ c → c ≤ 3 → 0 ≤ k → k ≤ n' → n' ≤ n + 2 → loc 0 = some (.ref 100) → loc 1 = some (.ref 1) → loc 2 = some (.ref 101) → loc 3 = some (.int way) → loc 4 = some (.ref 160) →
      Wp (M.forS (.rng 0 c 1) (fun v => M.setL 5 v) (M.seq (Y.assign 6 (X.op2 vItem (M.getL 2) (X.call (callM (runF 580 2 m__law_draw)) (X.cons (M.getL 0) (X.cons (X.call bLen (X.cons (M.getL 2) X.nil)) X.nil)))))
  (M.seq (Y.expr (X.meth isLst mApp (M.getL 4) (X.cons (X.ife (X.tcmp (vEq false) (X.call (callM (runF 580 2 m__law_draw)) (X.cons (M.getL 0) (X.cons (pure (.int 2)) X.nil))) (pure (.int 0))) (M.getL 6) (X.op1 vNeg (M.getL 6))) X.nil)))
  (Y.end)))) ⟨loc, upd (upd σ 100 (some (feedO xs k))) 160 (some (.list []))⟩ (fun f s => f = .next ∧ ∃ j, 2 ≤ j ∧ j ≤ 3 ∧ GateI xs n' σ gs.length way j s) := fun c n' k loc c1 c2 c3 c4 c5 d0 d1 d2 d3 d4 => by
    refine .forS (xs := _) (GateI xs n' σ gs.length way) ⟨d0, d1, d2, d3, d4, k, [], c3, c4, rfl, (fun _ h => nomatch h), rfl⟩ (fun i s _ => rng_items (by decide) (by (first | lia | omega))) ?_ ?_
    · rintro i s x ⟨a0, a1, a2, a3, a4, k, L, a5, a6, a7, a8, a9⟩ hx
      obtain ⟨rfl, hi⟩ := rng_get hx
      have s101 : s.hp 101 = some (.list (S.map .int)) := by rw [a9, upd_ne _ _ (by decide), upd_ne _ _ (by decide)]; exact hS
      refine .setL (.seq (.assign (.op2 (.getL (v := .ref 101) a2 (.call (.cons (.getL (v := .ref 100) a0 (.cons (.call (.cons (.getL (v := .ref 101) a2 (.nil (W.len (n := S.length) (by simp [lenOf, s101]) (by (first | lia | omega)) (.nil (.callM ((draw_ws (n := n' + 2 * i) (by dsimp only; rw [a9]; exact fd _ _ _ a5 a6) (by (first | lia | omega)) hxl (by (first | lia | omega)) (by dsimp only; rw [a9]; exact (hf _ _).mono (by decide))).mono ?_))))))))))))))))
      rintro v σ' ⟨r, k2, rfl, b1, b2, ⟨b3, b4⟩, rfl⟩
      try dsimp only
      have hr : r.toNat < S.length := by (first | lia | omega)
      have hgr := hg S[r.toNat] (List.getElem_mem hr)
      refine W.item (xs := S.map .int) (u := .int S[r.toNat]) (.inl ?_) b1 (by (first | lia | omega)) (by simp [hr]) ?_
      · unfold lView; dsimp only; rw [upd_ne _ _ (by decide), s101]
      generalize S[r.toNat] = g at hgr
      rw [a9, uu]
      have app : ∀ (Rt : V → St → Prop) (y : Int) (k3 : Int) (loc : Nat → Option V), (1 ≤ y.natAbs ∧ y.natAbs < gs.length) → 0 ≤ k3 → k3 ≤ ((n' + 2 * i + 1 + 1 : Nat) : Int) → loc 0 = some (.ref 100) → loc 1 = some (.ref 1) → loc 2 = some (.ref 101) → loc 3 = some (.int way) → loc 4 = some (.ref 160) →
          Wp (mApp [.ref 160, .int y]) ⟨loc, upd (upd σ 100 (some (feedO xs k3))) 160 (some (.list (L.map .int)))⟩ (fun _ s => Wp Y.end s (fun f s2 => match f with | .next => GateI xs n' σ gs.length way (i + 1) s2 | .cont => GateI xs n' σ gs.length way (i + 1) s2 | .brk => False | .ret v => Rt v s2)) := fun Rt y k3 loc e1 e2 e3 e4 e5 e6 e7 e8 => by
        refine W.app (xs := L.map .int) rfl rfl (by rw [List.length_map]; (first | lia | omega)) (.end ⟨e4, e5, e6, e7, e8, k3, L ++ [y], e2, by omega, by simp [a7], ?_, ?_⟩)
        · intro x hx
          rcases List.mem_append.mp hx with q | q
          · exact a8 x q
          · rw [List.mem_singleton] at q; subst q; exact e1
        · dsimp only; rw [upd_upd, List.map_append]; rfl
      refine .seq (.expr (.meth (.getL (v := .ref 160) a4 ⟨isLst_ref (xs := L.map .int) rfl, .cons (.ife (.tcmp (W.draw (n := n' + 2 * i + 1) (many := 2) a0 (fd _ _ _ b3 b4) (by (first | lia | omega)) hxl (by decide) ((hf _ _).mono (by decide)) fun r2 k3 q1 q2 q3 q4 => .pure (W.eqI (.asBool ⟨fun _ => .getL (v := .int g) rfl (.nil ?_), fun _ => .op1 (.getL (v := .int g) rfl (W.neg (.nil ?_)))⟩)))))⟩)))
      · dsimp only
        rw [uu]
        exact app _ g k3 _ hgr q3 q4 a0 a1 a2 a3 a4
      · dsimp only
        rw [uu]
        exact app _ (-g) k3 _ (by omega) q3 q4 a0 a1 a2 a3 a4
    · rintro s hI
      rw [List.length_map, List.length_range] at hI
      exact ⟨rfl, _, by (first | lia | omega), by (first | lia | omega), hI⟩
  have after : ∀ (n' j : Nat) (s : St), n' ≤ n + 2 → 2 ≤ j → j ≤ 3 → GateI xs n' σ gs.length way j s → Wp (M.seq (Y.ite (X.tcmp (vEq false) (M.getL 3) (pure (.int 2))) (M.seq (Y.ret (X.meth (instOk 224 (Str.ofString "iff")) (callM (runF 380 3 m_Circuit_iff)) (M.getL 1) (X.cons (X.op2 vItem (M.getL 4) (pure (.int 0))) (X.cons (X.op2 vItem (M.getL 4) (pure (.int 1))) X.nil))))
  (Y.end)) (Y.end))
  (M.seq (Y.ret (X.ife (X.tcmp (vEq false) (M.getL 3) (pure (.int 0))) (X.meth (instOk 224 (Str.ofString "all_of")) (callM (runF 440 2 m_Circuit_all_of)) (M.getL 1) (X.cons (M.getL 4) X.nil)) (X.meth (instOk 224 (Str.ofString "any_of")) (callM (runF 420 2 m_Circuit_any_of)) (M.getL 1) (X.cons (M.getL 4) X.nil))))
  (Y.end))) s (fun f s => ∃ v v', flV f = some v ∧ leaveV 160 v s.hp = some v' ∧ ∃ k : Int, 0 ≤ k ∧ k ≤ ((n + 8 : Nat) : Int) ∧ GateR m gs 3 (upd σ 100 (some (feedO xs k))) v' (cut 160 s.hp)) := fun n' j s b0 b1 b2 ⟨a0, a1, a2, a3, a4, k, L, a5, a6, a7, a8, a9⟩ => by
    have hC : CircAt gs kn s.hp := h.mono fun n q => by rw [a9, upd_ne _ _ (by (first | lia | omega)), upd_ne _ _ (by (first | lia | omega))]
    have h160 : s.hp 160 = some (.list (L.map .int)) := by rw [a9, upd_same]
    have hfr : Free 360 s.hp := by rw [a9]; exact hf _ _
    have hn1 : Free 160 (upd σ 100 (some (feedO xs k))) := hn.upd (by decide)
    have fin : ∀ (d : Nat) (v : V) (σ' : Hp), d ≤ 3 → GateR m gs d s.hp v σ' → ∃ u u', flV (.ret v) = some u ∧ leaveV 160 u σ' = some u' ∧ ∃ k : Int, 0 ≤ k ∧ k ≤ ((n + 8 : Nat) : Int) ∧ GateR m gs 3 (upd σ 100 (some (feedO xs k))) u' (cut 160 σ') := fun d v σ' hd hG => by
      rw [a9] at hG
      obtain ⟨u, hu, hG2⟩ := gate_fin hG hd hn1 (by decide)
      exact ⟨v, u, rfl, hu _, k, a5, by (first | lia | omega), hG2⟩
    refine .seq (.ite (.tcmp (.getL (v := .int way) a3 (.pure (W.eqI (.asBool ⟨fun hb => ?_, fun hb => .end ?_⟩))))))
    · obtain ⟨p, q, r, rfl⟩ : ∃ p q r, L = p :: q :: r := by
        match L, a7 with
        | [], e => simp at e; (first | lia | omega)
        | [_], e => simp at e; (first | lia | omega)
        | p :: q :: r, _ => exact ⟨p, q, r, rfl⟩
      refine .seq (.ret (.meth (.getL (v := .ref 1) a1 ⟨okC hC (by decide) (by decide) (by decide), .cons (.op2 (.getL (v := .ref 160) a4 (.pure (W.item (xs := (p :: q :: r).map .int) (u := .int p) (.inl (by unfold lView; simp only [h160])) (by decide) (by decide) rfl (.cons (.op2 (.getL (v := .ref 160) a4 (.pure (W.item (xs := (p :: q :: r).map .int) (u := .int q) (.inl (by unfold lView; simp only [h160])) (by decide) (by decide) rfl (.nil (.callM ((iff_ws hC ok hl (hfr.mono (by decide)) (a8 p (by simp)) (a8 q (by simp))).mono fun v σ' hG => fin 3 v σ' (by decide) hG))))))))))))⟩)))
    · refine .seq (.ret (.ife (.tcmp (.getL (v := .int way) a3 (.pure (W.eqI (.asBool ⟨fun _ => .meth (.getL (v := .ref 1) a1 ⟨okC hC (by decide) (by decide) (by decide), .cons (.getL (v := .ref 160) a4 (.nil (.callM ((allof_ws hC ok (by (first | lia | omega)) (hfr.mono (by decide)) (SeqIs.ref h160 (by decide)) (by (first | lia | omega)) a8).mono fun v σ' hG => fin 1 v σ' (by decide) hG))))⟩), fun _ => .meth (.getL (v := .ref 1) a1 ⟨okC hC (by decide) (by decide) (by decide), .cons (.getL (v := .ref 160) a4 (.nil (.callM ((anyof_ws hC ok (by (first | lia | omega)) (hfr.mono (by decide)) (SeqIs.ref h160 (by decide)) (by (first | lia | omega)) a8).mono fun v σ' hG => fin 1 v σ' (by decide) hG))))⟩)⟩)))))))
  refine .seq (.for (.call (.cons (.ife (.tcmp (.getL (v := .int way) rfl (.pure (W.eqI (.asBool ⟨fun hb => .pure (.nil (W.range1 ⟨rfl, ?_⟩)), fun hb => .op2 (.pure (W.draw (n := n + 1) (many := 2) rfl (fd _ _ _ w3 w4) (by (first | lia | omega)) hxl (by decide) ((hf _ _).mono (by decide)) fun r k1 q1 q2 q3 q4 => W.add (.nil (W.range1 ⟨rfl, ?_⟩))))⟩)))))))))
  · exact (loop 2 (n + 1) k0 _ (by decide) (by decide) w3 w4 (by (first | lia | omega)) rfl rfl rfl rfl rfl).mono (by rintro f s ⟨rfl, j, b0, b1, hI⟩; exact after _ _ _ (by (first | lia | omega)) b0 b1 hI)
  · dsimp only
    rw [uu]
    exact (loop (2 + r) (n + 1 + 1) k1 _ (by (first | lia | omega)) (by (first | lia | omega)) q3 q4 (by (first | lia | omega)) rfl rfl rfl rfl rfl).mono (by rintro f s ⟨rfl, j, b0, b1, hI⟩; exact after _ _ _ (by (first | lia | omega)) b0 b1 hI)
end L04
end Lay
end

section
open PySem PySem.W PyProof.Rows
set_option Elab.async false
set_option linter.unusedVariables false
namespace Lay
namespace L04
structure Cl where
  w : Int
  cs : List (List Int)
  ga : List Int
  nu : List (Int × V)
  op : List (Int × V)
  wa : List Int
structure ClsAt (d : Cl) (σ : Hp) : Prop where
  i : σ 6 = some (.inst 114 7)
  a : σ 7 = some (.attrs [(Str.ofString "circuit", .ref 1), (Str.ofString "whole", .int d.w), (Str.ofString "clauses", .ref 8), (Str.ofString "gates", .ref 9), (Str.ofString "numbers", .ref 10), (Str.ofString "opened", .ref 11), (Str.ofString "waiting", .ref 12)])
  cs : σ 8 = some (.list (d.cs.map tupI))
  ga : σ 9 = some (.list (d.ga.map .int))
  nu : σ 10 = some (.idict d.nu)
  op : σ 11 = some (.idict d.op)
  wa : σ 12 = some (.list (d.wa.map .int))
noncomputable def Fr8 (σ σ' : Hp) : Prop := ∀ n, n < 8 ∨ 12 < n → σ' n = σ n
theorem Fr8.refl (σ : Hp) : Fr8 σ σ := fun _ _ => rfl
theorem Fr8.trans {a b c : Hp} (h : Fr8 a b) (k : Fr8 b c) : Fr8 a c := fun n q => (k n q).trans (h n q)
theorem Fr8.free {a b : Hp} {B : Nat} (h : Fr8 a b) (hf : Free B a) (hB : 12 < B) : Free B b := fun n hn => (h n (.inr (by (first | lia | omega)))).trans (hf n hn)
section
variable {d : Cl} {s : St} {Q : V → St → Prop}
theorem instOf_k (h : ClsAt d s.hp) : instOf (.ref 6) s = some (114, [(Str.ofString "circuit", .ref 1), (Str.ofString "whole", .int d.w), (Str.ofString "clauses", .ref 8), (Str.ofString "gates", .ref 9), (Str.ofString "numbers", .ref 10), (Str.ofString "opened", .ref 11), (Str.ofString "waiting", .ref 12)]) := by
  unfold instOf; simp only [h.i, h.a]
theorem W.kCircuit (h : ClsAt d s.hp) (k : Q (.ref 1) s) : Wp (getAC 114 (Str.ofString "circuit") (.ref 6)) s Q := by
  refine ⟨_, _, ?_, k⟩
  unfold R getAC
  rw [instOf_k h]
  rfl
theorem W.kWhole (h : ClsAt d s.hp) (k : Q (.int d.w) s) : Wp (getAC 114 (Str.ofString "whole") (.ref 6)) s Q := by
  refine ⟨_, _, ?_, k⟩
  unfold R getAC
  rw [instOf_k h]
  rfl
theorem W.kClauses (h : ClsAt d s.hp) (k : Q (.ref 8) s) : Wp (getAC 114 (Str.ofString "clauses") (.ref 6)) s Q := by
  refine ⟨_, _, ?_, k⟩
  unfold R getAC
  rw [instOf_k h]
  rfl
theorem W.kGates (h : ClsAt d s.hp) (k : Q (.ref 9) s) : Wp (getAC 114 (Str.ofString "gates") (.ref 6)) s Q := by
  refine ⟨_, _, ?_, k⟩
  unfold R getAC
  rw [instOf_k h]
  rfl
theorem W.kNumbers (h : ClsAt d s.hp) (k : Q (.ref 10) s) : Wp (getAC 114 (Str.ofString "numbers") (.ref 6)) s Q := by
  refine ⟨_, _, ?_, k⟩
  unfold R getAC
  rw [instOf_k h]
  rfl
theorem W.kOpened (h : ClsAt d s.hp) (k : Q (.ref 11) s) : Wp (getAC 114 (Str.ofString "opened") (.ref 6)) s Q := by
  refine ⟨_, _, ?_, k⟩
  unfold R getAC
  rw [instOf_k h]
  rfl
theorem W.kWaiting (h : ClsAt d s.hp) (k : Q (.ref 12) s) : Wp (getAC 114 (Str.ofString "waiting") (.ref 6)) s Q := by
  refine ⟨_, _, ?_, k⟩
  unfold R getAC
  rw [instOf_k h]
  rfl
end
noncomputable def addC (cs : List (List Int)) : Option (List Int) → List (List Int)
  | none => cs
  | some r => cs ++ [r]
theorem tell_ws {d : Cl} {σ : Hp} {L : List Int} {v : V} (h : ClsAt d σ) (hn : Free 340 σ) (hv : SeqIs v L σ 340) (hl : L.length < 64) (hz : ∀ x ∈ L, x ≠ 0) (hc : d.cs.length < lim) :
    Ws (runF 340 2 m_Clauses_tell) [.ref 6, v] σ (fun u σ' => u = .none ∧ Fr8 σ σ' ∧ ∃ o, Res L o ∧ ClsAt { d with cs := addC d.cs o } σ') := by
  refine Ws.fn rfl ?_
  unfold m_Clauses_tell
  have hv6 : SeqIs v L σ 600 := ⟨by
    have := hv.1
    cases v with
    | ref n => simp only [V.stays, decide_eq_true_eq] at *; (first | lia | omega)
    | _ => rfl, fun s hs => hv.2 s fun n q => hs n (by (first | lia | omega))⟩
  refine .seq (.assign (.call (.cons (.getL (v := v) rfl (.nil (W.clauseC (L := L) (hn.mono (by decide)) hv6 hl hz fun o ho => ?_))))))
  cases o with
  | none =>
    refine .seq (.ite (.tcmp (.getL (v := Oc none) rfl (.pure (W.isNone (.asBool ⟨nofun, fun _ => .end (.end ⟨_, _, rfl, rfl, rfl, ?_⟩)⟩))))))
    try dsimp only
    rw [cut_free hn]
    exact ⟨Fr8.refl _, none, ho, h⟩
  | some r =>
    refine .seq (.ite (.tcmp (.getL (v := Oc (some r)) rfl (.pure (W.isNone (.asBool ⟨fun _ => .seq (.expr (.meth (.op1 (.getL (v := .ref 6) rfl (W.kClauses h ⟨isLst_ref h.cs, .cons (.getL (v := tupI r) rfl (.nil (W.app h.cs rfl (by rw [List.length_map]; exact hc) (.end (.end ⟨_, _, rfl, rfl, rfl, ?_⟩)))))⟩))))), nofun⟩))))))
    try dsimp only
    have f : Fr8 σ (upd σ 8 (some (.list (d.cs.map tupI ++ [tupI r])))) := fun n q => by rw [upd_ne _ _ (by (first | lia | omega))]
    rw [cut_free (f.free hn (by decide))]
    exact ⟨f, some r, ho, h.i, h.a, by rw [upd_same]; simp [addC], h.ga, h.nu, h.op, h.wa⟩
end L04
end Lay
end

section
open PySem PySem.W PyProof.Rows
set_option Elab.async false
set_option linter.unusedVariables false
namespace Lay
namespace L04
noncomputable def numAdd (d : Cl) (g : Int) : Cl := if (kvGet d.nu g).isSome then d else { d with ga := d.ga ++ [g], nu := kvSet d.nu g (.int d.ga.length) }
theorem number_ws {d : Cl} {σ : Hp} {g : Int} (h : ClsAt d σ) (hn : Free 300 σ) (h1 : d.ga.length ≤ 1000) (h2 : d.nu.length ≤ 1000) (hu : ∀ u, kvGet d.nu g = some u → ∃ n : Nat, u = .int n) :
    Ws (runF 300 2 m_Clauses_number_of) [.ref 6, .int g] σ (fun u σ' => Fr8 σ σ' ∧ ClsAt (numAdd d g) σ' ∧ ∃ n : Nat, u = .int n ∧ kvGet (numAdd d g).nu g = some (.int n)) := by
  have l1000 : 1001 < lim := by decide
  refine Ws.fn rfl ?_
  unfold m_Clauses_number_of
  have tail : ∀ (d' : Cl) (τ : Hp) (loc : Nat → Option V), ClsAt d' τ → Fr8 σ τ → loc 0 = some (.ref 6) → loc 1 = some (.int g) → ∀ n : Nat, kvGet d'.nu g = some (.int n) →
      Wp (M.seq (Y.ret (X.op2 vItem (X.op1 (getAC 114 (Str.ofString "numbers")) (M.getL 0)) (M.getL 1))) (Y.end)) ⟨loc, τ⟩ (fun f s => ∃ v v', flV f = some v ∧ leaveV 300 v s.hp = some v' ∧ (Fr8 σ (cut 300 s.hp) ∧ ClsAt d' (cut 300 s.hp) ∧ ∃ n : Nat, v' = .int n ∧ kvGet d'.nu g = some (.int n))) := fun d' τ loc c1 c2 c3 c4 n c5 => by
    refine .seq (.ret (.op2 (.op1 (.getL (v := .ref 6) c3 (W.kNumbers c1 (.getL (v := .int g) c4 (Wp.ofR (P.item_d (kvs := d'.nu) (u := .int n) ?_ c5) ⟨_, _, rfl, rfl, ?_⟩)))))))
    · unfold dView; simp only [c1.nu]
    · dsimp only
      rw [cut_free (c2.free hn (by decide))]
      exact ⟨c2, c1, n, rfl, c5⟩
  refine .seq (.ite (.tcmp (.getL (v := .int g) rfl (.op1 (.getL (v := .ref 6) rfl (W.kNumbers h (W.inD (kvs := d.nu) (by unfold dView; simp only [h.nu]) (.asBool ⟨fun hb => ?_, fun hb => .end ?_⟩))))))))
  · have hb : (kvGet d.nu g).isSome = false := by simpa using hb
    have e : numAdd d g = { d with ga := d.ga ++ [g], nu := kvSet d.nu g (.int d.ga.length) } := by unfold numAdd; rw [hb]; rfl
    rw [e]
    refine .seq (.assignSub (.call (.cons (.op1 (.getL (v := .ref 6) rfl (W.kGates h (.nil (W.len (n := d.ga.length) (by unfold lenOf; simp only [h.ga, List.length_map]) (by (first | lia | omega)) (.op1 (.getL (v := .ref 6) rfl (W.kNumbers h (.getL (v := .int g) rfl (W.setD h.nu rfl (by (first | lia | omega)) ?_)))))))))))))
    try dsimp only
    have f2 : Fr8 σ (upd σ 10 (some (.idict (kvSet d.nu g (.int d.ga.length))))) := fun n q => by rw [upd_ne _ _ (by (first | lia | omega))]
    have k2 : ClsAt { d with nu := kvSet d.nu g (.int d.ga.length) } (upd σ 10 (some (.idict (kvSet d.nu g (.int d.ga.length))))) := ⟨h.i, h.a, h.cs, h.ga, upd_same _ _ _, h.op, h.wa⟩
    generalize upd σ 10 (some (.idict (kvSet d.nu g (.int d.ga.length)))) = τ at f2 k2
    refine .seq (.expr (.meth (.op1 (.getL (v := .ref 6) rfl (W.kGates k2 ⟨isLst_ref k2.ga, .cons (.getL (v := .int g) rfl (.nil (W.app k2.ga rfl (by rw [List.length_map]; show d.ga.length < lim; (first | lia | omega)) (.end ?_))))⟩)))))
    have f3 : Fr8 σ (upd τ 9 (some (.list (d.ga.map .int ++ [.int g])))) := fun n q => by rw [upd_ne _ _ (by (first | lia | omega))]; exact f2 n q
    refine tail _ _ _ ⟨k2.i, k2.a, k2.cs, ?_, k2.nu, k2.op, k2.wa⟩ f3 rfl rfl d.ga.length ?_
    · dsimp only; rw [upd_same, List.map_append]; rfl
    · dsimp only; rw [kvGet_set, if_pos rfl]
  · have hb : (kvGet d.nu g).isSome = true := by simpa using hb
    have e : numAdd d g = d := by unfold numAdd; rw [hb]; rfl
    rw [e]
    obtain ⟨u, q⟩ := Option.isSome_iff_exists.mp hb
    obtain ⟨n, rfl⟩ := hu u q
    exact tail d σ _ h (Fr8.refl _) rfl rfl n q
end L04
end Lay
end

section
open PySem PySem.W PyProof.Rows
set_option Elab.async false
set_option linter.unusedVariables false
namespace Lay
namespace L04
noncomputable def openS (d : Cl) (x : Int) : Cl := if (kvGet d.op x).isSome then d else { d with op := kvSet d.op x (.bool true), wa := d.wa ++ [x] }
noncomputable def sides (w g : Int) : List Int := if 0 < w then [(g.natAbs : Int), -(g.natAbs : Int)] else [g]
noncomputable def entered (d : Cl) (g : Int) : Cl := (sides d.w g).foldl openS (numAdd d g.natAbs)
inductive EnI (σ : Hp) (g : Int) (n : Nat) (i : Nat) (e : Cl) (s : St) : Prop
  | mk (h0 : s.loc 0 = some (.ref 6)) (h1 : s.loc 1 = some (.int g)) (h3 : s.loc 3 = some (.int n)) (f : Fr8 σ s.hp) (k : ClsAt e s.hp) (l : i ≤ 2) (lo : e.op.length ≤ 1000 + i) (lw : e.wa.length ≤ 1000 + i)
theorem enter_ws {d : Cl} {σ : Hp} {g : Int} (h : ClsAt d σ) (hn : Free 260 σ) (h1 : d.ga.length ≤ 1000) (h2 : d.nu.length ≤ 1000) (h3 : d.op.length ≤ 1000) (h4 : d.wa.length ≤ 1000) (hu : ∀ u, kvGet d.nu (g.natAbs : Int) = some u → ∃ n : Nat, u = .int n) :
    Ws (runF 260 2 m_Clauses_enter) [.ref 6, .int g] σ (fun u σ' => Fr8 σ σ' ∧ ClsAt (entered d g) σ' ∧ ∃ n : Nat, kvGet (numAdd d g.natAbs).nu (g.natAbs : Int) = some (.int n) ∧ u = .int (if 0 < g then n else -n)) := by
  have l1100 : 1100 < lim := by decide
  have okK : ∀ (d : Cl) (s : St), ClsAt d s.hp → ∀ name : Str, Str.ofString "circuit" ≠ name → Str.ofString "whole" ≠ name → Str.ofString "clauses" ≠ name → Str.ofString "gates" ≠ name → Str.ofString "numbers" ≠ name → Str.ofString "opened" ≠ name → Str.ofString "waiting" ≠ name → instOk 114 name (.ref 6) s = true := fun d s h name n1 n2 n3 n4 n5 n6 n7 => by
    unfold instOk
    rw [instOf_k h]
    simp only [kvGet_cons, kvGet_nil, if_neg n1, if_neg n2, if_neg n3, if_neg n4, if_neg n5, if_neg n6, if_neg n7]
    rfl
  refine Ws.fn rfl ?_
  unfold m_Clauses_enter
  refine .seq (.assign (.call (.cons (.getL (v := .int g) rfl (.nil (W.abs ?_))))))
  refine .seq (.assign (.meth (.getL (v := .ref 6) rfl ⟨okK d _ h _ (by decide) (by decide) (by decide) (by decide) (by decide) (by decide) (by decide), .cons (.getL (v := .int g.natAbs) rfl (.nil (.callM ((number_ws (g := g.natAbs) h (hn.mono (by decide)) h1 h2 hu).mono ?_))))⟩)))
  rintro u τ ⟨f1, k1, n, rfl, hn1⟩
  have dw : (numAdd d g.natAbs).w = d.w := by unfold numAdd; split <;> rfl
  have dop : (numAdd d g.natAbs).op = d.op := by unfold numAdd; split <;> rfl
  have dwa : (numAdd d g.natAbs).wa = d.wa := by unfold numAdd; split <;> rfl
  have main : ∀ loc : Nat → Option V, loc 0 = some (.ref 6) → loc 1 = some (.int g) → loc 3 = some (.int n) →
      Wp (M.forS (.tup ((sides d.w g).map .int)) (fun v => M.setL 4 v) (M.seq (Y.ite (X.tcmp (vIn true) (M.getL 4) (X.op1 (getAC 114 (Str.ofString "opened")) (M.getL 0))) (M.seq (Y.assignSub (pure (.bool true)) (X.op1 (getAC 114 (Str.ofString "opened")) (M.getL 0)) (M.getL 4))
  (M.seq (Y.expr (X.meth isLst mApp (X.op1 (getAC 114 (Str.ofString "waiting")) (M.getL 0)) (X.cons (M.getL 4) X.nil)))
  (Y.end))) (Y.end))
  (Y.end))) ⟨loc, τ⟩ (fun f s => f = .next ∧ s.loc 1 = some (.int g) ∧ s.loc 3 = some (.int n) ∧ Fr8 σ s.hp ∧ ClsAt (entered d g) s.hp) := fun loc c0 c1 c3 => by
    refine .forS (xs := (sides d.w g).map .int) (fun i s => EnI σ g n i (((sides d.w g).take i).foldl openS (numAdd d g.natAbs)) s) ⟨c0, c1, c3, f1, k1, by decide, by simp [dop, h3], by simp [dwa, h4]⟩ (fun _ _ _ => rfl) ?_ ?_
    · rintro i s x ⟨a0, a1, a3, a4, a5, a6, a7, a8⟩ hx
      rw [List.getElem?_map] at hx
      obtain ⟨y, hy, rfl⟩ := Option.map_eq_some_iff.mp hx
      have hi : i < 2 := by
        have := (List.getElem?_eq_some_iff.mp hy).1
        unfold sides at this; split at this <;> simp at this <;> (first | lia | omega)
      rw [List.take_add_one, hy]
      simp only [Option.toList, List.foldl_append, List.foldl_cons, List.foldl_nil]
      generalize ((sides d.w g).take i).foldl openS (numAdd d g.natAbs) = e at a5 a7 a8
      refine .setL (.seq (.ite (.tcmp (.getL (v := .int y) rfl (.op1 (.getL (v := .ref 6) a0 (W.kOpened a5 (W.inD (kvs := e.op) (by unfold dView; simp only [a5.op]) (.asBool ⟨fun hb => ?_, fun hb => .end (.end ?_)⟩)))))))))
      · have hb : (kvGet e.op y).isSome = false := by simpa using hb
        have ee : openS e y = { e with op := kvSet e.op y (.bool true), wa := e.wa ++ [y] } := by unfold openS; rw [hb]; rfl
        rw [ee]
        refine .seq (.assignSub (.pure (.op1 (.getL (v := .ref 6) a0 (W.kOpened a5 (.getL (v := .int y) rfl (W.setD a5.op rfl (by (first | lia | omega)) ?_)))))))
        try dsimp only
        have f2 : Fr8 σ (upd s.hp 11 (some (.idict (kvSet e.op y (.bool true))))) := fun n q => by rw [upd_ne _ _ (by (first | lia | omega))]; exact a4 n q
        have k2 : ClsAt { e with op := kvSet e.op y (.bool true) } (upd s.hp 11 (some (.idict (kvSet e.op y (.bool true))))) := ⟨a5.i, a5.a, a5.cs, a5.ga, a5.nu, upd_same _ _ _, a5.wa⟩
        generalize upd s.hp 11 (some (.idict (kvSet e.op y (.bool true)))) = τ2 at f2 k2
        refine .seq (.expr (.meth (.op1 (.getL (v := .ref 6) a0 (W.kWaiting k2 ⟨isLst_ref k2.wa, .cons (.getL (v := .int y) rfl (.nil (W.app k2.wa rfl (by rw [List.length_map]; show e.wa.length < lim; (first | lia | omega)) (.end (.end ?_)))))⟩)))))
        have kl := kvSet_length e.op y (.bool true)
        refine ⟨a0, a1, a3, fun n q => ?_, ⟨k2.i, k2.a, k2.cs, k2.ga, k2.nu, k2.op, ?_⟩, by (first | lia | omega), by show (kvSet e.op y (.bool true)).length ≤ _; (first | lia | omega), by simp; (first | lia | omega)⟩
        · dsimp only; rw [upd_ne _ _ (by (first | lia | omega))]; exact f2 n q
        · dsimp only; rw [upd_same, List.map_append]; rfl
      · have hb : (kvGet e.op y).isSome = true := by simpa using hb
        have ee : openS e y = e := by unfold openS; rw [hb]; rfl
        rw [ee]
        exact ⟨a0, a1, a3, a4, a5, by (first | lia | omega), by (first | lia | omega), by (first | lia | omega)⟩
    · rintro s ⟨a0, a1, a3, a4, a5, _⟩
      rw [List.length_map, List.take_length] at a5
      exact ⟨rfl, a1, a3, a4, a5⟩
  have fin : ∀ s : St, s.loc 1 = some (.int g) → s.loc 3 = some (.int n) → Fr8 σ s.hp → ClsAt (entered d g) s.hp → Wp (M.seq (Y.ret (X.ife (X.tcmp vGt (M.getL 1) (pure (.int 0))) (M.getL 3) (X.op1 vNeg (M.getL 3)))) (Y.end)) s (fun f s => ∃ v v', flV f = some v ∧ leaveV 260 v s.hp = some v' ∧ (Fr8 σ (cut 260 s.hp) ∧ ClsAt (entered d g) (cut 260 s.hp) ∧ ∃ n : Nat, kvGet (numAdd d g.natAbs).nu (g.natAbs : Int) = some (.int n) ∧ v' = .int (if 0 < g then n else -n))) := fun s b1 b3 b4 b5 => by
    have hc : cut 260 s.hp = s.hp := cut_free (b4.free hn (by decide))
    refine .seq (.ret (.ife (.tcmp (.getL b1 (.pure (W.gt (.asBool ⟨fun hb => .getL b3 ⟨_, _, rfl, rfl, ?_⟩, fun hb => .op1 (.getL b3 (W.neg ⟨_, _, rfl, rfl, ?_⟩))⟩)))))))
    · rw [hc]
      have hb : 0 < g := by simpa using hb
      exact ⟨b4, b5, n, hn1, by rw [if_pos hb]⟩
    · rw [hc]
      have hb : ¬ 0 < g := by simpa using hb
      exact ⟨b4, b5, n, hn1, by rw [if_neg hb]⟩
  have both : ∀ v : V, v = .tup ((sides d.w g).map .int) → ∀ loc : Nat → Option V, loc 0 = some (.ref 6) → loc 1 = some (.int g) → loc 3 = some (.int n) → Wp (M.forS v (fun v => M.setL 4 v) (M.seq (Y.ite (X.tcmp (vIn true) (M.getL 4) (X.op1 (getAC 114 (Str.ofString "opened")) (M.getL 0))) (M.seq (Y.assignSub (pure (.bool true)) (X.op1 (getAC 114 (Str.ofString "opened")) (M.getL 0)) (M.getL 4))
  (M.seq (Y.expr (X.meth isLst mApp (X.op1 (getAC 114 (Str.ofString "waiting")) (M.getL 0)) (X.cons (M.getL 4) X.nil)))
  (Y.end))) (Y.end))
  (Y.end))) ⟨loc, τ⟩ (fun f s => f = .next ∧ s.loc 1 = some (.int g) ∧ s.loc 3 = some (.int n) ∧ Fr8 σ s.hp ∧ ClsAt (entered d g) s.hp) := fun v e loc c0 c1 c3 => by subst e; exact main loc c0 c1 c3
  have k1w : (numAdd d g.natAbs).w = d.w := dw
  refine .seq (.for (.ife (.tcmp (.op1 (.getL (v := .ref 6) rfl (W.kWhole k1 (.pure (W.gt (.asBool ⟨fun hb => ?_, fun hb => ?_⟩)))))))))
  · have hb : 0 < d.w := by rw [dw] at hb; simpa using hb
    refine .tup (.cons (.getL (v := .int g.natAbs) rfl (.cons (.op1 (.getL (v := .int g.natAbs) rfl (W.neg (.nil (.mkTup rfl (show 2 ≤ lim by decide) ⟨rfl, ?_⟩))))))))
    refine (both _ (by unfold sides; rw [if_pos hb]; rfl) _ rfl rfl rfl).mono ?_
    rintro f s ⟨rfl, b1, b3, b4, b5⟩
    exact fin s b1 b3 b4 b5
  · have hb : ¬ 0 < d.w := by rw [dw] at hb; simpa using hb
    refine .tup (.cons (.getL (v := .int g) rfl (.nil (.mkTup rfl (show 1 ≤ lim by decide) ⟨rfl, ?_⟩))))
    refine (both _ (by unfold sides; rw [if_neg hb]; rfl) _ rfl rfl rfl).mono ?_
    rintro f s ⟨rfl, b1, b3, b4, b5⟩
    exact fin s b1 b3 b4 b5
end L04
end Lay
end

section
open PySem PySem.W PyProof.Rows
set_option Elab.async false
set_option linter.unusedVariables false
namespace Lay
namespace L04
theorem many_ws {d : Cl} {σ : Hp} (h : ClsAt d σ) (hn : Free 320 σ) (h1 : d.ga.length ≤ 1000) : Ws (runF 320 1 m_Clauses_many) [.ref 6] σ (fun v σ' => v = .int (d.ga.length - 1) ∧ σ' = σ) := by
  have l1100 : 1100 < lim := by decide
  refine Ws.fn rfl ?_
  unfold m_Clauses_many
  refine .seq (.ret (.op2 (.call (.cons (.op1 (.getL (v := .ref 6) rfl (W.kGates h (.nil (W.len (n := d.ga.length) ?_ (by (first | lia | omega)) (.pure (W.sub ⟨_, _, rfl, rfl, rfl, ?_⟩)))))))))))
  · unfold lenOf; simp only [h.ga, List.length_map]
  · exact cut_free hn
theorem W.eqS {a b : Str} {s : St} {Q : V → St → Prop} (ha : SeqAt.shaped (.str a) = true) (hb : SeqAt.shaped (.str b) = true) (k : Q (.bool (a == b)) s) : Wp (vEq false (.str a) (.str b)) s Q := by
  refine ⟨_, _, ?_, k⟩
  have h : ∀ x : Str, dataOf (.str x) s = some (.str x) := fun x => rfl
  unfold R vEq
  simp only [h, ha, hb, Bool.and_self, if_true, PyData.eqv, Bool.xor_false]
theorem kind_shaped (g : G) : SeqAt.shaped (.str g.kind) = true := by
  cases g <;> with_unfolding_all rfl
theorem W.pop {n : Nat} {xs : List V} {u : V} {s : St} {Q : V → St → Prop} (h : s.hp n = some (.list (xs ++ [u]))) (hl : xs.length < lim) (k : Q u { s with hp := upd s.hp n (some (.list xs)) }) : Wp (mPop [.ref n]) s Q := by
  refine ⟨_, _, ?_, k⟩
  unfold R mPop
  have h2 : (xs ++ [u]).length ≤ lim := by simp; (first | lia | omega)
  simp only [h, List.getLast?_concat, List.dropLast_concat, if_pos h2]
end L04
end Lay
end

section
open PySem PySem.W PyProof.Rows
set_option Elab.async false
set_option linter.unusedVariables false
namespace Lay
namespace L04
noncomputable def Num (d : Cl) (g n : Nat) : Prop := kvGet d.nu (g : Int) = some (.int n)
noncomputable def Lit (d : Cl) (s x : Int) : Prop := ∃ n : Nat, Num d s.natAbs n ∧ x = if 0 < s then (n : Int) else -(n : Int)
noncomputable def Model (gs : List G) (τ : Nat → Bool) : Prop := ∀ (i : Nat) (x : G), gs[i]? = some x → match x with
  | .tru => τ i = true
  | .and ps => τ i = true ↔ ∀ p ∈ ps, Yes τ p
  | _ => True
noncomputable def Reads (d : Cl) (τ τ' : Nat → Bool) : Prop := ∀ g n, Num d g n → τ' n = τ g
noncomputable abbrev opK (d : Cl) : List Int := d.op.map (·.1)
noncomputable abbrev nuK (d : Cl) : List Int := d.nu.map (·.1)
structure Inv (gs : List G) (al : List Int) (d : Cl) : Prop where
  ga : d.ga = 0 :: nuK d
  nd : (nuK d).Nodup
  key : ∀ k ∈ nuK d, k ∈ al
  num : ∀ g n, Num d g n → 1 ≤ n ∧ d.ga[n]? = some (g : Int)
  val : ∀ k u, kvGet d.nu k = some u → ∃ n : Nat, u = .int n
  opn : (opK d).Nodup
  opk : ∀ s ∈ opK d, 1 ≤ s.natAbs ∧ (s.natAbs : Int) ∈ nuK d
  was : ∀ s ∈ d.wa, s ∈ opK d
  wan : d.wa.Nodup
  snd : ∀ τ τ', Model gs τ → Reads d τ τ' → Sat τ' d.cs
  row : ∀ c ∈ d.cs, Asc c ∧ ∀ x ∈ c, 1 ≤ x.natAbs ∧ x.natAbs < d.ga.length
structure Ext (d d' : Cl) : Prop where
  w : d'.w = d.w
  num : ∀ g n, Num d g n → Num d' g n
  op : ∀ s ∈ opK d, s ∈ opK d'
  cs : ∀ c ∈ d.cs, c ∈ d'.cs
  new : ∀ s ∈ opK d', s ∉ d'.wa → s ∈ opK d ∧ s ∉ d.wa
  cnt : d'.op.length + d.wa.length = d.op.length + d'.wa.length
  len : d.ga.length ≤ d'.ga.length
theorem Ext.refl (d : Cl) : Ext d d := ⟨rfl, fun _ _ h => h, fun _ h => h, fun _ h => h, fun _ h k => ⟨h, k⟩, rfl, Nat.le_refl _⟩
theorem Ext.trans {a b c : Cl} (h : Ext a b) (k : Ext b c) : Ext a c :=
  ⟨k.w.trans h.w, fun g n q => k.num g n (h.num g n q), fun s q => k.op s (h.op s q), fun s q => k.cs s (h.cs s q), fun s q r => by
    obtain ⟨q1, q2⟩ := k.new s q r; exact h.new s q1 q2, by have := h.cnt; have := k.cnt; (first | lia | omega), Nat.le_trans h.len k.len⟩
theorem Num.fn {d : Cl} {g n n' : Nat} (h : Num d g n) (h' : Num d g n') : n = n' := by
  unfold Num at *
  rw [h] at h'
  cases h'; rfl
theorem Lit.fn {d : Cl} {s x x' : Int} (h : Lit d s x) (h' : Lit d s x') : x = x' := by
  obtain ⟨n, h1, rfl⟩ := h
  obtain ⟨n', h2, rfl⟩ := h'
  rw [h1.fn h2]
theorem Lit.ext {d d' : Cl} {s x : Int} (e : Ext d d') (h : Lit d s x) : Lit d' s x := by
  obtain ⟨n, h1, rfl⟩ := h
  exact ⟨n, e.num _ _ h1, rfl⟩
theorem Inv.numOf {gs : List G} {al : List Int} {d : Cl} (h : Inv gs al d) {g : Nat} (hg : (g : Int) ∈ nuK d) : ∃ n, Num d g n := by
  have := (kv_keys_some d.nu (g : Int)).mpr hg
  obtain ⟨u, hu⟩ := Option.isSome_iff_exists.mp this
  obtain ⟨n, rfl⟩ := h.val _ _ hu
  exact ⟨n, hu⟩
theorem lit_abs {s x : Int} {n : Nat} (h : x = if 0 < s then (n : Int) else -(n : Int)) : x.natAbs = n := by
  subst h; split <;> (first | lia | omega)
theorem Inv.lit_row {gs : List G} {al : List Int} {d : Cl} (h : Inv gs al d) {s x : Int} (hl : Lit d s x) : 1 ≤ x.natAbs ∧ x.natAbs < d.ga.length := by
  obtain ⟨n, h1, h2⟩ := hl
  rw [lit_abs h2]
  obtain ⟨h3, h4⟩ := h.num _ _ h1
  exact ⟨h3, (List.getElem?_eq_some_iff.mp h4).1⟩
theorem Lit.reads {gs : List G} {al : List Int} {d : Cl} (h : Inv gs al d) {s x : Int} {τ τ' : Nat → Bool} (hl : Lit d s x) (hr : Reads d τ τ') : Yes τ' x ↔ Yes τ s := by
  have h0 := (h.lit_row hl).1
  obtain ⟨n, h1, h2⟩ := hl
  have := lit_abs h2
  unfold Yes
  rw [this, hr _ _ h1]
  have : decide (0 < x) = decide (0 < s) := by
    rw [decide_eq_decide]
    subst h2
    split <;> (first | lia | omega)
  rw [this]
noncomputable def Done (gs : List G) (d : Cl) (s : Int) : Prop := ∀ x : G, gs[s.natAbs]? = some x → match x with
  | .tru => ∃ n, Num d s.natAbs n ∧ ∀ τ', Sat τ' d.cs → τ' n = true
  | .and ps => if 0 < s then ∀ p ∈ ps, p ∈ opK d ∧ ∃ x y, Lit d s x ∧ Lit d p y ∧ ∀ τ', Sat τ' d.cs → Yes τ' x → Yes τ' y
      else (∀ p ∈ ps, -p ∈ opK d) ∧ ∃ x, Lit d s x ∧ ∀ τ', Sat τ' d.cs → Yes τ' x → ∃ p ∈ ps, ∃ y, Lit d (-p) y ∧ Yes τ' y
  | _ => True
theorem Sat.ext {d d' : Cl} (e : Ext d d') {τ : Nat → Bool} (h : Sat τ d'.cs) : Sat τ d.cs := fun r hr => h r (e.cs r hr)
theorem Done.ext {gs : List G} {d d' : Cl} {s : Int} (e : Ext d d') (h : Done gs d s) : Done gs d' s := by
  intro x hx
  have := h x hx
  cases x with
  | tru => obtain ⟨n, h1, h2⟩ := this; exact ⟨n, e.num _ _ h1, fun τ' q => h2 τ' (Sat.ext e q)⟩
  | and ps =>
    dsimp only at this ⊢
    split
    · rename_i c
      rw [if_pos c] at this
      intro p hp
      obtain ⟨h1, x, y, h2, h3, h4⟩ := this p hp
      exact ⟨e.op _ h1, x, y, h2.ext e, h3.ext e, fun τ' q => h4 τ' (Sat.ext e q)⟩
    · rename_i c
      rw [if_neg c] at this
      obtain ⟨h1, x, h2, h3⟩ := this
      refine ⟨fun p hp => e.op _ (h1 p hp), x, h2.ext e, fun τ' q r => ?_⟩
      obtain ⟨p, hp, y, h4, h5⟩ := h3 τ' (Sat.ext e q) r
      exact ⟨p, hp, y, h4.ext e, h5⟩
  | non => trivial
  | inp => trivial
theorem numAdd_spec {gs : List G} {al : List Int} {d : Cl} {g : Nat} (h : Inv gs al d) (hg : (g : Int) ∈ al) : Inv gs al (numAdd d g) ∧ Ext d (numAdd d g) ∧ (g : Int) ∈ nuK (numAdd d g) ∧ (numAdd d g).op = d.op ∧ (numAdd d g).wa = d.wa ∧ (numAdd d g).cs = d.cs := by
  unfold numAdd
  split
  · rename_i q
    exact ⟨h, Ext.refl d, (kv_keys_some _ _).mp q, rfl, rfl, rfl⟩
  · rename_i q
    have hk : (g : Int) ∉ nuK d := fun k => q ((kv_keys_some _ _).mpr k)
    have hkeys : (kvSet d.nu (g : Int) (.int d.ga.length)).map (·.1) = nuK d ++ [(g : Int)] := by rw [kvSet_keys, if_neg hk]
    have hnone : kvGet d.nu (g : Int) = none := by
      cases e : kvGet d.nu (g : Int) with
      | none => rfl
      | some u => rw [e] at q; exact absurd rfl q
    have hnum : ∀ g' n : Nat, kvGet d.nu (g' : Int) = some (.int n) → kvGet (kvSet d.nu (g : Int) (.int d.ga.length)) (g' : Int) = some (.int n) := fun g' n hn => by
      rw [kvGet_set]
      by_cases e : (g' : Int) = g
      · rw [e, hnone] at hn; cases hn
      · rw [if_neg e]; exact hn
    refine ⟨⟨?_, ?_, ?_, ?_, ?_, h.opn, ?_, h.was, h.wan, ?_, ?_⟩, ⟨rfl, ?_, fun _ k => k, fun _ k => k, fun _ k r => ⟨k, r⟩, rfl, by simp⟩, ?_, rfl, rfl, rfl⟩
    · dsimp only [nuK]; rw [hkeys, h.ga]; rfl
    · dsimp only [nuK]; exact kvSet_nodup _ _ _ h.nd
    · dsimp only [nuK]; rw [hkeys]; intro k hk
      rcases List.mem_append.mp hk with q | q
      · exact h.key k q
      · rw [List.mem_singleton] at q; subst q; exact hg
    · intro g' n hn
      unfold Num at hn
      dsimp only at hn ⊢
      rw [kvGet_set] at hn
      split at hn
      · rename_i e
        injection hn with e2
        injection e2 with e3
        have : n = d.ga.length := by (first | lia | omega)
        subst this
        refine ⟨by rw [h.ga]; simp, ?_⟩
        rw [List.getElem?_append_right (Nat.le_refl _), Nat.sub_self, e]; rfl
      · obtain ⟨h1, h2⟩ := h.num g' n hn
        exact ⟨h1, by rw [List.getElem?_append_left (List.getElem?_eq_some_iff.mp h2).1]; exact h2⟩
    · intro k u hu
      dsimp only at hu
      rw [kvGet_set] at hu
      split at hu
      · cases hu; exact ⟨_, rfl⟩
      · exact h.val k u hu
    · intro s hs
      obtain ⟨h1, h2⟩ := h.opk s hs
      exact ⟨h1, by dsimp only [nuK]; rw [hkeys]; exact List.mem_append_left _ h2⟩
    · intro τ τ' hm hr
      exact h.snd τ τ' hm fun g' n hn => hr g' n (hnum g' n hn)
    · intro c hc
      obtain ⟨h1, h2⟩ := h.row c hc
      exact ⟨h1, fun x hx => ⟨(h2 x hx).1, by have := (h2 x hx).2; dsimp only; rw [List.length_append]; (first | lia | omega)⟩⟩
    · exact hnum
    · dsimp only [nuK]; rw [hkeys]; simp
theorem openS_spec {gs : List G} {al : List Int} {d : Cl} {s : Int} (h : Inv gs al d) (hs : 1 ≤ s.natAbs) (hk : (s.natAbs : Int) ∈ nuK d) : Inv gs al (openS d s) ∧ Ext d (openS d s) ∧ s ∈ opK (openS d s) ∧ (openS d s).nu = d.nu ∧ (openS d s).ga = d.ga ∧ (openS d s).cs = d.cs := by
  unfold openS
  split
  · rename_i q
    exact ⟨h, Ext.refl d, (kv_keys_some _ _).mp q, rfl, rfl, rfl⟩
  · rename_i q
    have hk2 : s ∉ opK d := fun k => q ((kv_keys_some _ _).mpr k)
    have hkeys : (kvSet d.op s (.bool true)).map (·.1) = opK d ++ [s] := by rw [kvSet_keys, if_neg hk2]
    have hw : s ∉ d.wa := fun k => hk2 (h.was s k)
    refine ⟨⟨h.ga, h.nd, h.key, h.num, h.val, ?_, ?_, ?_, ?_, h.snd, h.row⟩, ⟨rfl, fun _ _ k => k, ?_, fun _ k => k, ?_, ?_, Nat.le_refl _⟩, ?_, rfl, rfl, rfl⟩
    · exact kvSet_nodup _ _ _ h.opn
    · intro x hx
      dsimp only [opK] at hx
      rw [hkeys] at hx
      rcases List.mem_append.mp hx with q | q
      · exact h.opk x q
      · rw [List.mem_singleton] at q; subst q; exact ⟨hs, hk⟩
    · intro x hx
      dsimp only [opK] at hx ⊢
      rw [hkeys]
      rcases List.mem_append.mp hx with q | q
      · exact List.mem_append_left _ (h.was x q)
      · exact List.mem_append_right _ q
    · dsimp only
      rw [List.nodup_append]
      refine ⟨h.wan, by simp, fun a ha b hb => ?_⟩
      rw [List.mem_singleton] at hb
      subst hb
      exact fun e => hw (e ▸ ha)
    · intro x hx
      dsimp only [opK]; rw [hkeys]; exact List.mem_append_left _ hx
    · intro x hx hx2
      dsimp only [opK] at hx hx2
      rw [hkeys] at hx
      rw [List.mem_append, not_or] at hx2
      rcases List.mem_append.mp hx with q | q
      · exact ⟨q, hx2.1⟩
      · exact absurd q hx2.2
    · have := congrArg List.length hkeys
      simp only [List.length_map, List.length_append, List.length_cons, List.length_nil] at this
      try dsimp only
      simp only [List.length_append, List.length_cons, List.length_nil]
      (first | lia | omega)
    · dsimp only [opK]; rw [hkeys]; simp
theorem entered_spec {gs : List G} {al : List Int} {d : Cl} {g : Int} (h : Inv gs al d) (h1 : 1 ≤ g.natAbs) (hg : (g.natAbs : Int) ∈ al) :
    Inv gs al (entered d g) ∧ Ext d (entered d g) ∧ g ∈ opK (entered d g) ∧ (entered d g).cs = d.cs ∧ ∀ n : Nat, kvGet (numAdd d g.natAbs).nu (g.natAbs : Int) = some (.int n) → Lit (entered d g) g (if 0 < g then (n : Int) else -(n : Int)) := by
  obtain ⟨a1, a2, a3, a4, a5, a6⟩ := numAdd_spec h hg
  unfold entered
  generalize numAdd d (g.natAbs : Int) = e at *
  have two : ∀ (L : List Int) (e : Cl), Inv gs al e → (∀ s ∈ L, 1 ≤ s.natAbs ∧ (s.natAbs : Int) ∈ nuK e) → Inv gs al (L.foldl openS e) ∧ Ext e (L.foldl openS e) ∧ (∀ s ∈ L, s ∈ opK (L.foldl openS e)) ∧ (L.foldl openS e).nu = e.nu ∧ (L.foldl openS e).cs = e.cs := by
    intro L
    induction L with
    | nil => intro e he _; exact ⟨he, Ext.refl e, (fun _ q => nomatch q), rfl, rfl⟩
    | cons s r ih =>
      intro e he hs
      obtain ⟨b1, b2, b3, b4, b5, b6⟩ := openS_spec he (hs s (by simp)).1 (hs s (by simp)).2
      obtain ⟨c1, c2, c3, c4, c5⟩ := ih (openS e s) b1 fun x hx => by
        have := hs x (List.mem_cons_of_mem _ hx)
        rw [nuK, b4]; exact this
      rw [List.foldl_cons]
      refine ⟨c1, b2.trans c2, fun x hx => ?_, c4.trans b4, c5.trans b6⟩
      rcases List.mem_cons.mp hx with rfl | q
      · exact c2.op _ b3
      · exact c3 x q
  have hmem : g ∈ sides d.w g := by
    unfold sides
    split
    · have : g = (g.natAbs : Int) ∨ g = -(g.natAbs : Int) := by (first | lia | omega)
      simpa using this
    · simp
  have hab : ∀ s ∈ sides d.w g, s.natAbs = g.natAbs := by
    unfold sides
    split <;> simp
  obtain ⟨c1, c2, c3, c4, c5⟩ := two (sides d.w g) e a1 fun s hs => by rw [hab s hs]; exact ⟨h1, a3⟩
  refine ⟨c1, a2.trans c2, c3 g hmem, c5.trans a6, fun n hn => ⟨n, ?_, rfl⟩⟩
  unfold Num
  rw [c4]; exact hn
theorem tell_spec {gs : List G} {al : List Int} {d : Cl} {L : List Int} {o : Option (List Int)} (h : Inv gs al d) (ho : Res L o) (hL : ∀ x ∈ L, 1 ≤ x.natAbs ∧ x.natAbs < d.ga.length)
    (hs : ∀ τ τ', Model gs τ → Reads d τ τ' → ∃ x ∈ L, Yes τ' x) :
    Inv gs al { d with cs := addC d.cs o } ∧ Ext d { d with cs := addC d.cs o } ∧ (∀ τ, Sat τ (addC d.cs o) → ∃ x ∈ L, Yes τ x) ∧ (addC d.cs o).length ≤ d.cs.length + 1 := by
  cases o with
  | none =>
    refine ⟨h, Ext.refl d, fun τ _ => ?_, Nat.le_succ _⟩
    obtain ⟨x, h1, h2⟩ := ho
    have hx : x ≠ 0 := fun e => by have := (hL x h1).1; subst e; simp at this
    by_cases c : Yes τ x
    · exact ⟨x, h1, c⟩
    · exact ⟨-x, h2, (Yes.neg hx).mpr c⟩
  | some r =>
    obtain ⟨h1, h2, h3⟩ := ho
    refine ⟨⟨h.ga, h.nd, h.key, h.num, h.val, h.opn, h.opk, h.was, h.wan, ?_, ?_⟩, ⟨rfl, fun _ _ k => k, fun _ k => k, fun c k => List.mem_append_left _ k, fun _ k r => ⟨k, r⟩, rfl, Nat.le_refl _⟩, ?_, by simp [addC]⟩
    · intro τ τ' hm hr c hc
      rcases List.mem_append.mp hc with q | q
      · exact h.snd τ τ' hm hr c q
      · rw [List.mem_singleton] at q; subst q
        obtain ⟨x, hx, hy⟩ := hs τ τ' hm hr
        exact ⟨x, (h2 x).mpr hx, hy⟩
    · intro c hc
      rcases List.mem_append.mp hc with q | q
      · exact h.row c q
      · rw [List.mem_singleton] at q; subst q
        exact ⟨h3, fun x hx => hL x ((h2 x).mp hx)⟩
    · intro τ hsat
      obtain ⟨x, hx, hy⟩ := hsat r (by simp [addC])
      exact ⟨x, (h2 x).mp hx, hy⟩
end L04
end Lay
end

section
open PySem PySem.W PyProof.Rows
set_option Elab.async false
set_option linter.unusedVariables false
namespace Lay
namespace L04
theorem okK {d : Cl} {s : St} (h : ClsAt d s.hp) {name : Str} (n1 : Str.ofString "circuit" ≠ name) (n2 : Str.ofString "whole" ≠ name) (n3 : Str.ofString "clauses" ≠ name) (n4 : Str.ofString "gates" ≠ name) (n5 : Str.ofString "numbers" ≠ name) (n6 : Str.ofString "opened" ≠ name) (n7 : Str.ofString "waiting" ≠ name) : instOk 114 name (.ref 6) s = true := by
  unfold instOk
  rw [instOf_k h]
  simp only [kvGet_cons, kvGet_nil, if_neg n1, if_neg n2, if_neg n3, if_neg n4, if_neg n5, if_neg n6, if_neg n7]
  rfl
structure CG (gs : List G) (al : List Int) : Prop where
  le : al.length ≤ 12
  gl : gs.length ≤ 1000
  mem : ∀ k ∈ al, ∃ g : Nat, k = g ∧ 1 ≤ g ∧ g < gs.length
  cl : ∀ (i : Nat) (ps : List Int), (i : Int) ∈ al → gs[i]? = some (.and ps) → ps.length ≤ 3 ∧ ∀ p ∈ ps, 1 ≤ p.natAbs ∧ (p.natAbs : Int) ∈ al
theorem Inv.bounds {gs : List G} {al : List Int} {d : Cl} (h : Inv gs al d) (c : CG gs al) : d.nu.length ≤ 12 ∧ d.ga.length ≤ 13 ∧ d.op.length ≤ 24 ∧ d.wa.length ≤ 24 := by
  have h1 := nodup_length_le h.nd h.key
  have h2 : d.ga.length = 1 + d.nu.length := by rw [h.ga]; simp; (first | lia | omega)
  have h3 : (opK d).length ≤ (al ++ al.map (fun x => -x)).length := nodup_length_le h.opn fun s hs => by
    have := h.key _ (h.opk s hs).2
    rw [List.mem_append, List.mem_map]
    rcases Int.le_total 0 s with q | q
    · exact .inl (by rwa [show ((s.natAbs : Nat) : Int) = s by (first | lia | omega)] at this)
    · exact .inr ⟨_, this, by (first | lia | omega)⟩
  have h4 := nodup_length_le h.wan h.was
  have := c.le
  simp only [List.length_map, List.length_append] at h1 h3 h4
  (first | lia | omega)
theorem Inv.hu {gs : List G} {al : List Int} {d : Cl} (h : Inv gs al d) (g : Int) : ∀ u, kvGet d.nu g = some u → ∃ n : Nat, u = .int n := h.val g
theorem enter_iv {d : Cl} {σ : Hp} {g : Int} {gs : List G} {al : List Int} (c : CG gs al) (h : ClsAt d σ) (iv : Inv gs al d) (hn : Free 260 σ) (h1 : 1 ≤ g.natAbs) (hg : (g.natAbs : Int) ∈ al) :
    Ws (runF 260 2 m_Clauses_enter) [.ref 6, .int g] σ (fun u σ' => Fr8 σ σ' ∧ ∃ d' x, u = .int x ∧ ClsAt d' σ' ∧ Inv gs al d' ∧ Ext d d' ∧ d'.cs = d.cs ∧ g ∈ opK d' ∧ Lit d' g x) := by
  obtain ⟨b1, b2, b3, b4⟩ := iv.bounds c
  refine (enter_ws h hn (by (first | lia | omega)) (by (first | lia | omega)) (by (first | lia | omega)) (by (first | lia | omega)) (iv.hu _)).mono ?_
  rintro u σ' ⟨f, k, n, hn, rfl⟩
  obtain ⟨e1, e2, e3, e4, e5⟩ := entered_spec iv h1 hg
  exact ⟨f, entered d g, _, rfl, k, e1, e2, e4, e3, e5 n hn⟩
noncomputable def PartDone (d : Cl) (s p : Int) : Prop := p ∈ opK d ∧ ∃ x y, Lit d s x ∧ Lit d p y ∧ ∀ τ', Sat τ' d.cs → Yes τ' x → Yes τ' y
theorem PartDone.ext {d d' : Cl} {s p : Int} (e : Ext d d') (h : PartDone d s p) : PartDone d' s p := by
  obtain ⟨h1, x, y, h2, h3, h4⟩ := h
  exact ⟨e.op _ h1, x, y, h2.ext e, h3.ext e, fun τ' q => h4 τ' (Sat.ext e q)⟩
inductive OpI (gs : List G) (al : List Int) (d : Cl) (σ : Hp) (k : Nat) (d' : Cl) (τ : Hp) : Prop
  | mk (h1 : Fr8 σ τ) (h2 : ClsAt d' τ) (h3 : Inv gs al d') (h4 : Ext d d') (h5 : d'.cs.length ≤ d.cs.length + k)
inductive OpF (gs : List G) (al : List Int) (d : Cl) (σ : Hp) (sd : Int) (n : Nat) (ps : List Int) (i : Nat) (s' : St) : Prop
  | mk (h0 : s'.loc 0 = some (.ref 6)) (h3 : s'.loc 3 = some (.int n)) (d' : Cl) (o : OpI gs al d σ i d' s'.hp) (h : ∀ p ∈ ps.take i, PartDone d' sd p)
inductive OpC (gs : List G) (al : List Int) (d : Cl) (σ : Hp) (ps : List Int) (i : Nat) (acc : List V) (s' : St) : Prop
  | mk (h0 : s'.loc 0 = some (.ref 6)) (d' : Cl) (ys : List Int) (e : acc = ys.map V.int) (o : OpI gs al d σ 0 d' s'.hp) (l : ys.length = i) (h : ∀ j p, ps[j]? = some p → j < i → -p ∈ opK d' ∧ ∃ y, ys[j]? = some y ∧ Lit d' (-p) y)
theorem open_ws {d : Cl} {σ : Hp} {gs : List G} {kn : List (List Int × V)} {al : List Int} {s : Int} (c : CG gs al) (h : ClsAt d σ) (hc : CircAt gs kn σ) (iv : Inv gs al d) (hn : Free 240 σ) (hs : s ∈ opK d) (hl : d.cs.length ≤ 500) :
    Ws (runF 240 2 m_Clauses_open_gate) [.ref 6, .int s] σ (fun u σ' => ∃ d', OpI gs al d σ 3 d' σ' ∧ Done gs d' s) := by
  have l1000 : 1000 < lim := by decide
  obtain ⟨s1, s2⟩ := iv.opk s hs
  obtain ⟨n, hnum⟩ := iv.numOf s2
  have sal := iv.key _ s2
  obtain ⟨g0, e0, _, hlt⟩ := c.mem _ sal
  have hlt : s.natAbs < gs.length := by (first | lia | omega)
  obtain ⟨n1, n2⟩ := iv.num _ _ hnum
  have n3 : n < d.ga.length := (List.getElem?_eq_some_iff.mp n2).1
  have hx : gs[s.natAbs]? = some gs[s.natAbs] := List.getElem?_eq_getElem hlt
  generalize gs[s.natAbs] = x at hx
  refine Ws.fn rfl ?_
  unfold m_Clauses_open_gate
  refine .seq (.assignSwap (.cons (.meth (.op1 (.getL (v := .ref 6) rfl (W.kCircuit h ⟨okC hc (by decide) (by decide) (by decide), .cons (.call (.cons (.getL (v := .int s) rfl (.nil (W.abs (.nil (.callM ((kind_ws (g := (s.natAbs : Int)) (x := x) hc (by rw [Int.natAbs_natCast]; exact hx) c.gl (hn.mono (by decide))).mono ?_))))))))⟩))))))
  rintro v σ ⟨rfl, rfl⟩
  try dsimp only
  refine .cons (.op2 (.op1 (.getL (v := .ref 6) rfl (W.kNumbers h (.call (.cons (.getL (v := .int s) rfl (.nil (W.abs (Wp.ofR (P.item_d (kvs := d.nu) (u := .int n) ?_ hnum) (.nil ⟨show 2 ≤ 100 by decide, .sets1 (.sets1 (.sets0 ?_))⟩)))))))))))
  · unfold dView; simp only [h.nu]
  try dsimp only
  have done : ∀ (d' : Cl) (s' : St), OpI gs al d σ 3 d' s'.hp → Done gs d' s → ∃ v v', flV .next = some v ∧ leaveV 240 v s'.hp = some v' ∧ ∃ d', OpI gs al d σ 3 d' (cut 240 s'.hp) ∧ Done gs d' s := fun d' s' a b => by
    refine ⟨_, _, rfl, rfl, d', ?_, b⟩
    rw [cut_free (a.1.free hn (by decide))]; exact a
  have hkd : ∀ y : G, (x.kind == y.kind) = true → x = y ∨ ∃ ps qs, x = .and ps ∧ y = .and qs := fun y hy => by
    cases x <;> cases y <;> first | exact .inl rfl | exact .inr ⟨_, _, rfl, rfl⟩ | exact absurd hy (by simp only [G.kind]; decide)
  have lnum : Lit d s (if 0 < s then (n : Int) else -(n : Int)) := ⟨n, hnum, rfl⟩
  refine .seq (.ite (.tcmp (.getL (v := .str x.kind) rfl (.pure (W.eqS (kind_shaped x) (kind_shaped .tru) (.asBool ⟨fun hb => ?_, fun hb => ?_⟩))))))
  · have hxt : x = .tru := (hkd .tru hb).elim id fun ⟨_, _, _, q⟩ => nomatch q
    subst hxt
    refine .seq (.expr (.meth (.getL (v := .ref 6) rfl ⟨okK h (by decide) (by decide) (by decide) (by decide) (by decide) (by decide) (by decide), .cons (.list (.cons (.getL (v := .int n) rfl (.nil (.mkLst rfl (show 1 ≤ lim by decide) (.nil (.callM ((tell_ws (L := [(n : Int)]) h (hn.mono (by decide)) (SeqIs.lst (L := [(n : Int)])) (show 1 < 64 by decide) ?_ (by (first | lia | omega))).mono ?_))))))))⟩)))
    · intro y hy; rw [List.mem_singleton] at hy; (first | lia | omega)
    rintro v τ ⟨rfl, f, o, ho, k⟩
    obtain ⟨t1, t2, t3, t4⟩ := tell_spec iv ho (fun y hy => by rw [List.mem_singleton] at hy; (first | lia | omega)) (fun τ τ' hm hr => ⟨n, by simp, by
      have := hm _ _ hx
      dsimp only at this
      unfold Yes
      rw [Int.natAbs_natCast, hr _ _ hnum, this]; simp; (first | lia | omega)⟩)
    refine .end (.end (done _ _ ⟨f, k, t1, t2, by dsimp only; (first | lia | omega)⟩ fun x' hx' => ?_))
    rw [hx] at hx'
    cases hx'
    refine ⟨n, hnum, fun τ' q => ?_⟩
    obtain ⟨y, hy, q⟩ := t3 τ' q
    rw [List.mem_singleton] at hy
    subst hy
    unfold Yes at q
    rw [Int.natAbs_natCast] at q
    rw [q]; simp; (first | lia | omega)
  have notTrue : x ≠ .tru := fun e => by subst e; exact absurd hb (by decide)
  refine .seq (.ite (.and1 (.tcmp (.getL (v := .str x.kind) rfl (.pure (W.eqS (kind_shaped x) (kind_shaped (.and [])) (.asBool ⟨fun hb2 => ?_, fun hb2 => ⟨nofun, fun _ => ?_⟩⟩)))))))
  · obtain ⟨ps, rfl⟩ : ∃ ps, x = .and ps := by rcases hkd (.and []) hb2 with q | ⟨ps, _, q, _⟩ <;> exact ⟨_, q⟩
    obtain ⟨pl, pok⟩ := c.cl _ _ sal hx
    refine .and1 (.tcmp (.getL (v := .int s) rfl (.pure (W.gt (.asBool ⟨fun hs0 => .and0 ⟨fun _ => ?_, nofun⟩, fun hs0 => ⟨nofun, fun _ => ?_⟩⟩)))))
    · have hs0 : 0 < s := by simpa using hs0
      rw [if_pos hs0] at lnum
      refine .seq (.for (.meth (.op1 (.getL (v := .ref 6) rfl (W.kCircuit h ⟨okC hc (by decide) (by decide) (by decide), .cons (.getL (v := .int s) rfl (.nil (.callM ((parts_ws (g := s) (x := .and ps) hc hx c.gl (hn.mono (by decide))).mono ?_))))⟩)))))
      rintro v σ ⟨rfl, rfl⟩
      refine ⟨rfl, ?_⟩
      refine .forS (xs := ps.map .int) (OpF gs al d σ s n ps) ⟨rfl, rfl, d, ⟨Fr8.refl _, h, iv, Ext.refl d, Nat.le_refl _⟩, by simp⟩ (fun _ _ _ => rfl) ?_ ?_
      · rintro i s' y ⟨a0, a3, d1, ⟨b1, b2, b3, b4, b5⟩, b6⟩ hy
        rw [List.getElem?_map] at hy
        obtain ⟨p, hp, rfl⟩ := Option.map_eq_some_iff.mp hy
        have hi := (List.getElem?_eq_some_iff.mp hp).1
        have hpm := List.mem_of_getElem? hp
        obtain ⟨p1, p2⟩ := pok p hpm
        refine .setL (.seq (.expr (.meth (.getL (v := .ref 6) a0 ⟨okK b2 (by decide) (by decide) (by decide) (by decide) (by decide) (by decide) (by decide), .cons (.list (.cons (.op1 (.getL (v := .int n) a3 (W.neg (.cons (.meth (.getL (v := .ref 6) a0 ⟨okK b2 (by decide) (by decide) (by decide) (by decide) (by decide) (by decide) (by decide), .cons (.getL (v := .int p) rfl (.nil (.callM ((enter_iv c b2 b3 ((b1.free hn (by decide)).mono (by decide)) p1 p2).mono ?_))))⟩))))))))⟩))))
        rintro v τ ⟨f, d2, z, rfl, k2, iv2, e2, c2, o2, l2⟩
        have hz := iv2.lit_row l2
        have lnum2 := (lnum.ext b4).ext e2
        have hnr := iv2.lit_row lnum2
        refine .nil (.mkLst rfl (show 2 ≤ lim by decide) (.nil (.callM ((tell_ws (L := [-(n : Int), z]) k2 ((b1.trans f).free (hn.mono (by decide)) (by decide)) (SeqIs.lst (L := [-(n : Int), z])) (show 2 < 64 by decide) ?_ (by rw [c2]; (first | lia | omega))).mono ?_))))
        · intro y hy
          simp only [List.mem_cons, List.not_mem_nil, or_false] at hy
          rcases hy with rfl | rfl <;> (first | lia | omega)
        rintro v τ2 ⟨rfl, f2, o, ho, k⟩
        obtain ⟨t1, t2, t3, t4⟩ := tell_spec iv2 ho (fun y hy => by
          simp only [List.mem_cons, List.not_mem_nil, or_false] at hy
          rcases hy with rfl | rfl
          · rw [Int.natAbs_neg]; exact hnr
          · exact hz) (fun τ τ' hm hr => by
          by_cases q : Yes τ' n
          · refine ⟨z, by simp, (Lit.reads iv2 l2 hr).mpr ?_⟩
            have q1 := (Lit.reads iv2 lnum2 hr).mp q
            have q2 := hm _ _ hx
            dsimp only at q2
            refine q2.mp ?_ p hpm
            unfold Yes at q1
            rw [q1]; simp [hs0]
          · exact ⟨-n, by simp, (Yes.neg (by (first | lia | omega))).mpr q⟩)
        rw [c2] at t4
        refine .end ⟨a0, a3, _, ⟨(b1.trans f).trans f2, k, t1, (b4.trans e2).trans t2, by dsimp only; rw [c2]; (first | lia | omega)⟩, fun p' hp' => ?_⟩
        rw [List.take_add_one, hp] at hp'
        rcases List.mem_append.mp hp' with q | q
        · exact (b6 p' q).ext (e2.trans t2)
        · have : p' = p := by simpa using q
          subst this
          refine ⟨t2.op _ o2, n, z, lnum2.ext t2, l2.ext t2, fun τ' q1 q2 => ?_⟩
          obtain ⟨y, hy, q3⟩ := t3 τ' q1
          simp only [List.mem_cons, List.not_mem_nil, or_false] at hy
          rcases hy with rfl | rfl
          · exact absurd q2 ((Yes.neg (by (first | lia | omega))).mp q3)
          · exact q3
      · rintro s' ⟨a0, a3, d1, ⟨b1, b2, b3, b4, b5⟩, b6⟩
        rw [List.length_map] at b5 b6
        rw [List.take_length] at b6
        refine .end (.end (.end (done d1 _ ⟨b1, b2, b3, b4, by (first | lia | omega)⟩ fun x' hx' => ?_)))
        rw [hx] at hx'
        cases hx'
        try dsimp only
        rw [if_pos hs0]
        exact b6
    · have hs0 : ¬ 0 < s := by simpa using hs0
      rw [if_neg hs0] at lnum
      refine .seq (.ite (.tcmp (.getL (v := .str (G.and ps).kind) rfl (.pure (W.eqS (kind_shaped (.and ps)) (kind_shaped (.and [])) (.asBool ⟨fun _ => ?_, fun hb3 => absurd hb3 (by simp only [G.kind]; decide)⟩))))))
      refine .seq (.expr (.meth (.getL (v := .ref 6) rfl ⟨okK h (by decide) (by decide) (by decide) (by decide) (by decide) (by decide) (by decide), .cons (.op2 (.list (.cons (.getL (v := .int n) rfl (.nil (.mkLst rfl (show 1 ≤ lim by decide) (.comp (.meth (.op1 (.getL (v := .ref 6) rfl (W.kCircuit h ⟨okC hc (by decide) (by decide) (by decide), .cons (.op1 (.getL (v := .int s) rfl (W.neg (.nil (.callM ((parts_ws (g := -s) (x := .and ps) hc (by rw [Int.natAbs_neg]; exact hx) c.gl (hn.mono (by decide))).mono ?_))))))⟩)))))))))))⟩)))
      rintro v σ ⟨rfl, rfl⟩
      refine ⟨rfl, ?_⟩
      refine .compM (xs := ps.map .int) (OpC gs al d σ ps) ⟨rfl, d, [], rfl, ⟨Fr8.refl _, h, iv, Ext.refl d, Nat.le_refl _⟩, rfl, fun _ _ _ q => absurd q (Nat.not_lt_zero _)⟩ (fun _ _ _ _ => rfl) ?_ ?_
      · rintro i acc s' y ⟨a0, d1, ys, rfl, ⟨b1, b2, b3, b4, b5⟩, b6, b7⟩ hy
        rw [List.getElem?_map] at hy
        obtain ⟨p, hp, rfl⟩ := Option.map_eq_some_iff.mp hy
        have hi := (List.getElem?_eq_some_iff.mp hp).1
        obtain ⟨p1, p2⟩ := pok p (List.mem_of_getElem? hp)
        refine .and0 ⟨nofun, fun _ => .meth (.getL (v := .ref 6) a0 ⟨okK b2 (by decide) (by decide) (by decide) (by decide) (by decide) (by decide) (by decide), .cons (.op1 (.getL (v := .int p) rfl (W.neg (.nil (.callM ((enter_iv (g := -p) c b2 b3 (b1.free (hn.mono (by decide)) (by decide)) (by rw [Int.natAbs_neg]; exact p1) (by rw [Int.natAbs_neg]; exact p2)).mono ?_))))))⟩)⟩
        rintro v τ ⟨f, d2, z, rfl, k2, iv2, e2, c2, o2, l2⟩
        refine ⟨rfl, by rw [List.length_map]; (first | lia | omega), a0, d2, ys ++ [z], by rw [List.map_append]; rfl, ⟨b1.trans f, k2, iv2, b4.trans e2, by rw [c2]; exact b5⟩, by simp [b6], fun j p' hj hlt => ?_⟩
        by_cases q : j < i
        · obtain ⟨q1, y, q2, q3⟩ := b7 j p' hj q
          exact ⟨e2.op _ q1, y, by rw [List.getElem?_append_left (by (first | lia | omega))]; exact q2, q3.ext e2⟩
        · have : j = i := by (first | lia | omega)
          subst this
          rw [hp] at hj
          cases hj
          exact ⟨o2, z, by rw [← b6, List.getElem?_append_right (Nat.le_refl _), Nat.sub_self]; rfl, l2⟩
      · rintro acc s' ⟨a0, d1, ys, rfl, ⟨b1, b2, b3, b4, b5⟩, b6, b7⟩
        rw [List.length_map] at b6 b7
        have ysr : ∀ y ∈ ys, ∃ p ∈ ps, Lit d1 (-p) y := fun y hy => by
          obtain ⟨j, hj, rfl⟩ := List.mem_iff_getElem.mp hy
          have hjp : j < ps.length := by (first | lia | omega)
          obtain ⟨_, y, q2, q3⟩ := b7 j ps[j] (List.getElem?_eq_getElem hjp) hjp
          rw [List.getElem?_eq_getElem hj] at q2
          cases q2
          exact ⟨ps[j], List.getElem_mem hjp, q3⟩
        have psr : ∀ p ∈ ps, -p ∈ opK d1 ∧ ∃ y ∈ ys, Lit d1 (-p) y := fun p hp => by
          obtain ⟨j, hj, rfl⟩ := List.mem_iff_getElem.mp hp
          obtain ⟨q1, y, q2, q3⟩ := b7 j ps[j] (List.getElem?_eq_getElem hj) hj
          exact ⟨q1, y, List.mem_of_getElem? q2, q3⟩
        have lnum2 := lnum.ext b4
        have hnr := b3.lit_row lnum2
        have lrow : ∀ x ∈ (n : Int) :: ys, 1 ≤ x.natAbs ∧ x.natAbs < d1.ga.length := fun x hx => by
          rcases List.mem_cons.mp hx with rfl | q
          · rw [Int.natAbs_neg] at hnr; exact hnr
          · obtain ⟨p, _, q2⟩ := ysr x q; exact b3.lit_row q2
        refine .mkLst (ints_low _) (by rw [List.length_map]; (first | lia | omega)) (W.addL (a := [.int n]) (b := ys.map .int) rfl rfl ?_ ?_ (.nil (.callM ((tell_ws (L := (n : Int) :: ys) b2 (b1.free (hn.mono (by decide)) (by decide)) (SeqIs.lst (L := (n : Int) :: ys)) ?_ ?_ (by (first | lia | omega))).mono ?_))))
        · exact ints_low ((n : Int) :: ys)
        · simp only [List.length_append, List.length_cons, List.length_nil, List.length_map]; (first | lia | omega)
        · simp only [List.length_cons]; (first | lia | omega)
        · intro x hx e
          have := (lrow x hx).1
          subst e; simp at this
        rintro v τ2 ⟨rfl, f2, o, ho, k⟩
        obtain ⟨t1, t2, t3, t4⟩ := tell_spec b3 ho lrow (fun τ τ' hm hr => by
          by_cases q : Yes τ' n
          · exact ⟨n, by simp, q⟩
          · have q1 := (Lit.reads b3 lnum2 hr).mp ((Yes.neg (by (first | lia | omega))).mpr q)
            have q2 := hm _ _ hx
            dsimp only at q2
            have q3 : ¬ ∀ p ∈ ps, Yes τ p := fun q4 => by
              have := q2.mpr q4
              unfold Yes at q1
              rw [this] at q1
              simp [hs0] at q1
            simp only [Classical.not_forall] at q3
            obtain ⟨p, hp, q4⟩ := q3
            obtain ⟨_, y, q5, q6⟩ := psr p hp
            have hp0 := (pok p hp).1
            exact ⟨y, List.mem_cons_of_mem _ q5, (Lit.reads b3 q6 hr).mpr ((Yes.neg (by (first | lia | omega))).mpr q4)⟩)
        refine .end (.end (.end (.end (done _ _ ⟨b1.trans f2, k, t1, b4.trans t2, by dsimp only; (first | lia | omega)⟩ fun x' hx' => ?_))))
        rw [hx] at hx'
        cases hx'
        try dsimp only
        rw [if_neg hs0]
        refine ⟨fun p hp => t2.op _ (psr p hp).1, -n, lnum2.ext t2, fun τ' q1 q2 => ?_⟩
        obtain ⟨y, hy, q3⟩ := t3 τ' q1
        rcases List.mem_cons.mp hy with rfl | q
        · exact absurd q3 ((Yes.neg (by (first | lia | omega))).mp q2)
        · obtain ⟨p, hp, q4⟩ := ysr y q
          exact ⟨p, hp, y, q4.ext t2, q3⟩
  · refine .seq (.ite (.tcmp (.getL (v := .str x.kind) rfl (.pure (W.eqS (kind_shaped x) (kind_shaped (.and [])) (.asBool ⟨fun hb3 => ?_, fun hb3 => .end (.end (.end (.end (done d _ ⟨Fr8.refl _, h, iv, Ext.refl d, Nat.le_add_right _ _⟩ fun x' hx' => ?_))))⟩))))))
    · have : (x.kind == (G.and []).kind) = false := hb2
      exact absurd (this.symm.trans hb3) (by decide)
    · rw [hx] at hx'
      cases hx'
      cases x with
      | tru => exact absurd rfl notTrue
      | and ps => exact absurd hb2 (by simp only [G.kind]; decide)
      | non => trivial
      | inp => trivial
end L04
end Lay
end

section
open PySem PySem.W PyProof.Rows
set_option Elab.async false
set_option linter.unusedVariables false
namespace Lay
theorem Wp.whileW {mt : M Bool} {mb : M Fl} {s : St} {Q : Fl → St → Prop} (I : Nat → St → Prop) {k : Nat} (h0 : I k s)
    (step : ∀ k s, I k s → Wp mt s (fun b s1 => (b = false → Q .next s1) ∧ (b = true → Wp mb s1 (fun f s2 => f = .next ∧ ∃ j, j < k ∧ I j s2)))) : Wp (M.whileW mt mb) s Q := by
  have ex : ∀ k s, I k s → ∃ n r, M.whileN mt mb n s = some r := by
    intro k
    induction k using Nat.strongRecOn with
    | ind k ih =>
      intro s hs
      obtain ⟨b, s1, h1, h2, h3⟩ := step k s hs
      cases b with
      | false => exact ⟨1, _, R.bind h1 (R.pure (a := Fl.next))⟩
      | true =>
        obtain ⟨f, s2, h4, rfl, j, h5, h6⟩ := h3 rfl
        obtain ⟨n, ⟨g, s3⟩, h7⟩ := ih j h5 s2 h6
        exact ⟨n + 1, (g, s3), R.bind h1 (R.bind h4 h7)⟩
  have all : ∀ n k s r, I k s → M.whileN mt mb n s = some r → Q r.1 r.2 := by
    intro n
    induction n with
    | zero => intro k s r _ h; cases h
    | succ n ih =>
      intro k s r hs h
      obtain ⟨b, s1, h1, h2, h3⟩ := step k s hs
      unfold M.whileN at h
      rw [M.bind_eq, h1] at h
      cases b with
      | false => cases h; exact h2 rfl
      | true =>
        obtain ⟨f, s2, h4, rfl, j, h5, h6⟩ := h3 rfl
        simp only [if_true] at h
        rw [M.bind_eq, h4] at h
        exact ih j s2 r h6 h
  have hex := ex k s h0
  refine ⟨_, _, ?_, all (Classical.choose hex) k s (Classical.choose (Classical.choose_spec hex)) h0 (Classical.choose_spec (Classical.choose_spec hex))⟩
  unfold R M.whileW
  rw [dif_pos hex]
namespace L04
theorem W.setA {Cl : Addr} {n d : Nat} {name : Str} {u : V} {kvs : List (Str × V)} {s : St} {Q : Unit → St → Prop} (h : s.hp n = some (.inst Cl d)) (h2 : s.hp d = some (.attrs kvs)) (hu : u.low = true) (hl : kvs.length < 1000) (k : Q () { s with hp := upd s.hp d (some (.attrs (kvSet kvs name u))) }) : Wp (Lay.setA Cl name (.ref n) u) s Q := by
  refine ⟨_, _, ?_, k⟩
  unfold R Lay.setA
  simp only [h, h2]
  rw [if_pos ⟨trivial, hu, hl⟩]
theorem kvSet_new {K : Type} [DecidableEq K] {α : Type} {kvs : List (K × α)} {k : K} {v : α} (h : k ∉ kvs.map (·.1)) : kvSet kvs k v = kvs ++ [(k, v)] := by
  unfold kvSet
  rw [if_neg]
  intro q
  rw [kvGet_some_of_any, kv_keys_some] at q
  exact h q
noncomputable def Pend (gs : List G) (d : Cl) : Prop := ∀ s ∈ opK d, s ∉ d.wa → Done gs d s
inductive FlI (gs : List G) (al : List Int) (d : Cl) (σ : Hp) (k : Nat) (d' : Cl) (τ : Hp) : Prop
  | mk (h1 : Fr8 σ τ) (h2 : ClsAt d' τ) (h3 : Inv gs al d') (h4 : Pend gs d') (h5 : d'.cs.length + 3 * d'.wa.length ≤ 3 * d'.op.length) (h6 : (∀ s ∈ opK d, s ∈ opK d')) (h7 : (∀ g n, Num d g n → Num d' g n)) (h8 : k + d'.op.length = 24 + d'.wa.length)
inductive FlW (gs : List G) (al : List Int) (d : Cl) (σ : Hp) (k : Nat) (s : St) : Prop
  | mk (h0 : s.loc 0 = some (.ref 6)) (d' : Cl) (h : FlI gs al d σ k d' s.hp)
theorem flush_ws {d : Cl} {σ : Hp} {gs : List G} {kn : List (List Int × V)} {al : List Int} (c : CG gs al) (h : ClsAt d σ) (hc : CircAt gs kn σ) (iv : Inv gs al d) (hn : Free 220 σ) (pe : Pend gs d) (hl : d.cs.length + 3 * d.wa.length ≤ 3 * d.op.length) :
    Ws (runF 220 1 m_Clauses_flush) [.ref 6] σ (fun u σ' => ∃ k d', FlI gs al d σ k d' σ' ∧ d'.wa = []) := by
  have l1000 : 1000 < lim := by decide
  obtain ⟨b1, b2, b3, b4⟩ := iv.bounds c
  refine Ws.fn rfl ?_
  unfold m_Clauses_flush
  refine .seq (.whileW (FlW gs al d σ) (k := 24 + d.wa.length - d.op.length) ⟨rfl, d, Fr8.refl _, h, iv, pe, hl, fun _ q => q, fun _ _ q => q, by (first | lia | omega)⟩ ?_)
  rintro k s ⟨a0, d1, f1, k1, iv1, p1, l1, o1, n1, m1⟩
  obtain ⟨c1, c2, c3, c4⟩ := iv1.bounds c
  have hw : ∀ loc, lenOf (.ref 12) ⟨loc, s.hp⟩ = some d1.wa.length := fun loc => by unfold lenOf; simp only [k1.wa, List.length_map]
  refine .tcmp (.call (.cons (.op1 (.getL (v := .ref 6) a0 (W.kWaiting k1 (.nil (W.len (n := d1.wa.length) (hw _) (by (first | lia | omega)) (.pure (W.gt (.asBool ⟨fun hb => ?_, fun hb => ?_⟩))))))))))
  · have hb : d1.wa.length = 0 := by simp at hb; simpa using hb
    have hb : d1.wa = [] := List.eq_nil_of_length_eq_zero hb
    refine .end ⟨_, _, rfl, rfl, k, d1, ?_, hb⟩
    rw [cut_free (f1.free hn (by decide))]
    exact ⟨f1, k1, iv1, p1, l1, o1, n1, m1⟩
  have hb : d1.wa ≠ [] := by intro e; rw [e] at hb; simp at hb
  obtain ⟨w, u, hwu⟩ : ∃ w u, d1.wa = w ++ [u] := ⟨_, _, (List.dropLast_concat_getLast hb).symm⟩
  have hwl : d1.wa.length = w.length + 1 := by rw [hwu]; simp
  have hnd := List.nodup_append.mp (hwu ▸ iv1.wan)
  have hu : u ∈ opK d1 := iv1.was u (by rw [hwu]; simp)
  have huw : u ∉ w := fun q => hnd.2.2 u q u (by simp) rfl
  have hpop : s.hp 12 = some (.list (w.map .int ++ [.int u])) := by rw [k1.wa, hwu, List.map_append]; rfl
  refine .seq (.expr (.meth (.getL (v := .ref 6) a0 ⟨okK k1 (by decide) (by decide) (by decide) (by decide) (by decide) (by decide) (by decide), .cons (.meth (.op1 (.getL (v := .ref 6) a0 (W.kWaiting k1 ⟨isLst_ref k1.wa, .nil (W.pop hpop (by rw [List.length_map]; (first | lia | omega)) (.nil ?_))⟩))))⟩)))
  try dsimp only
  have iv2 : Inv gs al { d1 with wa := w } := ⟨iv1.ga, iv1.nd, iv1.key, iv1.num, iv1.val, iv1.opn, iv1.opk, fun s hs => iv1.was s (by rw [hwu]; exact List.mem_append_left _ hs), hnd.1, iv1.snd, iv1.row⟩
  have k2 : ClsAt { d1 with wa := w } (upd s.hp 12 (some (.list (w.map .int)))) := ⟨k1.i, k1.a, k1.cs, k1.ga, k1.nu, k1.op, upd_same _ _ _⟩
  have f2 : Fr8 σ (upd s.hp 12 (some (.list (w.map .int)))) := fun n q => by rw [upd_ne _ _ (by (first | lia | omega))]; exact f1 n q
  refine .callM ((open_ws (gs := gs) (kn := kn) (al := al) c k2 (hc.mono fun n q => f2 n (.inl (by (first | lia | omega)))) iv2 ((f2.free hn (by decide)).mono (by decide)) hu (by dsimp only; (first | lia | omega))).mono ?_)
  rintro v τ ⟨d3, ⟨g1, g2, g3, g4, g5⟩, g6⟩
  have g7 := g4.cnt
  dsimp only at g5 g7
  obtain ⟨e1, e2, e3, e4⟩ := g3.bounds c
  refine .end ⟨rfl, k - 1, by (first | lia | omega), a0, d3, f2.trans g1, g2, g3, fun x hx hx2 => ?_, by (first | lia | omega), fun x hx => g4.op _ (o1 x hx), fun g n q => g4.num _ _ (n1 g n q), by (first | lia | omega)⟩
  obtain ⟨q1, q2⟩ := g4.new x hx hx2
  by_cases e : x = u
  · subst e; exact g6
  · have : Done gs d1 x := p1 x q1 (by rw [hwu, List.mem_append, not_or]; exact ⟨q2, by simpa using e⟩)
    exact Done.ext (d := { d1 with wa := w }) g4 this
theorem literal_ws {d : Cl} {σ : Hp} {gs : List G} {kn : List (List Int × V)} {al : List Int} {g : Int} (c : CG gs al) (h : ClsAt d σ) (hc : CircAt gs kn σ) (iv : Inv gs al d) (hn : Free 200 σ) (hop : d.op = []) (hcs : d.cs = []) (hg1 : 1 ≤ g.natAbs) (hg : (g.natAbs : Int) ∈ al) :
    Ws (runF 200 2 m_Clauses_literal_of) [.ref 6, .int g] σ (fun u σ' => Fr8 σ σ' ∧ ∃ d' x, u = .int x ∧ ClsAt d' σ' ∧ Inv gs al d' ∧ d'.wa = [] ∧ (∀ s ∈ opK d', Done gs d' s) ∧ g ∈ opK d' ∧ Lit d' g x ∧ (∀ g n, Num d g n → Num d' g n) ∧ d'.cs.length ≤ 72) := by
  have hwa : d.wa = [] := by
    cases e : d.wa with
    | nil => rfl
    | cons a r => have := iv.was a (by rw [e]; simp); unfold opK at this; rw [hop] at this; cases this
  refine Ws.fn rfl ?_
  unfold m_Clauses_literal_of
  refine .seq (.assign (.meth (.getL (v := .ref 6) rfl ⟨okK h (by decide) (by decide) (by decide) (by decide) (by decide) (by decide) (by decide), .cons (.getL (v := .int g) rfl (.nil (.callM ((enter_iv c h iv (hn.mono (by decide)) hg1 hg).mono ?_))))⟩)))
  rintro v τ ⟨f, d1, x, rfl, k1, iv1, e1, c1, o1, l1⟩
  have cnt := e1.cnt
  rw [hop, hwa] at cnt
  simp only [List.length_nil] at cnt
  have pe : Pend gs d1 := fun s hs hs2 => by
    have := (e1.new s hs hs2).1
    unfold opK at this; rw [hop] at this; cases this
  refine .seq (.expr (.meth (.getL (v := .ref 6) rfl ⟨okK k1 (by decide) (by decide) (by decide) (by decide) (by decide) (by decide) (by decide), .nil (.callM ((flush_ws c k1 (hc.mono fun n q => f n (.inl (by (first | lia | omega)))) iv1 ((f.free hn (by decide)).mono (by decide)) pe (by rw [c1, hcs]; simp only [List.length_nil]; (first | lia | omega))).mono ?_))⟩)))
  rintro v τ2 ⟨k, d2, ⟨f2, k2, iv2, p2, q2, q3, q4, q5⟩, q6⟩
  have bb := (iv2.bounds c).2.2.1
  refine .seq (.ret (.getL (v := .int x) rfl ⟨_, _, rfl, rfl, ?_⟩))
  try dsimp only
  rw [cut_free ((f.trans f2).free hn (by decide))]
  refine ⟨f.trans f2, d2, x, rfl, k2, iv2, q6, fun s hs => p2 s hs (by rw [q6]; simp), q3 _ o1, ?_, fun g n q => q4 _ _ (e1.num _ _ q), by (first | lia | omega)⟩
  obtain ⟨n, q7, q8⟩ := l1
  exact ⟨n, q4 _ _ q7, q8⟩
noncomputable def Cl0 (w : Int) : Cl := ⟨w, [], [0], [], [], []⟩
theorem inv0 (gs : List G) (al : List Int) (w : Int) : Inv gs al (Cl0 w) :=
  ⟨rfl, List.nodup_nil, (fun _ h => nomatch h), (fun _ _ h => nomatch h), (fun _ _ h => nomatch h), List.nodup_nil, (fun _ h => nomatch h), (fun _ h => nomatch h), List.nodup_nil, (fun _ _ _ _ _ h => nomatch h), (fun _ h => nomatch h)⟩
noncomputable def Fr6 (σ σ' : Hp) : Prop := ∀ n, n < 6 ∨ 12 < n → σ' n = σ n
inductive InI (gs : List G) (al : List Int) (w : Int) (τ : Hp) (i : Nat) (s : St) : Prop
  | mk (h0 : s.loc 0 = some (.ref 6)) (h1 : s.loc 1 = some (.ref 1)) (f : Fr8 τ s.hp) (d : Cl) (k : ClsAt d s.hp) (iv : Inv gs al d) (dw : d.w = w) (dop : d.op = []) (dcs : d.cs = []) (d4 : ∀ j : Nat, 2 ≤ j → j < 2 + i → gs[j]? = some .inp → (j : Int) ∈ nuK d)
theorem init_ws {gs : List G} {kn : List (List Int × V)} {al : List Int} {w : Int} {σ : Hp} (c : CG gs al) (hc : CircAt gs kn σ) (ha : ∀ i : Nat, gs[i]? = some .inp → (i : Int) ∈ al) (h6 : σ 6 = some (.inst 114 7)) (h7 : σ 7 = some (.attrs [])) (h8 : ∀ n, 8 ≤ n → n ≤ 12 → σ n = none) (hn : Free 280 σ) :
    Ws (runF 280 3 m_Clauses_init__) [.ref 6, .ref 1, .int w] σ (fun u σ' => u = .none ∧ Fr6 σ σ' ∧ ∃ d, ClsAt d σ' ∧ Inv gs al d ∧ d.w = w ∧ d.op = [] ∧ d.cs = [] ∧ ∀ i : Nat, 2 ≤ i → gs[i]? = some .inp → (i : Int) ∈ nuK d) := by
  have l1000 : 1000 < lim := by decide
  have gl := c.gl
  refine Ws.fn rfl ?_
  unfold m_Clauses_init__
  refine .seq (.assignAttr (.getL (v := .ref 1) rfl (.getL (v := .ref 6) rfl (W.setA h6 h7 rfl (by decide) ?_))))
  rw [kvSet_new (by simp)]
  try dsimp only
  refine .seq (.assignAttr (.getL (v := .int w) rfl (.getL (v := .ref 6) rfl (W.setA (d := 7) h6 rfl rfl (show 1 < 1000 by decide) ?_))))
  rw [kvSet_new (by simp only [List.nil_append, List.map_cons, List.map_nil]; decide)]
  try dsimp only
  refine .seq (.assignAttr (.list (.nil (.mkLstS rfl (Nat.zero_le _) (h8 8 (by decide) (by decide)) (.getL (v := .ref 6) rfl (W.setA (d := 7) h6 rfl rfl (show 2 < 1000 by decide) ?_))))))
  rw [kvSet_new (by simp only [List.nil_append, List.cons_append, List.map_cons, List.map_nil]; decide)]
  try dsimp only
  refine .seq (.assignAttr (.list (.cons (.pure (.nil (.mkLstS rfl (show 1 ≤ lim by decide) (h8 9 (by decide) (by decide)) (.getL (v := .ref 6) rfl (W.setA (d := 7) h6 rfl rfl (show 3 < 1000 by decide) ?_))))))))
  rw [kvSet_new (by simp only [List.nil_append, List.cons_append, List.map_cons, List.map_nil]; decide)]
  try dsimp only
  refine .seq (.assignAttr (.new (h8 10 (by decide) (by decide)) (.getL (v := .ref 6) rfl (W.setA (d := 7) h6 rfl rfl (show 4 < 1000 by decide) ?_))))
  rw [kvSet_new (by simp only [List.nil_append, List.cons_append, List.map_cons, List.map_nil]; decide)]
  try dsimp only
  refine .seq (.assignAttr (.new (h8 11 (by decide) (by decide)) (.getL (v := .ref 6) rfl (W.setA (d := 7) h6 rfl rfl (show 5 < 1000 by decide) ?_))))
  rw [kvSet_new (by simp only [List.nil_append, List.cons_append, List.map_cons, List.map_nil]; decide)]
  try dsimp only
  refine .seq (.assignAttr (.list (.nil (.mkLstS rfl (Nat.zero_le _) (h8 12 (by decide) (by decide)) (.getL (v := .ref 6) rfl (W.setA (d := 7) h6 rfl rfl (show 6 < 1000 by decide) ?_))))))
  rw [kvSet_new (by simp only [List.nil_append, List.cons_append, List.map_cons, List.map_nil]; decide)]
  dsimp only [List.nil_append, List.cons_append]
  have fin : ∀ τ : Hp, ClsAt (Cl0 w) τ → Fr6 σ τ → ∀ loc : Nat → Option V, loc 0 = some (.ref 6) → loc 1 = some (.ref 1) →
      Wp (M.seq (Y.for 280 (X.call bRange (X.cons (pure (.int 2)) (X.cons (X.op2 (vAdd none) (X.meth (instOk 224 (Str.ofString "size")) (callM (runF 540 1 m_Circuit_size)) (M.getL 1) X.nil) (pure (.int 1))) X.nil))) (fun v => M.setL 3 v) (M.seq (Y.ite (X.tcmp (vEq false) (X.meth (instOk 224 (Str.ofString "kind")) (callM (runF 520 2 m_Circuit_kind)) (M.getL 1) (X.cons (M.getL 3) X.nil)) (pure (.str (Str.ofString "input")))) (M.seq (Y.expr (X.meth (instOk 114 (Str.ofString "number_of")) (callM (runF 300 2 m_Clauses_number_of)) (M.getL 0) (X.cons (M.getL 3) X.nil)))
  (Y.end)) (Y.end))
  (Y.end)))
  (Y.end)) ⟨loc, τ⟩ (fun f s => ∃ v v', flV f = some v ∧ leaveV 280 v s.hp = some v' ∧ (v' = .none ∧ Fr6 σ (cut 280 s.hp) ∧ ∃ d, ClsAt d (cut 280 s.hp) ∧ Inv gs al d ∧ d.w = w ∧ d.op = [] ∧ d.cs = [] ∧ ∀ i : Nat, 2 ≤ i → gs[i]? = some .inp → (i : Int) ∈ nuK d)) := fun τ k f loc l0 l1 => by
    have hcτ : CircAt gs kn τ := hc.mono fun n q => f n (.inl (by (first | lia | omega)))
    have hnτ : Free 280 τ := fun n q => (f n (.inr (by (first | lia | omega)))).trans (hn n q)
    refine .seq (.for (.call (.cons (.pure (.cons (.op2 (.meth (.getL (v := .ref 1) l1 ⟨okC hcτ (by decide) (by decide) (by decide), .nil (.callM ((size_ws hcτ gl (hnτ.mono (by decide))).mono ?_))⟩))))))))
    rintro v τ ⟨rfl, rfl⟩
    refine .pure (W.add (.nil (W.range2 ⟨rfl, ?_⟩)))
    refine .forS (xs := _) (InI gs al w τ) ⟨l0, l1, Fr8.refl _, Cl0 w, k, inv0 _ _ _, rfl, rfl, rfl, fun j q1 q2 => by (first | lia | omega)⟩ (fun i s _ => rng_items (by decide) (by (first | lia | omega))) ?_ ?_
    · rintro i s x ⟨a0, a1, f1, d, k1, iv, dw, dop, dcs, d4⟩ hx
      obtain ⟨rfl, hi⟩ := rng_get hx
      have hlt : 2 + i < gs.length := by (first | lia | omega)
      have hg : gs[(2 + (i : Int)).natAbs]? = some gs[2 + i] := by rw [show (2 + (i : Int)).natAbs = 2 + i by (first | lia | omega)]; exact List.getElem?_eq_getElem hlt
      have hg2 : gs[2 + i]? = some gs[2 + i] := List.getElem?_eq_getElem hlt
      generalize gs[2 + i] = x at hg hg2
      have hc1 : CircAt gs kn s.hp := hcτ.mono fun n q => f1 n (.inl (by (first | lia | omega)))
      have hn1 : Free 280 s.hp := f1.free hnτ (by decide)
      refine .setL (.seq (.ite (.tcmp (.meth (.getL (v := .ref 1) a1 ⟨okC hc1 (by decide) (by decide) (by decide), .cons (.getL (v := .int (2 + i)) rfl (.nil (.callM ((kind_ws (g := 2 + (i : Int)) (x := x) hc1 hg gl (hn1.mono (by decide))).mono ?_))))⟩)))))
      rintro v σ2 ⟨rfl, rfl⟩
      refine .pure (W.eqS (kind_shaped x) (kind_shaped .inp) (.asBool ⟨fun hb => ?_, fun hb => .end (.end ⟨a0, a1, f1, d, k1, iv, dw, dop, dcs, fun j q1 q2 q3 => ?_⟩)⟩))
      · have hxi : x = .inp := by cases x <;> first | rfl | exact absurd hb (by simp only [G.kind]; decide)
        subst hxi
        have hal := ha _ hg2
        obtain ⟨b1, b2, b3, b4⟩ := iv.bounds c
        refine .seq (.expr (.meth (.getL (v := .ref 6) a0 ⟨okK k1 (by decide) (by decide) (by decide) (by decide) (by decide) (by decide) (by decide), .cons (.getL (v := .int (2 + i)) rfl (.nil (.callM ((number_ws (g := ((2 + i : Nat) : Int)) k1 (hn1.mono (by decide)) (by (first | lia | omega)) (by (first | lia | omega)) (iv.hu _)).mono ?_))))⟩)))
        rintro v τ2 ⟨f2, k2, _⟩
        obtain ⟨n1, n2, n3, n4, n5, n6⟩ := numAdd_spec iv hal
        refine .end (.end ⟨a0, a1, f1.trans f2, _, k2, n1, n2.w.trans dw, n4.trans dop, n6.trans dcs, fun j q1 q2 q3 => ?_⟩)
        by_cases e : j < 2 + i
        · have := d4 j q1 e q3
          obtain ⟨m, hm⟩ := iv.numOf this
          exact (kv_keys_some _ _).mp (by rw [n2.num _ _ hm]; rfl)
        · have : j = 2 + i := by (first | lia | omega)
          subst this
          exact n3
      · by_cases e : j < 2 + i
        · exact d4 j q1 e q3
        · have : j = 2 + i := by (first | lia | omega)
          subst this
          rw [hg2] at q3
          cases q3
          exact absurd hb (by simp only [G.kind]; decide)
    · rintro s ⟨a0, a1, f1, d, k1, iv, dw, dop, dcs, d4⟩
      rw [List.length_map, List.length_range] at d4
      have f3 : Fr6 σ s.hp := fun n q => by rw [f1 n (by (first | lia | omega)), f n q]
      refine .end ⟨_, _, rfl, rfl, rfl, ?_⟩
      rw [cut_free (f1.free hnτ (by decide))]
      refine ⟨f3, d, k1, iv, dw, dop, dcs, fun i q1 q2 => d4 i q1 ?_ q2⟩
      have := (List.getElem?_eq_some_iff.mp q2).1
      (first | lia | omega)
  refine fin _ ?_ ?_ (fun i => [V.ref 6, V.ref 1, V.int w][i]?) rfl rfl
  · exact ⟨h6, rfl, rfl, rfl, rfl, rfl, rfl⟩
  intro n q
  simp only [upd_ne _ _ (show n ≠ 7 by (first | lia | omega)), upd_ne _ _ (show n ≠ 8 by (first | lia | omega)), upd_ne _ _ (show n ≠ 9 by (first | lia | omega)), upd_ne _ _ (show n ≠ 10 by (first | lia | omega)), upd_ne _ _ (show n ≠ 11 by (first | lia | omega)), upd_ne _ _ (show n ≠ 12 by (first | lia | omega))]
end L04
end Lay
end

section
open PySem PySem.W PyProof.Rows
set_option Elab.async false
set_option linter.unusedVariables false
namespace Lay
namespace L04
noncomputable def evG (f : Nat → Bool) (T : List Bool) : G → Bool
  | .non => false
  | .tru => true
  | .inp => f T.length
  | .and ps => ps.all fun p => (T[p.natAbs]?).getD false == decide (0 < p)
noncomputable def tr (f : Nat → Bool) (gs : List G) : List Bool := gs.foldl (fun T x => T ++ [evG f T x]) []
theorem tr_snoc (f : Nat → Bool) (gs : List G) (x : G) : tr f (gs ++ [x]) = tr f gs ++ [evG f (tr f gs) x] := by unfold tr; rw [List.foldl_append]; rfl
theorem tr_length (f : Nat → Bool) (gs : List G) : (tr f gs).length = gs.length := by
  suffices h : ∀ n (gs : List G), gs.length = n → (tr f gs).length = n from h _ gs rfl
  intro n
  induction n with
  | zero => intro gs h; rw [List.eq_nil_of_length_eq_zero h]; rfl
  | succ n ih =>
    intro gs h
    rcases List.eq_nil_or_concat gs with rfl | ⟨q, x, rfl⟩
    · cases h
    · rw [List.concat_eq_append] at h ⊢
      rw [tr_snoc, List.length_append, ih q (by simpa using h)]; rfl
theorem tr_take (f : Nat → Bool) {gs : List G} {i : Nat} {x : G} (h : gs[i]? = some x) : tr f (gs.take (i + 1)) = tr f (gs.take i) ++ [evG f (tr f (gs.take i)) x] := by
  rw [List.take_add_one, h]; exact tr_snoc _ _ _
theorem tr_take_len (f : Nat → Bool) {gs : List G} {i : Nat} (h : i ≤ gs.length) : (tr f (gs.take i)).length = i := by
  rw [tr_length, List.length_take]; (first | lia | omega)
theorem tr_get (f : Nat → Bool) {gs : List G} {j : Nat} (hj : j < gs.length) : ∀ n, j < n → n ≤ gs.length → (tr f (gs.take n))[j]? = (tr f (gs.take (j + 1)))[j]? := by
  intro n
  induction n with
  | zero => intro h; (first | lia | omega)
  | succ n ih =>
    intro h1 h2
    by_cases e : n = j
    · subst e; rfl
    · have hx : gs[n]? = some gs[n] := List.getElem?_eq_getElem h2
      rw [tr_take f hx, List.getElem?_append_left (by rw [tr_take_len f (by (first | lia | omega))]; (first | lia | omega))]
      exact ih (by (first | lia | omega)) (by (first | lia | omega))
noncomputable def val (f : Nat → Bool) (gs : List G) (i : Nat) : Bool := ((tr f gs)[i]?).getD false
theorem tr_val (f : Nat → Bool) {gs : List G} {j n : Nat} (hj : j < n) (hn : n ≤ gs.length) : (tr f (gs.take n))[j]? = some (val f gs j) := by
  have hl : j < (tr f gs).length := by rw [tr_length]; (first | lia | omega)
  have e : (tr f gs)[j]? = some (tr f gs)[j] := List.getElem?_eq_getElem hl
  have h1 := tr_get f (gs := gs) (by (first | lia | omega)) n hj hn
  have h2 := tr_get f (gs := gs) (j := j) (by (first | lia | omega)) gs.length (by (first | lia | omega)) (Nat.le_refl _)
  rw [List.take_length] at h2
  unfold val
  rw [h1, ← h2, e]; rfl
theorem val_eq (f : Nat → Bool) {gs : List G} {i : Nat} {x : G} (h : gs[i]? = some x) : val f gs i = evG f (tr f (gs.take i)) x := by
  have hl := (List.getElem?_eq_some_iff.mp h).1
  have h1 := tr_val f (gs := gs) (j := i) (n := i + 1) (by (first | lia | omega)) (by (first | lia | omega))
  rw [tr_take f h, List.getElem?_append_right (by rw [tr_take_len f (by (first | lia | omega))]; (first | lia | omega)), tr_take_len f (by (first | lia | omega)), Nat.sub_self] at h1
  exact (Option.some.inj h1).symm
theorem val_inp (f : Nat → Bool) {gs : List G} {i : Nat} (h : gs[i]? = some .inp) : val f gs i = f i := by
  have hl := (List.getElem?_eq_some_iff.mp h).1
  rw [val_eq f h]; unfold evG; rw [tr_take_len f (by (first | lia | omega))]
section
variable {m : Nat} {gs : List G} {kn : List (List Int × V)} (ok : COk m gs kn)
include ok
theorem COk.lt {i : Nat} {ps : List Int} (h : gs[i]? = some (.and ps)) {p : Int} (hp : p ∈ ps) : 2 ≤ p.natAbs ∧ p.natAbs < i := by
  rcases ok.well i _ h with ⟨_, e⟩ | ⟨_, e⟩ | ⟨_, _, e⟩ | ⟨_, qs, e, _, hq⟩
  · cases e
  · cases e
  · cases e
  · cases e; exact hq p hp
theorem val_and (f : Nat → Bool) {i : Nat} {ps : List Int} (h : gs[i]? = some (.and ps)) : val f gs i = true ↔ ∀ p ∈ ps, Yes (val f gs) p := by
  have hl := (List.getElem?_eq_some_iff.mp h).1
  rw [val_eq f h]
  unfold evG Yes
  rw [List.all_eq_true]
  constructor
  · intro q p hp
    have := q p hp
    rw [tr_val f (ok.lt h hp).2 (by (first | lia | omega))] at this
    simpa using this
  · intro q p hp
    rw [tr_val f (ok.lt h hp).2 (by (first | lia | omega))]
    simpa using q p hp
theorem val_model (f : Nat → Bool) : Model gs (val f gs) := by
  intro i x h
  cases x with
  | tru => dsimp only; rw [val_eq f h]; rfl
  | and ps => exact val_and ok f h
  | non => trivial
  | inp => trivial
theorem model_val {f τ : Nat → Bool} (hm : Model gs τ) (hf : ∀ i : Nat, gs[i]? = some .inp → f i = τ i) : ∀ i, 1 ≤ i → i < gs.length → val f gs i = τ i := by
  intro i
  induction i using Nat.strongRecOn with
  | ind i ih =>
    intro h1 h2
    have hx : gs[i]? = some gs[i] := List.getElem?_eq_getElem h2
    generalize gs[i] = x at hx
    cases x with
    | tru => rw [val_eq f hx, hm _ _ hx]; rfl
    | inp => rw [val_inp f hx, hf i hx]
    | non =>
      rcases ok.well i _ hx with ⟨e, _⟩ | ⟨_, e⟩ | ⟨_, _, e⟩ | ⟨_, qs, e, _⟩
      · (first | lia | omega)
      · cases e
      · cases e
      · cases e
    | and ps =>
      have a := val_and ok f hx
      have b := hm _ _ hx
      dsimp only at b
      rw [Bool.eq_iff_iff, a, b]
      constructor
      · intro q p hp
        have := q p hp
        obtain ⟨l1, l2⟩ := ok.lt hx hp
        unfold Yes at this ⊢
        rw [← ih _ l2 (by (first | lia | omega)) (by (first | lia | omega))]; exact this
      · intro q p hp
        have := q p hp
        obtain ⟨l1, l2⟩ := ok.lt hx hp
        unfold Yes at this ⊢
        rw [ih _ l2 (by (first | lia | omega)) (by (first | lia | omega))]; exact this
theorem enc_ok {al : List Int} {d : Cl} {g x : Int} (c : CG gs al) (iv : Inv gs al d) (hd : ∀ s ∈ opK d, Done gs d s) (hin : ∀ i : Nat, 2 ≤ i → gs[i]? = some .inp → (i : Int) ∈ nuK d) (hg : g ∈ opK d) (hl : Lit d g x) :
    (∃ τ', Sat τ' ([x] :: d.cs)) ↔ ∃ τ, Model gs τ ∧ Yes τ g := by
  constructor
  · rintro ⟨τ', hs⟩
    classical
    have hcs : Sat τ' d.cs := fun r hr => hs r (List.mem_cons_of_mem _ hr)
    have hx : Yes τ' x := by
      obtain ⟨y, hy, q⟩ := hs [x] (by simp)
      rw [List.mem_singleton] at hy; subst hy; exact q
    let f : Nat → Bool := fun i => if h : ∃ n, Num d i n then τ' (Classical.choose h) else false
    have hf : ∀ i n, Num d i n → f i = τ' n := fun i n hn => by
      have h : ∃ n, Num d i n := ⟨n, hn⟩
      show (if h : ∃ n, Num d i n then τ' (Classical.choose h) else false) = _
      rw [dif_pos h, (Classical.choose_spec h).fn hn]
    have hm := val_model ok f
    refine ⟨val f gs, hm, ?_⟩
    suffices key : ∀ k, ∀ s ∈ opK d, s.natAbs = k → ∀ x, Lit d s x → Yes τ' x → Yes (val f gs) s from key _ g hg rfl x hl hx
    intro k
    induction k using Nat.strongRecOn with
    | ind k ih =>
      intro s hs hk x hlx hyx
      obtain ⟨s1, s2⟩ := iv.opk s hs
      obtain ⟨g0, e0, _, hlt⟩ := c.mem _ (iv.key _ s2)
      have hlt : s.natAbs < gs.length := by (first | lia | omega)
      have hgx : gs[s.natAbs]? = some gs[s.natAbs] := List.getElem?_eq_getElem hlt
      generalize gs[s.natAbs] = z at hgx
      have hdo := hd s hs z hgx
      cases z with
      | non =>
        rcases ok.well _ _ hgx with ⟨e, _⟩ | ⟨_, e⟩ | ⟨_, _, e⟩ | ⟨_, qs, e, _⟩
        · (first | lia | omega)
        · cases e
        · cases e
        · cases e
      | tru =>
        obtain ⟨n, hn, ht⟩ := hdo
        have ht := ht τ' hcs
        have hv : val f gs s.natAbs = true := hm _ _ hgx
        obtain ⟨n', hn', rfl⟩ := hlx
        have := hn.fn hn'
        subst this
        unfold Yes
        rw [hv]
        by_cases q : 0 < s
        · simp [q]
        · rw [if_neg q] at hyx
          unfold Yes at hyx
          rw [Int.natAbs_neg, Int.natAbs_natCast, ht] at hyx
          simp at hyx
          (first | lia | omega)
      | inp =>
        obtain ⟨n', hn', rfl⟩ := hlx
        have hv := val_inp f hgx
        rw [hf _ _ hn'] at hv
        have n1 := (iv.num _ _ hn').1
        unfold Yes at hyx ⊢
        rw [hv]
        by_cases q : 0 < s
        · rw [if_pos q, Int.natAbs_natCast] at hyx
          rw [hyx]; simp [q]; (first | lia | omega)
        · rw [if_neg q, Int.natAbs_neg, Int.natAbs_natCast] at hyx
          rw [hyx]; simp [q]
      | and ps =>
        dsimp only at hdo
        by_cases q : 0 < s
        · rw [if_pos q] at hdo
          have : val f gs s.natAbs = true := (val_and ok f hgx).mpr fun p hp => by
            obtain ⟨h1, x', y, h2, h3, h4⟩ := hdo p hp
            have := hlx.fn h2
            subst this
            have hlt := ok.lt hgx hp
            exact ih p.natAbs (by (first | lia | omega)) p h1 rfl y h3 (h4 τ' hcs hyx)
          unfold Yes
          rw [this]; simp [q]
        · rw [if_neg q] at hdo
          obtain ⟨h1, x', h2, h3⟩ := hdo
          have := hlx.fn h2
          subst this
          obtain ⟨p, hp, y, h4, h5⟩ := h3 τ' hcs hyx
          have hlt := ok.lt hgx hp
          have h6 := ih (-p).natAbs (by (first | lia | omega)) (-p) (h1 p hp) rfl y h4 h5
          have h7 := (Yes.neg (by (first | lia | omega))).mp h6
          have : ¬ val f gs s.natAbs = true := fun e => h7 ((val_and ok f hgx).mp e p hp)
          unfold Yes
          simp only [Bool.not_eq_true] at this
          rw [this]; simp [q]
  · rintro ⟨τ, hm, hy⟩
    have hr : Reads d τ (fun n => τ ((d.ga[n]?).getD 0).natAbs) := fun g n hn => by
      try dsimp only
      rw [(iv.num g n hn).2]; rfl
    refine ⟨fun n => τ ((d.ga[n]?).getD 0).natAbs, fun r hr' => ?_⟩
    rcases List.mem_cons.mp hr' with rfl | q
    · exact ⟨x, by simp, (hl.reads iv hr).mpr hy⟩
    · exact iv.snd τ _ hm hr r q
end
end L04
end Lay
end

section
open PySem PySem.W PyProof.Rows
set_option Elab.async false
set_option linter.unusedVariables false
namespace Lay
namespace L04
theorem W.eqB {neg a b : Bool} {s : St} {Q : V → St → Prop} (k : Q (.bool ((a == b) ^^ neg)) s) : Wp (vEq neg (.bool a) (.bool b)) s Q := by
  refine ⟨_, _, ?_, k⟩
  have h : ∀ x : Bool, dataOf (.bool x) s = some (.bool x) := fun x => rfl
  have hs : ∀ x : Bool, SeqAt.shaped (.bool x) = true := fun x => by cases x <;> with_unfolding_all rfl
  unfold R vEq
  simp only [h, hs, Bool.and_self, if_true, PyData.eqv]
theorem W.eqL {neg : Bool} {a b : List Int} {s : St} {Q : V → St → Prop} (k : Q (.bool (decide (a = b) ^^ neg)) s) : Wp (vEq neg (.lst (a.map .int)) (.lst (b.map .int))) s Q := by
  refine ⟨_, _, ?_, k⟩
  have h : ∀ x : List Int, dataOf (.lst (x.map .int)) s = some (.list (x.map PyData.int)) := fun x => by
    show V.py _ = _
    simp only [V.py, pys_ints]; rfl
  unfold R vEq
  simp only [h, shaped_list_ints, Bool.and_self, if_true, PyData.eqv, eqv_ints]
theorem W.index {v : V} {L : List Int} {i : Int} {j : Nat} {s : St} {Q : V → St → Prop} (h : lView v s = some (L.map .int)) (hl : L.length ≤ lim) (hj : idxOf i L = some j) (k : Q (.int j) s) : Wp (mIndex [v, .int i]) s Q := by
  refine ⟨_, _, ?_, k⟩
  unfold R mIndex
  simp only [h, ints_map, if_pos hl, hj]
theorem W.rsh {a b : Int} {s : St} {Q : V → St → Prop} (h : 0 ≤ b) (k : Q (.int (a.fdiv (2 ^ b.toNat))) s) : Wp (vRShift (.int a) (.int b)) s Q := ⟨_, _, R.bind (a := ()) (R.guard (decide_eq_true h)) R.pure, k⟩
theorem W.band {a b : Int} {s : St} {Q : V → St → Prop} (k : Q (.int (Builtin.bitAnd a b)) s) : Wp (vAnd (.int a) (.int b)) s Q := ⟨_, _, rfl, k⟩
noncomputable def bitF (lap i : Nat) : Bool := decide (Builtin.bitAnd ((lap : Int).fdiv (2 ^ (i - 2))) 1 = 1)
theorem bits_all {m : Nat} (hm : m = 2 ∨ m = 3) (τ : Nat → Bool) : ∃ lap, lap < 2 ^ m ∧ ∀ i, 2 ≤ i → i < m + 2 → bitF lap i = τ i := by
  rcases hm with rfl | rfl
  · have : ∀ b0 b1 : Bool, ∃ lap, lap < 2 ^ 2 ∧ bitF lap 2 = b0 ∧ bitF lap 3 = b1 := by
      intro b0 b1
      cases b0 <;> cases b1
      · exact ⟨0, by decide⟩
      · exact ⟨2, by decide⟩
      · exact ⟨1, by decide⟩
      · exact ⟨3, by decide⟩
    obtain ⟨lap, h0, h1, h2⟩ := this (τ 2) (τ 3)
    refine ⟨lap, h0, fun i h3 h4 => ?_⟩
    have : i = 2 ∨ i = 3 := by (first | lia | omega)
    rcases this with rfl | rfl
    · exact h1
    · exact h2
  · have : ∀ b0 b1 b2 : Bool, ∃ lap, lap < 2 ^ 3 ∧ bitF lap 2 = b0 ∧ bitF lap 3 = b1 ∧ bitF lap 4 = b2 := by
      intro b0 b1 b2
      cases b0 <;> cases b1 <;> cases b2
      · exact ⟨0, by decide⟩
      · exact ⟨4, by decide⟩
      · exact ⟨2, by decide⟩
      · exact ⟨6, by decide⟩
      · exact ⟨1, by decide⟩
      · exact ⟨5, by decide⟩
      · exact ⟨3, by decide⟩
      · exact ⟨7, by decide⟩
    obtain ⟨lap, h0, h1, h2, h2'⟩ := this (τ 2) (τ 3) (τ 4)
    refine ⟨lap, h0, fun i h3 h4 => ?_⟩
    have : i = 2 ∨ i = 3 ∨ i = 4 := by (first | lia | omega)
    rcases this with rfl | rfl | rfl
    · exact h1
    · exact h2
    · exact h2'
noncomputable def inpL (m : Nat) : List Int := (List.range m).map fun j => ((2 + j : Nat) : Int)
theorem inpL_mem {m i : Nat} : (i : Int) ∈ inpL m ↔ 2 ≤ i ∧ i < m + 2 := by
  unfold inpL
  rw [List.mem_map]
  constructor
  · rintro ⟨j, hj, e⟩
    rw [List.mem_range] at hj
    (first | lia | omega)
  · rintro ⟨h1, h2⟩
    exact ⟨i - 2, List.mem_range.mpr (by (first | lia | omega)), by (first | lia | omega)⟩
theorem inpL_idx {m i : Nat} (hm : m = 2 ∨ m = 3) (hi : i < m) : idxOf ((2 + i : Nat) : Int) (inpL m) = some i := by
  rcases hm with rfl | rfl
  · have : i = 0 ∨ i = 1 := by (first | lia | omega)
    rcases this with rfl | rfl <;> decide
  · have : i = 0 ∨ i = 1 ∨ i = 2 := by (first | lia | omega)
    rcases this with rfl | rfl | rfl <;> decide
section
variable {m : Nat} {gs : List G} {kn : List (List Int × V)} (ok : COk m gs kn)
include ok
theorem COk.inp_iff {i : Nat} (h0 : 2 ≤ i) {x : G} (hx : gs[i]? = some x) : i < m + 2 ↔ x = .inp := by
  rcases ok.well i _ hx with ⟨e, _⟩ | ⟨e, _⟩ | ⟨_, e1, e⟩ | ⟨e1, qs, e, _⟩
  · (first | lia | omega)
  · (first | lia | omega)
  · exact ⟨fun _ => e, fun _ => e1⟩
  · exact ⟨fun _ => by (first | lia | omega), fun q => by rw [q] at e; cases e⟩
theorem canHold_iff (hm : m = 2 ∨ m = 3) {g : Int} (hg : 1 ≤ g.natAbs ∧ g.natAbs < gs.length) : (∃ lap, lap < 2 ^ m ∧ Yes (val (bitF lap) gs) g) ↔ ∃ τ, Model gs τ ∧ Yes τ g := by
  constructor
  · rintro ⟨lap, _, h⟩; exact ⟨_, val_model ok _, h⟩
  · rintro ⟨τ, h1, h2⟩
    obtain ⟨lap, h3, h4⟩ := bits_all hm τ
    refine ⟨lap, h3, ?_⟩
    have := model_val ok (f := bitF lap) h1 (fun i hi => by
      have hl := (List.getElem?_eq_some_iff.mp hi).1
      have h0 : 2 ≤ i := by
        rcases ok.well i _ hi with ⟨_, e⟩ | ⟨_, e⟩ | ⟨e, _⟩ | ⟨_, qs, e, _⟩
        · cases e
        · cases e
        · exact e
        · cases e
      exact h4 i h0 ((ok.inp_iff h0 hi).mpr rfl)) g.natAbs hg.1 hg.2
    unfold Yes at h2 ⊢
    rw [this]; exact h2
theorem tr2 (f : Nat → Bool) : tr f (gs.take 2) = [false, true] := by
  have := ok.len
  have h0 : gs[0]? = some gs[0] := List.getElem?_eq_getElem (by (first | lia | omega))
  have h1 : gs[1]? = some gs[1] := List.getElem?_eq_getElem (by (first | lia | omega))
  generalize gs[0] = a at h0
  generalize gs[1] = b at h1
  rw [tr_take f h1, tr_take f h0]
  have ha : a = .non := by
    rcases ok.well _ _ h0 with ⟨_, e⟩ | ⟨q, _⟩ | ⟨q, _⟩ | ⟨q, _⟩ <;> first | exact e | (first | lia | omega)
  have hb : b = .tru := by
    rcases ok.well _ _ h1 with ⟨q, _⟩ | ⟨_, e⟩ | ⟨q, _⟩ | ⟨q, _⟩ <;> first | exact e | (first | lia | omega)
  subst ha hb
  rfl
end
inductive ChI (m : Nat) (gs : List G) (σ : Hp) (g : Int) (lap : Nat) (s : St) : Prop
  | mk (h0 : s.loc 0 = some (.ref 1)) (h1 : s.loc 1 = some (.int g)) (h2 : s.loc 2 = some (.lst ((inpL m).map .int))) (h3 : ∃ o, s.hp = upd σ 120 o) (h4 : ∀ l, l < lap → ¬ Yes (val (bitF l) gs) g)
inductive ChJ (m : Nat) (gs : List G) (σ : Hp) (g : Int) (lap : Nat) (i : Nat) (s : St) : Prop
  | mk (h0 : s.loc 0 = some (.ref 1)) (h1 : s.loc 1 = some (.int g)) (h2 : s.loc 2 = some (.lst ((inpL m).map .int))) (h3 : s.loc 3 = some (.int lap)) (h4 : s.loc 4 = some (.ref 120)) (h5 : s.hp = upd σ 120 (some (.list ((tr (bitF lap) (gs.take (2 + i))).map .bool))))
theorem canhold_ws {m : Nat} {gs : List G} {kn : List (List Int × V)} {σ : Hp} {g : Int} (ok : COk m gs kn) (hm : m = 2 ∨ m = 3) (h : CircAt gs kn σ) (hl : gs.length ≤ 900) (hn : Free 120 σ) (hg : 1 ≤ g.natAbs ∧ g.natAbs < gs.length) :
    Ws (runF 120 3 m__law_can_hold) [.ref 1, .int g, .lst ((inpL m).map .int)] σ (fun v σ' => ∃ b : Bool, v = .bool b ∧ (b = true ↔ ∃ τ, Model gs τ ∧ Yes τ g) ∧ σ' = σ) := by
  have l1000 : 1000 < lim := by decide
  have hpw : (2 : Int) ^ (m : Int).toNat = ((2 ^ m : Nat) : Int) := by rw [Int.toNat_natCast]; simp
  have hpl : 2 ^ m ≤ 8 := by rcases hm with rfl | rfl <;> decide
  have hil : (inpL m).length = m := by unfold inpL; simp
  refine Ws.fn rfl ?_
  unfold m__law_can_hold
  refine .seq (.for (.call (.cons (.op2 (.pure (.call (.cons (.getL (v := .lst ((inpL m).map .int)) rfl (.nil (W.len (n := m) (by simp [lenOf, hil]) (by (first | lia | omega)) (W.pow (by (first | lia | omega)) (by rcases hm with rfl | rfl <;> decide) (.nil (W.range1 ⟨rfl, ?_⟩)))))))))))))
  rw [hpw]
  refine .forS (xs := _) (ChI m gs σ g) ⟨rfl, rfl, rfl, ⟨none, ?_⟩, fun _ q => absurd q (Nat.not_lt_zero _)⟩ (fun i s _ => rng_items (by decide) (by rw [Int.natAbs_natCast]; (first | lia | omega))) ?_ ?_
  · funext n
    by_cases e : n = 120
    · subst e; rw [upd_same]; exact hn 120 (Nat.le_refl _)
    · rw [upd_ne _ _ e]
  · rintro lap s x ⟨a0, a1, a2, ⟨o, a3⟩, a4⟩ hx
    obtain ⟨rfl, hlap⟩ := rng_get hx
    refine .setL (.seq (.kill (.assign (.list (.cons (.pure (.cons (.pure (.nil (.mkLstS rfl (show 2 ≤ lim by decide) rfl ?_))))))))))
    try dsimp only
    have c0 : dropRefs 120 (upd s.loc 3 (some (V.int (0 + (lap : Int))))) 0 = some (.ref 1) := by
      unfold dropRefs
      have : upd s.loc 3 (some (V.int (0 + (lap : Int)))) 0 = some (.ref 1) := a0
      rw [this]; rfl
    have c1 : dropRefs 120 (upd s.loc 3 (some (V.int (0 + (lap : Int))))) 1 = some (.int g) := by
      unfold dropRefs
      have : upd s.loc 3 (some (V.int (0 + (lap : Int)))) 1 = some (.int g) := a1
      rw [this]
    have c2 : dropRefs 120 (upd s.loc 3 (some (V.int (0 + (lap : Int))))) 2 = some (.lst ((inpL m).map .int)) := by
      unfold dropRefs
      have : upd s.loc 3 (some (V.int (0 + (lap : Int)))) 2 = some (.lst ((inpL m).map .int)) := a2
      rw [this]
    have c3 : dropRefs 120 (upd s.loc 3 (some (V.int (0 + (lap : Int))))) 3 = some (.int lap) := by
      unfold dropRefs
      have : upd s.loc 3 (some (V.int (0 + (lap : Int)))) 3 = some (.int lap) := by rw [upd_same]; congr 2; (first | lia | omega)
      rw [this]
    generalize dropRefs 120 (upd s.loc 3 (some (V.int (0 + (lap : Int))))) = loc at c0 c1 c2 c3
    rw [upd_upd, a3, upd_upd]
    have hC : ∀ o, CircAt gs kn (upd σ 120 o) := fun o => h.mono fun n q => by rw [upd_ne _ _ (by (first | lia | omega))]
    have hF : ∀ o, Free 140 (upd σ 120 o) := fun o => (hn.mono (by decide)).upd (by decide)
    refine .seq (.for (.call (.cons (.pure (.cons (.op2 (.meth (.getL (v := .ref 1) c0 ⟨okC (hC _) (by decide) (by decide) (by decide), .nil (.callM ((size_ws (hC _) (by (first | lia | omega)) ((hF _).mono (by decide))).mono ?_))⟩))))))))
    rintro v τ ⟨rfl, rfl⟩
    refine .pure (W.add (.nil (W.range2 ⟨rfl, ?_⟩)))
    refine .forS (xs := _) (ChJ m gs σ g lap) ⟨c0, c1, c2, c3, rfl, ?_⟩ (fun i s _ => rng_items (by decide) (by (first | lia | omega))) ?_ ?_
    · dsimp only
      rw [Nat.add_zero, tr2 ok]; rfl
    · rintro i s x ⟨d0, d1, d2, d3, d4, d5⟩ hx
      obtain ⟨rfl, hi⟩ := rng_get hx
      have hlt : 2 + i < gs.length := by (first | lia | omega)
      have hx : gs[2 + i]? = some gs[2 + i] := List.getElem?_eq_getElem hlt
      generalize gs[2 + i] = x at hx
      have hlen := tr_take_len (bitF lap) (gs := gs) (i := 2 + i) (by (first | lia | omega))
      have h120 : s.hp 120 = some (.list ((tr (bitF lap) (gs.take (2 + i))).map .bool)) := by rw [d5, upd_same]
      have hcs : CircAt gs kn s.hp := by rw [d5]; exact hC _
      have hfs : Free 140 s.hp := by rw [d5]; exact hF _
      have app : ∀ (b : Bool) (loc : Nat → Option V), b = evG (bitF lap) (tr (bitF lap) (gs.take (2 + i))) x → loc 0 = some (.ref 1) → loc 1 = some (.int g) → loc 2 = some (.lst ((inpL m).map .int)) → loc 3 = some (.int lap) → loc 4 = some (.ref 120) →
          Wp (mApp [.ref 120, .bool b]) ⟨loc, s.hp⟩ (fun _ s2 => ChJ m gs σ g lap (i + 1) s2) := fun b loc e g0 g1 g2 g3 g4 => by
        refine W.app (xs := (tr (bitF lap) (gs.take (2 + i))).map .bool) h120 rfl (by rw [List.length_map, hlen]; (first | lia | omega)) ⟨g0, g1, g2, g3, g4, ?_⟩
        try dsimp only
        rw [d5, upd_upd, show 2 + (i + 1) = 2 + i + 1 by (first | lia | omega), tr_take _ hx, List.map_append, e]; rfl
      have hin : ((2 + (i : Int)) ∈ inpL m) ↔ x = .inp := by
        rw [show (2 + (i : Int)) = ((2 + i : Nat) : Int) by (first | lia | omega), inpL_mem, ← ok.inp_iff (by (first | lia | omega)) hx]
        (first | lia | omega)
      refine .setL (.seq (.ite (.tcmp (.getL (v := .int (2 + i)) rfl (.getL (v := .lst ((inpL m).map .int)) d2 (W.inL (L := inpL m) (.inl rfl) (.asBool ⟨fun hb => ?_, fun hb => ?_⟩)))))))
      · have hb : x = .inp := hin.mp (by simpa using hb)
        subst hb
        have him := (ok.inp_iff (by (first | lia | omega)) hx).mpr rfl
        refine .seq (.expr (.meth (.getL (v := .ref 120) d4 ⟨isLst_ref h120, .cons (.op2 (.op2 (.op2 (.getL (v := .int lap) d3 (.meth (.getL (v := .lst ((inpL m).map .int)) d2 ⟨rfl, .cons (.getL (v := .int (2 + i)) rfl (.nil (W.index (L := inpL m) (j := i) rfl (by (first | lia | omega)) (by rw [show (2 + (i : Int)) = ((2 + i : Nat) : Int) by (first | lia | omega)]; exact inpL_idx hm (by (first | lia | omega))) (W.rsh (by (first | lia | omega)) (.pure (W.band (.pure (W.eqI (.nil ((app _ (upd s.loc 5 (some (.int (2 + i)))) ?_ d0 d1 d2 d3 d4).mono fun _ s2 q => .end (.end q)))))))))))⟩))))))⟩)))
        show _ = bitF lap (tr (bitF lap) (gs.take (2 + i))).length
        rw [hlen]
        unfold bitF
        rw [Int.toNat_natCast, show 2 + i - 2 = i by (first | lia | omega), Bool.xor_false]
      · have hb : x ≠ .inp := fun e => by simp [hin.mpr e] at hb
        obtain ⟨ps, rfl⟩ : ∃ ps, x = .and ps := by
          rcases ok.well _ _ hx with ⟨q, _⟩ | ⟨q, _⟩ | ⟨_, _, q⟩ | ⟨_, ps, q, _⟩
          · (first | lia | omega)
          · (first | lia | omega)
          · exact absurd q hb
          · exact ⟨ps, q⟩
        have hpl : ps.length ≤ 3 := by
          rcases ok.well _ _ hx with ⟨q, _⟩ | ⟨q, _⟩ | ⟨_, _, q⟩ | ⟨_, qs, q, q2, _⟩
          · (first | lia | omega)
          · (first | lia | omega)
          · exact absurd q hb
          · cases q; exact q2
        refine .seq (.expr (.meth (.getL (v := .ref 120) d4 ⟨isLst_ref h120, .cons (.op2 (W.filt (RS := ps) (emb := V.int) (e := V.int) (p := fun p => !(((tr (bitF lap) (gs.take (2 + i)))[p.natAbs]?).getD false == decide (0 < p))) (.meth (.getL (v := .ref 1) d0 ⟨okC hcs (by decide) (by decide) (by decide), .cons (.getL (v := .int (2 + i)) rfl (.nil (.callM ((parts_ws (g := 2 + (i : Int)) (x := .and ps) hcs (by rw [show (2 + (i : Int)).natAbs = 2 + i by (first | lia | omega)]; exact hx) (by (first | lia | omega)) (hfs.mono (by decide))).mono ?_))))⟩)) ?_ ?_ (fun _ _ => rfl) (by (first | lia | omega)) fun s' e1 e2 => .list (.nil (.mkLst rfl (Nat.zero_le _) (W.eqL (a := ps.filter fun p => !(((tr (bitF lap) (gs.take (2 + i)))[p.natAbs]?).getD false == decide (0 < p))) (b := []) (.nil ?_))))))⟩)))
        · rintro v σ' ⟨rfl, rfl⟩
          exact ⟨rfl, rfl, fun _ _ => rfl⟩
        · intro p hp s' e1 e2 e3
          have hplt := (ok.lt hx hp).2
          have e4 : s'.loc 4 = some (.ref 120) := (e2 4 (by decide)).trans d4
          have hpl2 : p.natAbs < (tr (bitF lap) (gs.take (2 + i))).length := by (first | lia | omega)
          obtain ⟨b, hT⟩ : ∃ b, (tr (bitF lap) (gs.take (2 + i)))[p.natAbs]? = some b := ⟨_, List.getElem?_eq_getElem hpl2⟩
          refine .tcmp (.op2 (.getL (v := .ref 120) e4 (.call (.cons (.getL (v := .int p) e3 (.nil (W.abs (W.item (xs := (tr (bitF lap) (gs.take (2 + i))).map .bool) (u := .bool b) (.inl ?_) (by (first | lia | omega)) (by (first | lia | omega)) ?_ (.op2 (.getL (v := .int p) e3 (.pure (W.gt (W.eqB (.asBool ⟨?_, rfl⟩))))))))))))))
          · unfold lView; rw [e1]; simp only [h120]
          · rw [Int.toNat_natCast, List.getElem?_map, hT]; rfl
          · rw [hT]; simp
        · intro p hp _ s' e1 e2 e3
          exact .getL e3 ⟨rfl, rfl⟩
        have es : s' = ⟨s'.loc, s.hp⟩ := by cases s'; dsimp only at e1; rw [e1]
        rw [es]
        refine (app _ _ ?_ ((e2 0 (by decide)).trans d0) ((e2 1 (by decide)).trans d1) ((e2 2 (by decide)).trans d2) ((e2 3 (by decide)).trans d3) ((e2 4 (by decide)).trans d4)).mono fun _ s2 q => .end (.end q)
        unfold evG
        rw [Bool.xor_false, Bool.eq_iff_iff, decide_eq_true_eq, List.filter_eq_nil_iff, List.all_eq_true]
        simp
    · rintro s ⟨d0, d1, d2, d3, d4, d5⟩
      have h120 : s.hp 120 = some (.list ((tr (bitF lap) gs).map .bool)) := by
        rw [d5, upd_same, List.length_map, List.length_range]
        have := ok.len
        rw [show 2 + ((gs.length : Int) - 1 + 1 - 2).toNat = gs.length by (first | lia | omega), List.take_length]
      have hgl : g.natAbs < (tr (bitF lap) gs).length := by rw [tr_length]; exact hg.2
      obtain ⟨b, hT⟩ : ∃ b, (tr (bitF lap) gs)[g.natAbs]? = some b := ⟨_, List.getElem?_eq_getElem hgl⟩
      have hv : val (bitF lap) gs g.natAbs = b := by unfold val; rw [hT]; rfl
      refine .seq (.ite (.tcmp (.op2 (.getL (v := .ref 120) d4 (.call (.cons (.getL (v := .int g) d1 (.nil (W.abs (W.item (xs := (tr (bitF lap) gs).map .bool) (u := .bool b) (.inl ?_) (by (first | lia | omega)) (by (first | lia | omega)) ?_ (.op2 (.getL (v := .int g) d1 (.pure (W.gt (W.eqB (.asBool ⟨fun hb => ?_, fun hb => .end (.end ⟨d0, d1, d2, ⟨_, d5⟩, fun l hl' => ?_⟩)⟩))))))))))))))))
      · unfold lView; simp only [h120]
      · rw [Int.toNat_natCast, List.getElem?_map, hT]; rfl
      · refine .seq (.ret (.pure ⟨_, _, rfl, rfl, true, rfl, ?_, ?_⟩))
        · refine ⟨fun _ => (canHold_iff ok hm hg).mp ⟨lap, by (first | lia | omega), ?_⟩, fun _ => rfl⟩
          unfold Yes
          rw [hv]
          simpa using hb
        · rw [d5]; exact cut_own hn (Nat.le_refl _)
      · by_cases e : l < lap
        · exact a4 l e
        · have : l = lap := by (first | lia | omega)
          subst this
          unfold Yes
          rw [hv]
          simpa using hb
  · rintro s ⟨a0, a1, a2, ⟨o, a3⟩, a4⟩
    rw [List.length_map, List.length_range] at a4
    refine .seq (.ret (.pure ⟨_, _, rfl, rfl, false, rfl, ⟨nofun, fun q => ?_⟩, ?_⟩))
    · obtain ⟨lap, h1, h2⟩ := (canHold_iff ok hm hg).mpr q
      exact absurd h2 (a4 lap (by (first | lia | omega)))
    · rw [a3]; exact cut_own hn (Nat.le_refl _)
end L04
end Lay
end

section
open PySem PySem.W PyProof.Rows
set_option Elab.async false
set_option linter.unusedVariables false
namespace Lay
theorem Wp.newM {n d : Nat} {Cl : Addr} {fm : FM} {vs : List V} {s : St} {Q : V → St → Prop} (h1 : s.hp d = none) (h2 : upd s.hp d (some (.attrs [])) n = none) (h : Ws fm (.ref n :: vs) (upd (upd s.hp d (some (.attrs []))) n (some (.inst Cl d))) (fun r σ' => r = .none ∧ Q (.ref n) { s with hp := σ' })) : Wp (newM n d Cl fm vs) s Q := by
  unfold Lay.newM
  refine .bind (.new h1 (.bind (.new h2 (.bind (.callM (h.mono ?_))))))
  rintro r σ' ⟨rfl, hq⟩
  exact .bind (.guard rfl (.pure hq))
theorem W.bList {v : V} {xs : List V} {c : Option Nat} {s : St} {Q : V → St → Prop} (hr : rView v = none) (h : collItems v s = some xs) (k : Wp (mkList c xs) s Q) : Wp (Lay.bList c [v]) s Q := by
  obtain ⟨a, s', h1, h2⟩ := k
  refine ⟨a, s', ?_, h2⟩
  unfold R Lay.bList
  simp only [hr, h]
  exact h1
theorem W.bListR {v : V} {xs : List V} {c : Option Nat} {s : St} {Q : V → St → Prop} (hr : rView v = some xs) (hl : xs.length ≤ lim) (k : Wp (mkList c xs) s Q) : Wp (Lay.bList c [v]) s Q := by
  obtain ⟨a, s', h1, h2⟩ := k
  refine ⟨a, s', ?_, h2⟩
  unfold R Lay.bList
  simp only [hr, if_pos hl]
  exact h1
theorem pys_tups : ∀ RS : List (List Int), V.pys (RS.map fun r => V.tup (r.map V.int)) = some (RS.map fun r => PyData.tuple (r.map PyData.int))
  | [] => rfl
  | x :: r => by
    rw [List.map_cons]; unfold V.pys; rw [pys_tups r]
    simp only [V.py, pys_ints]; rfl
theorem lay_tups : ∀ RS : List (List Int), PyData.canLayAll0 (RS.map fun r => PyData.tuple (r.map PyData.int)) = true ∧ PyData.depthAll (RS.map fun r => PyData.tuple (r.map PyData.int)) ≤ 1
  | [] => ⟨rfl, Nat.zero_le _⟩
  | x :: r => by
    obtain ⟨h1, h2⟩ := lay_tups r
    simp only [List.map_cons, PyData.canLayAll0, PyData.depthAll, PyData.canLay0, PyData.depth, ke_canLayAll0, ke_depthAll, h1, Bool.and_self, true_and]
    (first | lia | omega)
theorem shaped_tups (RS : List (List Int)) : SeqAt.shaped (.list (RS.map fun r => PyData.tuple (r.map PyData.int))) = true := by
  obtain ⟨h1, h2⟩ := lay_tups RS
  simp only [SeqAt.shaped, PyData.canLay0, PyData.depth, h1, Bool.true_and]
  exact decide_eq_true (by (first | lia | omega))
namespace L04
theorem any_tups (RS : List (List Int)) (x : List Int) : ((RS.map fun r => PyData.tuple (r.map PyData.int)).any fun y => PyData.eqv y (.tuple (x.map PyData.int))) = decide (x ∈ RS) := by
  induction RS with
  | nil => rfl
  | cons y r ih =>
    rw [List.map_cons, List.any_cons, ih]
    simp only [PyData.eqv, eqv_ints, List.mem_cons]
    by_cases h : y = x
    · subst h; simp
    · have : ¬ x = y := fun e => h e.symm
      simp [h, this]
theorem W.inTL {neg : Bool} {x : List Int} {RS : List (List Int)} {s : St} {Q : V → St → Prop} (k : Q (.bool (decide (x ∈ RS) ^^ neg)) s) : Wp (vIn neg (tupI x) (.lst (RS.map tupI))) s Q := by
  refine ⟨_, _, ?_, k⟩
  have h1 : dataOf (tupI x) s = some (.tuple (x.map PyData.int)) := by
    show V.py (.tup (x.map .int)) = _
    simp only [V.py, pys_ints]; rfl
  have h2 : dataOf (.lst (RS.map tupI)) s = some (.list (RS.map fun r => PyData.tuple (r.map PyData.int))) := by
    show V.py (.lst (RS.map fun r => V.tup (r.map V.int))) = _
    simp only [V.py, pys_tups]; rfl
  unfold R vIn tupI
  have h3 : dView (.lst (RS.map tupI)) s = none := rfl
  unfold tupI at h1 h2 h3
  simp only [h1, h2, shaped_tup_ints, shaped_tups, Bool.and_self, if_true, any_tups]
noncomputable def circ0 (m : Nat) : List G := [G.non, G.tru] ++ List.replicate m G.inp
theorem circ0_len (m : Nat) : (circ0 m).length = m + 2 := by unfold circ0; simp
theorem circ0_succ (m : Nat) : circ0 (m + 1) = circ0 m ++ [.inp] := by unfold circ0; rw [List.replicate_succ', ← List.append_assoc]
theorem circ0_ok (m : Nat) : COk m (circ0 m) [] := by
  refine ⟨by rw [circ0_len]; (first | lia | omega), fun i x hx => ?_, (fun ps u h => nomatch h), Nat.zero_le _⟩
  have hl := (List.getElem?_eq_some_iff.mp hx).1
  rw [circ0_len] at hl
  unfold circ0 at hx
  match i, hx with
  | 0, hx => simp at hx; exact .inl ⟨rfl, hx.symm⟩
  | 1, hx => simp at hx; exact .inr (.inl ⟨rfl, hx.symm⟩)
  | i + 2, hx =>
    rw [List.getElem?_append_right (by simp)] at hx
    have := List.eq_of_mem_replicate (List.mem_of_getElem? hx)
    exact .inr (.inr (.inl ⟨by (first | lia | omega), by (first | lia | omega), this⟩))
theorem cinit_ws {σ : Hp} (h1 : σ 1 = some (.inst 224 2)) (h2 : σ 2 = some (.attrs [])) (h3 : ∀ n, 3 ≤ n → n ≤ 5 → σ n = none) (hn : Free 560 σ) :
    Ws (runF 560 1 m_Circuit_init__) [.ref 1] σ (fun u σ' => u = .none ∧ CircAt (circ0 0) [] σ' ∧ ∀ n, 5 < n → σ' n = σ n) := by
  refine Ws.fn rfl ?_
  unfold m_Circuit_init__
  refine .seq (.assignAttr (.list (.cons (.pure (.cons (.pure (.nil (.mkLstS rfl (show 2 ≤ lim by decide) (h3 3 (by decide) (by decide)) (.getL (v := .ref 1) rfl (W.setA (d := 2) h1 h2 rfl (by decide) ?_))))))))))
  rw [kvSet_new (by simp)]
  try dsimp only
  refine .seq (.assignAttr (.list (.cons (.tup (.nil (.mkTup rfl (Nat.zero_le _) (.cons (.tup (.nil (.mkTup rfl (Nat.zero_le _) (.nil (.mkLstS rfl (show 2 ≤ lim by decide) (h3 4 (by decide) (by decide)) (.getL (v := .ref 1) rfl (W.setA (d := 2) h1 rfl rfl (show 1 < 1000 by decide) ?_))))))))))))))
  rw [kvSet_new (by simp only [List.nil_append, List.map_cons, List.map_nil]; decide)]
  try dsimp only
  refine .seq (.assignAttr (.new (h3 5 (by decide) (by decide)) (.getL (v := .ref 1) rfl (W.setA (d := 2) h1 rfl rfl (show 2 < 1000 by decide) ?_))))
  rw [kvSet_new (by simp only [List.nil_append, List.cons_append, List.map_cons, List.map_nil]; decide)]
  dsimp only [List.nil_append, List.cons_append]
  refine .end ⟨_, _, rfl, rfl, rfl, ?_, ?_⟩
  · exact CircR.cut ⟨h1, rfl, rfl, rfl, rfl⟩ (by decide)
  · intro n q
    unfold cut
    split
    · simp only [upd_ne _ _ (show n ≠ 2 by (first | lia | omega)), upd_ne _ _ (show n ≠ 3 by (first | lia | omega)), upd_ne _ _ (show n ≠ 4 by (first | lia | omega)), upd_ne _ _ (show n ≠ 5 by (first | lia | omega))]
    · exact (hn n (by (first | lia | omega))).symm
theorem inputs_wp {T j : Nat} {s : St} {mi : M V} {Q : V → St → Prop} (hmi : Wp mi s (fun v s1 => ∃ m : Nat, m ≤ 10 ∧ v = .rng 0 m 1 ∧ s1.loc 2 = some (.ref 1) ∧ CircAt (circ0 0) [] s1.hp ∧ Free 460 s1.hp ∧ (∀ s2 : St, Fr5 s1.hp s2.hp → (∀ k, k ≠ j → s2.loc k = s1.loc k) → CircAt (circ0 m) [] s2.hp → Q (.lst ((inpL m).map .int)) s2))) (hj : j ≠ 2) :
    Wp (X.comp none T j mi X.and0 (X.meth (instOk 224 (Str.ofString "new_input")) (callM (runF 460 1 m_Circuit_new_input)) (M.getL 2) X.nil)) s Q := by
  have l1000 : 1000 < lim := by decide
  refine .comp (hmi.mono ?_)
  rintro v s1 ⟨m, hm, rfl, h2, hc, hf, hQ⟩
  refine ⟨rfl, .compM (xs := _) (fun i acc s' => acc = (inpL i).map .int ∧ Fr5 s1.hp s'.hp ∧ (∀ k, k ≠ j → s'.loc k = s1.loc k) ∧ CircAt (circ0 i) [] s'.hp) ⟨rfl, Fr5.refl _, fun _ _ => rfl, hc⟩ (fun i acc s _ => rng_items (by decide) (by (first | lia | omega))) ?_ ?_⟩
  · rintro i acc s' x ⟨rfl, f1, l1, c1⟩ hx
    obtain ⟨rfl, hi⟩ := rng_get hx
    refine .and0 ⟨nofun, fun _ => .meth (.getL (v := .ref 1) (by show upd s'.loc j _ 2 = _; rw [upd_ne _ _ (Ne.symm hj), l1 2 (Ne.symm hj)]; exact h2) ⟨okC c1 (by decide) (by decide) (by decide), .nil (.callM ((input_ws c1 (by rw [circ0_len]; (first | lia | omega)) (f1.free hf (by decide))).mono ?_))⟩)⟩
    rintro v σ' ⟨rfl, c2, f2⟩
    refine ⟨rfl, by rw [List.length_map]; unfold inpL; rw [List.length_map, List.length_range]; (first | lia | omega), ?_, f1.trans f2, fun k hk => ?_, ?_⟩
    · unfold inpL
      rw [List.range_succ, List.map_append, List.map_append, circ0_len]
      simp only [List.map_cons, List.map_nil]
      congr 4
      (first | lia | omega)
    · show upd s'.loc j _ k = _
      rw [upd_ne _ _ hk]; exact l1 k hk
    · rw [circ0_succ]; exact c2
  · rintro acc s' ⟨rfl, f1, l1, c1⟩
    rw [List.length_map, List.length_range] at c1 ⊢
    have e : ((m : Int) - 0).toNat = m := by (first | lia | omega)
    rw [e] at c1 ⊢
    refine .mkLst (ints_low _) (by rw [List.length_map]; unfold inpL; rw [List.length_map, List.length_range]; (first | lia | omega)) (hQ _ f1 (fun k hk => ?_) c1)
    show upd s'.loc j _ k = _
    rw [upd_ne _ _ hk]; exact l1 k hk
theorem COk.cg {m : Nat} {gs : List G} {kn : List (List Int × V)} (ok : COk m gs kn) (hm : m = 2 ∨ m = 3) (hl : gs.length ≤ 14) {g : Int} (hg : 1 ≤ g.natAbs ∧ g.natAbs < gs.length) :
    ∃ al, CG gs al ∧ (g.natAbs : Int) ∈ al ∧ ∀ i : Nat, gs[i]? = some .inp → (i : Int) ∈ al := by
  have hlen := ok.len
  have inp2 : ∀ i : Nat, gs[i]? = some .inp → 2 ≤ i ∧ i < m + 2 ∧ i < gs.length := fun i hi => by
    have hl := (List.getElem?_eq_some_iff.mp hi).1
    rcases ok.well i _ hi with ⟨_, e⟩ | ⟨_, e⟩ | ⟨e, e2, _⟩ | ⟨_, qs, e, _⟩
    · cases e
    · cases e
    · exact ⟨e, e2, hl⟩
    · cases e
  by_cases h1 : g.natAbs = 1
  · refine ⟨1 :: inpL m, ⟨?_, by (first | lia | omega), fun k hk => ?_, fun i ps hi hps => ?_⟩, by rw [h1]; simp, fun i hi => List.mem_cons_of_mem _ (inpL_mem.mpr ⟨(inp2 i hi).1, (inp2 i hi).2.1⟩)⟩
    · unfold inpL; simp only [List.length_cons, List.length_map, List.length_range]; (first | lia | omega)
    · rcases List.mem_cons.mp hk with rfl | q
      · exact ⟨1, rfl, by decide, by (first | lia | omega)⟩
      · unfold inpL at q
        obtain ⟨j, hj, rfl⟩ := List.mem_map.mp q
        rw [List.mem_range] at hj
        exact ⟨2 + j, rfl, by (first | lia | omega), by (first | lia | omega)⟩
    · exfalso
      have : i < m + 2 := by
        rcases List.mem_cons.mp hi with q | q
        · (first | lia | omega)
        · exact (inpL_mem.mp q).2
      rcases ok.well i _ hps with ⟨_, e⟩ | ⟨_, e⟩ | ⟨_, _, e⟩ | ⟨e1, _⟩
      · cases e
      · cases e
      · cases e
      · (first | lia | omega)
  · refine ⟨inpL (gs.length - 2), ⟨?_, by (first | lia | omega), fun k hk => ?_, fun i ps hi hps => ?_⟩, inpL_mem.mpr (by (first | lia | omega)), fun i hi => inpL_mem.mpr (by have := inp2 i hi; (first | lia | omega))⟩
    · unfold inpL; simp only [List.length_map, List.length_range]; (first | lia | omega)
    · unfold inpL at hk
      obtain ⟨j, hj, rfl⟩ := List.mem_map.mp hk
      rw [List.mem_range] at hj
      exact ⟨2 + j, rfl, by (first | lia | omega), by (first | lia | omega)⟩
    · have hlt := (List.getElem?_eq_some_iff.mp hps).1
      rcases ok.well i _ hps with ⟨_, e⟩ | ⟨_, e⟩ | ⟨_, _, e⟩ | ⟨e1, qs, e, e2, e3⟩
      · cases e
      · cases e
      · cases e
      · cases e
        exact ⟨e2, fun p hp => ⟨by have := (e3 p hp).1; (first | lia | omega), inpL_mem.mpr (by have := e3 p hp; (first | lia | omega))⟩⟩
end L04
end Lay
end

section
open PySem PySem.W PyProof.Rows
set_option Elab.async false
set_option linter.unusedVariables false
namespace Lay
theorem W.upto {v : V} {a : List V} {k : Int} {c : Option Nat} {s : St} {Q : V → St → Prop} (h : lView v s = some a) (hk : 0 ≤ k) (hl : a.length ≤ lim) (q : Wp (mkList c (a.take k.toNat)) s Q) : Wp (vUpto c v (.int k)) s Q := by
  obtain ⟨u, s', h1, h2⟩ := q
  refine ⟨u, s', ?_, h2⟩
  unfold R vUpto
  simp only [h]
  rw [if_pos ⟨hk, hl⟩]; exact h1
theorem W.last {v : V} {a : List V} {u : V} {s : St} {Q : V → St → Prop} (h : lView v s = some (a ++ [u])) (hl : a.length < 2 ^ 40) (q : Q u s) : Wp (vItem v (.int (-1))) s Q := by
  refine ⟨_, _, P.item_l (j := a.length) (fun ys e => by subst e; cases h) h (by decide) ?_ (by rw [List.getElem?_append_right (Nat.le_refl _), Nat.sub_self]; rfl), q⟩
  have e : (if (-1 : Int) < 0 then -1 + ((a ++ [u]).length : Int) else -1) = (a.length : Int) := by rw [if_pos (by decide), List.length_append]; simp; (first | lia | omega)
  unfold seqIndex?
  try dsimp only
  rw [e, List.length_append, if_pos (by simp only [Bool.and_eq_true, decide_eq_true_eq]; simp; (first | lia | omega))]
  congr 1
namespace L04
noncomputable def D100 (σ σ' : Hp) : Prop := ∀ n, n ≠ 100 → σ' n = σ n
theorem D100.free {a b : Hp} {B : Nat} (h : D100 a b) (hf : Free B a) (hB : 100 < B) : Free B b := fun n hn => (h n (by (first | lia | omega))).trans (hf n hn)
theorem W.draw2 {xs : List Int} {n i : Nat} {many : Int} {s : St} {Q : V → St → Prop} (hi : s.loc i = some (.ref 100)) (hF : Fed xs n s.hp) (hk : n < 2 ^ 40) (hl : xs.length ≤ 60) (hm : 0 < many) (hn : Free 580 s.hp)
    (k : ∀ (r : Int) (σ' : Hp), 0 ≤ r → r < many → D100 s.hp σ' → Fed xs (n + 1) σ' → Q (.int r) ⟨s.loc, σ'⟩) : Wp (X.call (callM (runF 580 2 m__law_draw)) (X.cons (M.getL i) (X.cons (pure (.int many)) X.nil))) s Q :=
  W.draw hi hF hk hl hm hn fun r k' h1 h2 h3 h4 => k r _ h1 h2 (fun n hn => upd_ne _ _ hn) ⟨k', h3, h4, upd_same _ _ _⟩
theorem Inv.nrow {gs : List G} {al : List Int} {d : Cl} (h : Inv gs al d) {x g : Int} (hl : Lit d g x) : ∀ r ∈ [x] :: d.cs, NRow (d.ga.length - 1) r := by
  intro r hr
  rcases List.mem_cons.mp hr with rfl | q
  · refine ⟨List.pairwise_singleton _ _, fun y hy => ?_⟩
    rw [List.mem_singleton] at hy; subst hy
    have := h.lit_row hl; (first | lia | omega)
  · obtain ⟨h1, h2⟩ := h.row r q
    exact ⟨h1, fun y hy => by have := h2 y hy; (first | lia | omega)⟩
theorem NRow.res {N : Nat} {r L : List Int} (h : NRow N r) (e : ∀ x, x ∈ L ↔ x ∈ r) {o : Option (List Int)} (ho : Res L o) : o = some r :=
  ho.unique (L' := r) (o' := some r) ⟨h.1.noClash h.nz, fun _ => Iff.rfl, h.1⟩ e
theorem check_wp {N : Nat} {RS : List (List Int)} {s : St} {Q : Fl → St → Prop} (hN : N ≤ 12) (hr : ∀ r ∈ RS, NRow N r) (hn : Free 360 s.hp)
    (k : ∀ s' : St, s'.hp = s.hp → (∀ k, k ≠ 10 → s'.loc k = s.loc k) → Q .next s') :
    Wp (M.forS (.lst (RS.map tupI)) (fun v => M.setL 10 v) (M.seq (Y.ite ((X.or1 (X.tcmp (vEq true) (X.call (callM (runF 360 1 m__law_due)) (X.cons (X.call (bList none) (X.cons (M.getL 10) X.nil)) X.nil)) (M.getL 10)) (X.or1 (X.tcmp (vEq true) (X.call (callM (runF 600 1 m_clause_of)) (X.cons (X.op2 (vAdd none) (X.op2 (vBack none) (X.call (bList none) (X.cons (M.getL 10) X.nil)) (X.op1 vNeg (pure (.int 1)))) (X.call (bList none) (X.cons (M.getL 10) X.nil))) X.nil)) (M.getL 10)) X.or0))) (M.seq (Y.ret (pure (.bool false)))
  (Y.end)) (Y.end))
  (Y.end))) s Q := by
  have l64 : 64 ≤ lim := by decide
  refine .forS (xs := RS.map tupI) (fun _ s' => s'.hp = s.hp ∧ ∀ k, k ≠ 10 → s'.loc k = s.loc k) ⟨rfl, fun _ _ => rfl⟩ (fun _ _ _ => rfl) ?_ fun s' h => k s' h.1 h.2
  rintro i s1 x ⟨a1, a2⟩ hx
  rw [List.getElem?_map] at hx
  obtain ⟨r, hy, rfl⟩ := Option.map_eq_some_iff.mp hx
  have hrr := hr r (List.mem_of_getElem? hy)
  have hrl := hrr.length
  have hf : Free 360 s1.hp := by rw [a1]; exact hn
  have hlr : (r.map V.int).length ≤ lim := by rw [List.length_map]; (first | lia | omega)
  have step : ∀ k, k ≠ 10 → upd s1.loc 10 (some (tupI r)) k = s.loc k := fun k hk => by rw [upd_ne _ _ hk]; exact a2 k hk
  refine .setL (.seq (.ite (.or1 (.tcmp (.call (.cons (.call (.cons (.getL (v := tupI r) rfl (.nil (W.bList (xs := r.map .int) rfl rfl (.mkLst (ints_low _) hlr (.nil (W.dueC (L := r) hf SeqIs.lst (.inl rfl) (by (first | lia | omega)) hrr.nz fun o ho => .getL (v := Oc (some r)) rfl (W.eqO (.asBool ⟨fun hb => ?_, fun hb => ?_⟩))))))))))))))))
  · have := hrr.res (fun _ => Iff.rfl) ho
    subst this
    simp at hb
  refine .or1 (.tcmp (.call (.cons (.op2 (.op2 (.call (.cons (.getL (v := tupI r) rfl (.nil (W.bList (xs := r.map .int) rfl rfl (.mkLst (ints_low _) hlr (.op1 (.pure (W.neg (W.rev (a := r.map .int) rfl (ints_low _) hlr (.call (.cons (.getL (v := tupI r) rfl (.nil (W.bList (xs := r.map .int) rfl rfl (.mkLst (ints_low _) hlr (W.addL (a := (r.map .int).reverse) (b := r.map .int) rfl rfl ?_ ?_ (.nil (W.clauseC (L := r.reverse ++ r) (hf.mono (by decide)) ?_ ?_ ?_ fun o2 ho2 => .getL (v := Oc (some r)) rfl (W.eqO (.asBool ⟨fun hb2 => ?_, fun hb2 => .or0 ⟨nofun, fun _ => .end (.end ⟨a1, step⟩)⟩⟩))))))))))))))))))))))))))
  · rw [← List.map_reverse, ← List.map_append]; exact ints_low _
  · simp only [List.length_append, List.length_reverse, List.length_map]; (first | lia | omega)
  · rw [← List.map_reverse, ← List.map_append]; exact SeqIs.lst
  · simp only [List.length_append, List.length_reverse]; (first | lia | omega)
  · intro x hx; simp at hx; exact hrr.nz x hx
  · have := hrr.res (fun x => by simp) ho2
    subst this
    simp at hb2
theorem elim_wp {N : Nat} {RS : List (List Int)} {ps : List Int} {s : St} {Q : Fl → St → Prop} (hN : N ≤ 12) (hr : ∀ r ∈ RS, NRow N r) (hlen : RS.length ≤ lim) (hp : ∀ v ∈ ps, 0 < v) (hall : ∀ n : Nat, 1 ≤ n → n ≤ N → (n : Int) ∈ ps) (h9 : s.loc 9 = some (.lst (RS.map tupI))) (hn : Free 140 s.hp)
    (k : ∀ (s' : St) (RS' : List (List Int)), s'.hp = s.hp → (∀ k, k ≠ 9 → k ≠ 12 → s'.loc k = s.loc k) → s'.loc 9 = some (.lst (RS'.map tupI)) → ([] ∉ RS' ↔ ∃ τ, Sat τ RS) → Q .next s') :
    Wp (M.forS (.lst (ps.map .int)) (fun v => M.setL 12 v) (M.seq (Y.assign 9 (X.call (callM (runF 140 2 m__law_taken_out)) (X.cons (M.getL 9) (X.cons (M.getL 12) X.nil))))
  (Y.end))) s Q := by
  refine .forS (xs := ps.map .int) (fun i s' => s'.hp = s.hp ∧ (∀ k, k ≠ 9 → k ≠ 12 → s'.loc k = s.loc k) ∧ ∃ RS', s'.loc 9 = some (.lst (RS'.map tupI)) ∧ (∀ r ∈ RS', NRow N r) ∧ RS'.length ≤ lim ∧ ((∃ τ, Sat τ RS') ↔ ∃ τ, Sat τ RS) ∧ Uses (fun n => 1 ≤ n ∧ n ≤ N ∧ ∀ v ∈ ps.take i, n ≠ v.natAbs) RS')
    ⟨rfl, fun _ _ _ => rfl, RS, h9, hr, hlen, Iff.rfl, fun r hrr x hx => ⟨(hr r hrr).2 x hx |>.1, (hr r hrr).2 x hx |>.2, by simp⟩⟩ (fun _ _ _ => rfl) ?_ ?_
  · rintro i s1 x ⟨a1, a2, RS1, a3, a4, a5, a6, a7⟩ hx
    rw [List.getElem?_map] at hx
    obtain ⟨v, hv, rfl⟩ := Option.map_eq_some_iff.mp hx
    have hv0 := hp v (List.mem_of_getElem? hv)
    refine .setL (.seq (.assign (.call (.cons (.getL (v := .lst (RS1.map tupI)) a3 (.cons (.getL (v := .int v) rfl (.nil (.callM ((taken_ws hN a4 a5 (by show Free 140 s1.hp; rw [a1]; exact hn)).mono ?_))))))))))
    rintro u σ' ⟨rfl, RS2, rfl, b1, b2⟩
    have b3 : ∀ r ∈ RS2, NRow N r := fun r hr2 => Cut1.nrow a4 ((b2 r).mp hr2)
    have b4 := rows_bound b1 b3
    have b5 : 3 ^ N ≤ 3 ^ 12 := Nat.pow_le_pow_right (by decide) hN
    have b6 : (3 ^ 12 : Nat) ≤ lim := by decide
    refine .end ⟨a1, fun k h1 h2 => ?_, RS2, rfl, b3, by (first | lia | omega), (cut_sat hv0 a4 b2).trans a6, fun r hr2 x hx => ?_⟩
    · dsimp only
      rw [upd_ne _ _ h1, upd_ne _ _ h2]; exact a2 k h1 h2
    · obtain ⟨⟨c1, c2, c3⟩, c4⟩ := cut_uses hv0 a4 b2 a7 r hr2 x hx
      refine ⟨c1, c2, fun w hw => ?_⟩
      rw [List.take_add_one, hv] at hw
      rcases List.mem_append.mp hw with q | q
      · exact c3 w q
      · have : w = v := by simpa using q
        subst this; exact c4
  · rintro s1 ⟨a1, a2, RS1, a3, a4, a5, a6, a7⟩
    rw [List.length_map, List.take_length] at a7
    refine k s1 RS1 a1 a2 a3 ((none_left a7 fun n hn => ?_).symm.trans a6)
    exact hn.2.2 n (hall n hn.1 hn.2.1) (by (first | lia | omega))
end L04
end Lay
end

section
open PySem PySem.W PyProof.Rows
set_option Elab.async false
set_option linter.unusedVariables false
namespace Lay
namespace L04
inductive GI (xs : List Int) (n0 m : Nat) (σ0 : Hp) (i : Nat) (s : St) : Prop
  | mk (h1 : s.loc 1 = some (.ref 100)) (h2 : s.loc 2 = some (.ref 1)) (h3 : s.loc 4 = some (.lst ((inpL m).map .int))) (h4 : s.loc 5 = some (.ref 101)) (h5 : Fed xs (n0 + 8 * i) s.hp) (h6 : Free 102 s.hp) (h7 : (∀ n, 6 ≤ n → n ≤ 12 → s.hp n = none)) (gs : List G) (kn : List (List Int × V)) (S : List Int) (h8 : COk m gs kn) (h9 : CircAt gs kn s.hp) (h10 : gs.length ≤ m + 2 + 3 * i) (h11 : s.hp 101 = some (.list (S.map .int))) (h12 : S.length = m + i) (h13 : ∀ x ∈ S, 1 ≤ x.natAbs ∧ x.natAbs < gs.length)
theorem run_law (ys : List Int) (hys : ys.length ≤ 63) : ∃ σ', runF 100 1 m_law [.lst (ys.map .int)] (fun _ => none) = some (.bool true, σ') := by
  suffices h : Ws (runF 100 1 m_law) [.lst (ys.map .int)] (fun _ => none) (fun v _ => v = .bool true) by
    obtain ⟨v, σ', h1, rfl⟩ := h; exact ⟨σ', h1⟩
  have l1000 : 1000 < lim := by decide
  have hxl : (ys.take 60).length ≤ 60 := by rw [List.length_take]; (first | lia | omega)
  refine Ws.fn rfl ?_
  unfold m_law
  refine .seq (.assignDisp (.cons (.dictS (.dcons (.pure (.op2 (.getL (v := .lst (ys.map .int)) rfl (.pure (W.upto (a := ys.map .int) rfl (by decide) (by rw [List.length_map]; (first | lia | omega)) (.mkLst ?_ ?_ (.dcons (.pure (.pure (.dnil (Wp.ofR (a := .ref 100) (s' := ⟨fun i => [V.lst (ys.map .int)][i]?, upd (fun _ => none) 100 (some (feedO (ys.take 60) 0))⟩) ?_ ?_)))))))))))))))
  · rw [← List.map_take]; exact ints_low _
  · rw [List.length_take, List.length_map]; (first | lia | omega)
  · rw [← List.map_take]
    unfold R mkDict
    have : pairsOf strKey [(V.str (Str.ofString "cells"), V.lst (List.map V.int (ys.take (60 : Int).toNat))), (V.str (Str.ofString "count"), V.int 0)] = some [(Str.ofString "cells", V.lst (List.map V.int (ys.take 60))), (Str.ofString "count", V.int 0)] := rfl
    have e1 : ∀ v, kvSet ([] : List (Str × V)) (Str.ofString "cells") v = [(Str.ofString "cells", v)] := fun v => kvSet_new (by simp)
    have e2 : ∀ v u, kvSet [(Str.ofString "cells", v)] (Str.ofString "count") u = [(Str.ofString "cells", v), (Str.ofString "count", (u : V))] := fun v u => kvSet_new (by simp only [List.map_cons, List.map_nil]; decide)
    simp only [this, List.foldl_cons, List.foldl_nil, e1, e2]
    exact R.new rfl
  generalize ys.take 60 = xs at hxl
  have f0 : Fed xs 0 (upd (fun _ => none) 100 (some (feedO xs 0))) := ⟨0, by decide, by decide, upd_same _ _ _⟩
  refine .cons (.call (.nil (.newM rfl rfl ((cinit_ws rfl rfl (fun n h1 h2 => by dsimp only; rw [upd_ne _ _ (by (first | lia | omega)), upd_ne _ _ (by (first | lia | omega)), upd_ne _ _ (by (first | lia | omega))]) (fun n h => by dsimp only; rw [upd_ne _ _ (by (first | lia | omega)), upd_ne _ _ (by (first | lia | omega)), upd_ne _ _ (by (first | lia | omega))])).mono ?_))))
  rintro u σ1 ⟨rfl, c1, o1⟩
  have s1 : ∀ n, 5 < n → n ≠ 100 → σ1 n = none := fun n h1 h2 => by
    rw [o1 n h1]
    simp only [upd_ne _ _ (show n ≠ 1 by (first | lia | omega)), upd_ne _ _ (show n ≠ 2 by (first | lia | omega)), upd_ne _ _ h2]
  have f1 : Fed xs 0 σ1 := ⟨0, by decide, by decide, by rw [o1 100 (by decide)]; rfl⟩
  clear o1 f0
  refine ⟨rfl, .nil ⟨show 2 ≤ 100 by decide, .sets1 (.sets1 (.sets0 ?_))⟩⟩
  try dsimp only
  have fr1 : Free 101 σ1 := fun n h => s1 n (by (first | lia | omega)) (by (first | lia | omega))
  refine .seq (.ite (.tnot (.truth (.call (.cons (.getL (v := .ref 100) rfl (.nil (.callM ((plain_ws f1 (by decide) hxl (fr1.mono (by decide))).mono ?_)))))))))
  rintro u σ2 ⟨rfl, k, k0, k1, rfl⟩
  refine .asBool ⟨nofun, fun _ => .end ?_⟩
  try dsimp only
  have f2 : Fed xs 16 (upd σ1 100 (some (feedO xs k))) := ⟨k, k0, by omega, upd_same _ _ _⟩
  have s2 : ∀ n, 5 < n → n ≠ 100 → (upd σ1 100 (some (feedO xs k))) n = none := fun n h1 h2 => by rw [upd_ne _ _ h2]; exact s1 n h1 h2
  have c2 : CircAt (circ0 0) [] (upd σ1 100 (some (feedO xs k))) := c1.mono fun n h => upd_ne _ _ (by (first | lia | omega))
  generalize upd σ1 100 (some (feedO xs k)) = σ2 at f2 s2 c2
  clear f1 s1 c1 fr1
  have fr2 : Free 101 σ2 := fun n h => s2 n (by (first | lia | omega)) (by (first | lia | omega))
  refine .seq (.assign (inputs_wp (.call (.cons (.op2 (.pure (W.draw2 (n := 16) (many := 2) rfl f2 (by decide) hxl (by decide) (fr2.mono (by decide)) fun r σ3 r0 r1 d3 f3 => W.add (.nil (W.range1 ?_))))))) (by decide)))
  refine ⟨(2 + r).toNat, by (first | lia | omega), by congr 1; (first | lia | omega), rfl, c2.mono (fun n h => d3 n (by (first | lia | omega))), (d3.free fr2 (by decide)).mono (by decide), fun s4 g4 l4 c4 => ?_⟩
  have hm : (2 + r).toNat = 2 ∨ (2 + r).toNat = 3 := by (first | lia | omega)
  generalize (2 + r).toNat = m at hm c4
  dsimp only at g4
  have s4n : ∀ n, 5 < n → n ≠ 100 → s4.hp n = none := fun n h1 h2 => by rw [g4 n (by (first | lia | omega)) (by (first | lia | omega)) (by (first | lia | omega)), d3 n h2]; exact s2 n h1 h2
  have f4 : Fed xs 17 s4.hp := by
    obtain ⟨k, k0, k1, k2⟩ := f3
    exact ⟨k, k0, k1, by rw [g4 100 (by decide) (by decide) (by decide)]; exact k2⟩
  have l1 : s4.loc 1 = some (.ref 100) := l4 1 (by decide)
  have l2 : s4.loc 2 = some (.ref 1) := l4 2 (by decide)
  clear l4 g4 f3 d3 f2 s2 c2 fr2
  have il : (inpL m).length = m := by unfold inpL; simp
  refine .seq (.assign (.call (.cons (.getL (v := .lst ((inpL m).map .int)) rfl (.nil (W.bList (xs := (inpL m).map .int) rfl rfl (.mkLstS (ints_low _) (by rw [List.length_map]; (first | lia | omega)) (s4n 101 (by decide) (by decide)) ?_)))))))
  try dsimp only
  have f5 : Fed xs 17 (upd s4.hp 101 (some (.list ((inpL m).map .int)))) := by
    obtain ⟨k, k0, k1, k2⟩ := f4
    exact ⟨k, k0, k1, by rw [upd_ne _ _ (by decide)]; exact k2⟩
  have s5 : ∀ n, 5 < n → n ≠ 100 → n ≠ 101 → (upd s4.hp 101 (some (.list ((inpL m).map .int)))) n = none := fun n h1 h2 h3 => by rw [upd_ne _ _ h3]; exact s4n n h1 h2
  have c5 : CircAt (circ0 m) [] (upd s4.hp 101 (some (.list ((inpL m).map .int)))) := c4.mono fun n h => upd_ne _ _ (by (first | lia | omega))
  have q5 : (upd s4.hp 101 (some (.list ((inpL m).map .int)))) 101 = some (.list ((inpL m).map .int)) := upd_same _ _ _
  generalize upd s4.hp 101 (some (.list ((inpL m).map .int))) = σ5 at f5 s5 c5 q5
  have fr5 : Free 102 σ5 := fun n h => s5 n (by (first | lia | omega)) (by (first | lia | omega)) (by (first | lia | omega))
  refine .seq (.for (.call (.cons (.op2 (.pure (W.draw2 (n := 17) (many := 2) l1 f5 (by decide) hxl (by decide) (fr5.mono (by decide)) fun r2 σ6 r20 r21 d6 f6 => W.add (.nil (W.range1 ⟨rfl, ?_⟩))))))))
  try dsimp only
  refine .forS (xs := _) (GI xs 18 m σ6) ⟨l1, l2, rfl, rfl, f6, d6.free fr5 (by decide), fun n h1 h2 => (d6 n (by (first | lia | omega))).trans (s5 n (by (first | lia | omega)) (by (first | lia | omega)) (by (first | lia | omega))), circ0 m, [], inpL m, circ0_ok m, c5.mono (fun n h => d6 n (by (first | lia | omega))), by rw [circ0_len]; (first | lia | omega), (d6 101 (by decide)).trans q5, by rw [il]; rfl, fun x hx => ?_⟩ (fun i s _ => rng_items (by decide) (by (first | lia | omega))) ?_ ?_
  · unfold inpL at hx
    obtain ⟨j, hj, rfl⟩ := List.mem_map.mp hx
    rw [List.mem_range] at hj
    rw [circ0_len]
    omega
  · rintro i s x ⟨a1, a2, a4, a5, af, afr, a6, gs, kn, S, ok, ac, agl, a101, aSl, aS⟩ hx
    obtain ⟨rfl, hi⟩ := rng_get hx
    refine .setL (.seq (.expr (.meth (.getL (v := .ref 101) a5 ⟨isLst_ref a101, .cons (.call (.cons (.getL (v := .ref 100) a1 (.cons (.getL (v := .ref 1) a2 (.cons (.getL (v := .ref 101) a5 (.nil (.callM ((gate_ws af (by (first | lia | omega)) hxl ac ok (by (first | lia | omega)) (afr.mono (by decide)) a101 (by (first | lia | omega)) (by (first | lia | omega)) aS).mono ?_))))))))))⟩))))
    rintro v σ7 ⟨k, k0, k1, g, gs', kn', rfl, g1, g2, ok', c', fr', gl1, gl2⟩
    have h101 : σ7 101 = some (.list (S.map .int)) := by rw [fr' 101 (by decide) (by decide) (by decide), upd_ne _ _ (by decide)]; exact a101
    refine .nil (W.app h101 rfl (by rw [List.length_map]; (first | lia | omega)) (.end ⟨a1, a2, a4, a5, ?_, ?_, ?_, gs', kn', S ++ [g], ok', ?_, by (first | lia | omega), ?_, by simp [aSl]; (first | lia | omega), fun x hx => ?_⟩))
    · refine ⟨k, k0, by omega, ?_⟩
      try dsimp only
      rw [upd_ne _ _ (by decide), fr' 100 (by decide) (by decide) (by decide), upd_same]
    · intro n hn
      try dsimp only
      rw [upd_ne _ _ (by (first | lia | omega)), fr' n (by (first | lia | omega)) (by (first | lia | omega)) (by (first | lia | omega)), upd_ne _ _ (by (first | lia | omega))]; exact afr n hn
    · intro n h1 h2
      try dsimp only
      rw [upd_ne _ _ (by (first | lia | omega)), fr' n (by (first | lia | omega)) (by (first | lia | omega)) (by (first | lia | omega)), upd_ne _ _ (by (first | lia | omega))]; exact a6 n h1 h2
    · exact c'.mono fun n h => upd_ne _ _ (by (first | lia | omega))
    · dsimp only; rw [upd_same, List.map_append]; rfl
    · rcases List.mem_append.mp hx with q | q
      · have := aS x q; (first | lia | omega)
      · rw [List.mem_singleton] at q; subst q; exact ⟨g1, g2⟩
  rintro s ⟨a1, a2, a4, a5, af, afr, a6, gs, kn, S, ok, ac, agl, a101, aSl, aS⟩
  rw [List.length_map, List.length_range] at af agl aSl
  have gl14 : gs.length ≤ 14 := by (first | lia | omega)
  obtain ⟨S0, t, rfl⟩ : ∃ S0 t, S = S0 ++ [t] := by
    have : S ≠ [] := fun e => by rw [e] at aSl; simp at aSl; (first | lia | omega)
    exact ⟨_, _, (List.dropLast_concat_getLast this).symm⟩
  have ht := aS t (by simp)
  have hS0 : S0.length < 1000 := by simp at aSl; (first | lia | omega)
  have hn1 : 18 + 8 * ((2 + r2 - 0).toNat) < 100 := by (first | lia | omega)
  generalize 18 + 8 * ((2 + r2 - 0).toNat) = n1 at af hn1
  refine .seq (Wp.mono (Q := fun f s1 => f = .next ∧ ∃ g : Int, g.natAbs = t.natAbs ∧ s1.loc 6 = some (.int g) ∧ (∀ k, k ≠ 6 → s1.loc k = s.loc k) ∧ D100 s.hp s1.hp ∧ Fed xs (n1 + 1) s1.hp) ?_ ?_)
  · refine .assign (.ife (.tcmp (W.draw2 (n := n1) (many := 2) a1 af (by (first | lia | omega)) hxl (by decide) (afr.mono (by decide)) fun r σ' r0 r1 d f => .pure (W.eqI (.asBool ⟨fun _ => ?_, fun _ => ?_⟩)))))
    · refine .op2 (.getL (v := .ref 101) a5 (.op1 (.pure (W.neg (W.last (a := S0.map .int) (u := .int t) ?_ (by rw [List.length_map]; (first | lia | omega)) ⟨rfl, t, rfl, rfl, fun k hk => upd_ne _ _ hk, d, f⟩)))))
      unfold lView; dsimp only; rw [d 101 (by decide), a101, List.map_append]; rfl
    · refine .op1 (.op2 (.getL (v := .ref 101) a5 (.op1 (.pure (W.neg (W.last (a := S0.map .int) (u := .int t) ?_ (by rw [List.length_map]; (first | lia | omega)) (W.neg ⟨rfl, -t, Int.natAbs_neg _, rfl, fun k hk => upd_ne _ _ hk, d, f⟩)))))))
      unfold lView; dsimp only; rw [d 101 (by decide), a101, List.map_append]; rfl
  rintro fl s1 ⟨rfl, g, hg, e6, el, ed, ef⟩
  rw [← hg] at ht
  have b1 := (el 1 (by decide)).trans a1
  have b2 := (el 2 (by decide)).trans a2
  have b4 := (el 4 (by decide)).trans a4
  have bc : CircAt gs kn s1.hp := ac.mono fun n h => ed n (by (first | lia | omega))
  have bfr : Free 102 s1.hp := ed.free afr (by decide)
  have b6n : ∀ n, 6 ≤ n → n ≤ 12 → s1.hp n = none := fun n h1 h2 => (ed n (by (first | lia | omega))).trans (a6 n h1 h2)
  clear a1 a2 a4 a5 af afr a6 ac a101 aS el ed hg hS0 aSl agl
  clear f6 d6 fr5 q5 c5 s5 f5 l1 l2 f4 s4n c4
  try dsimp only
  obtain ⟨al, cg, gal, inal⟩ := ok.cg hm gl14 ht
  refine .seq (.assign (.call (.cons (.getL (v := .ref 1) b2 (.cons (W.draw2 (n := n1 + 1) (many := 2) b1 ef (by (first | lia | omega)) hxl (by decide) (bfr.mono (by decide)) fun w σ7 w0 w1 d7 f7 => .nil (.newM ?_ ?_ ((init_ws (w := w) cg (bc.mono (τ := upd (upd σ7 7 (some (.attrs []))) 6 (some (.inst 114 7))) fun n h => ?_) inal (upd_same _ _ _) ?_ ?_ ?_).mono ?_))))))))
  · dsimp only; rw [d7 7 (by decide)]; exact b6n 7 (by decide) (by decide)
  · dsimp only; rw [upd_ne _ _ (by decide), d7 6 (by decide)]; exact b6n 6 (by decide) (by decide)
  · rw [upd_ne _ _ (by (first | lia | omega)), upd_ne _ _ (by (first | lia | omega)), d7 n (by (first | lia | omega))]
  · rw [upd_ne _ _ (by decide), upd_same]
  · intro n h1 h2; rw [upd_ne _ _ (by (first | lia | omega)), upd_ne _ _ (by (first | lia | omega)), d7 n (by (first | lia | omega))]; exact b6n n (by (first | lia | omega)) h2
  · intro n h; rw [upd_ne _ _ (by (first | lia | omega)), upd_ne _ _ (by (first | lia | omega)), d7 n (by (first | lia | omega))]; exact bfr n (by (first | lia | omega))
  rintro u σ8 ⟨rfl, fr8, d, kd, iv, dw, dop, dcs, din⟩
  refine ⟨rfl, ?_⟩
  have g8 : ∀ n, n < 6 ∨ 12 < n → σ8 n = σ7 n := fun n h => by rw [fr8 n h, upd_ne _ _ (by (first | lia | omega)), upd_ne _ _ (by (first | lia | omega))]
  have c8 : CircAt gs kn σ8 := bc.mono fun n h => by rw [g8 n (by (first | lia | omega)), d7 n (by (first | lia | omega))]
  have fr : Free 102 σ8 := fun n h => by rw [g8 n (by (first | lia | omega)), d7 n (by (first | lia | omega))]; exact bfr n h
  have f8 : Fed xs (n1 + 2) σ8 := by
    obtain ⟨k, k0, k1, k2⟩ := f7
    exact ⟨k, k0, k1, by rw [g8 100 (by (first | lia | omega))]; exact k2⟩
  clear fr8 g8 d7 f7 bc bfr b6n ef
  try dsimp only
  refine .seq (.assign (.meth (.getL (v := .ref 6) rfl ⟨okK kd (by decide) (by decide) (by decide) (by decide) (by decide) (by decide) (by decide), .cons (.getL (v := .int g) e6 (.nil (.callM ((literal_ws cg kd c8 iv (fr.mono (by decide)) dop dcs ht.1 gal).mono ?_))))⟩)))
  rintro u σ9 ⟨f9, d9, x, rfl, k9, iv9, wa9, dn9, go9, lx9, num9, cl9⟩
  have c9 : CircAt gs kn σ9 := c8.mono fun n h => f9 n (by (first | lia | omega))
  have fr9 : Free 102 σ9 := f9.free fr (by decide)
  have fe9 : Fed xs (n1 + 2) σ9 := by
    obtain ⟨k, k0, k1, k2⟩ := f8
    exact ⟨k, k0, k1, by rw [f9 100 (by (first | lia | omega))]; exact k2⟩
  have hrow := iv9.nrow lx9
  have hga := (iv9.bounds cg).2.1
  have henc := enc_ok ok cg iv9 dn9 (fun i h1 h2 => by
    obtain ⟨n, hn⟩ := iv.numOf (din i h1 h2)
    exact (kv_keys_some _ _).mp (by rw [num9 _ _ hn]; rfl)) go9 lx9
  clear f9 f8 fr c8 kd iv dw dop dcs din num9
  try dsimp only
  refine .seq (.assign (.op2 (.list (.cons (.tup (.cons (.getL (v := .int x) rfl (.nil (.mkTup rfl (show 1 ≤ lim by decide) (.nil (.mkLst rfl (show 1 ≤ lim by decide) (.call (.cons (.op1 (.getL (v := .ref 6) rfl (W.kClauses k9 (.nil (W.bList (xs := d9.cs.map tupI) rfl ?_ (.mkLst ?_ ?_ (W.addL (a := [tupI [x]]) (b := d9.cs.map tupI) rfl rfl ?_ ?_ ?_))))))))))))))))))))
  · unfold collItems; simp only [k9.cs]
  · rw [List.all_eq_true]; intro y hy; obtain ⟨z, _, rfl⟩ := List.mem_map.mp hy; rfl
  · rw [List.length_map]; (first | lia | omega)
  · rw [List.all_eq_true]; intro y hy
    rcases List.mem_append.mp hy with q | q
    · rw [List.mem_singleton] at q; subst q; rfl
    · obtain ⟨z, _, rfl⟩ := List.mem_map.mp q; rfl
  · rw [List.length_append, List.length_map]; simp; (first | lia | omega)
  have eRS : [tupI [x]] ++ d9.cs.map tupI = ([x] :: d9.cs).map tupI := rfl
  rw [eRS]
  have hRSl : ([x] :: d9.cs).length ≤ 1000 := by simp; (first | lia | omega)
  generalize [x] :: d9.cs = RS at hrow henc hRSl
  try dsimp only
  have hN : d9.ga.length - 1 ≤ 12 := by omega
  refine .seq (.for (.getL (v := .lst (RS.map tupI)) rfl ⟨rfl, check_wp hN hrow (fr9.mono (by decide)) fun s10 h10 l10 => ?_⟩))
  dsimp only at h10
  have p1 : s10.loc 1 = some (.ref 100) := (l10 1 (by decide)).trans b1
  have p2 : s10.loc 2 = some (.ref 1) := (l10 2 (by decide)).trans b2
  have p4 : s10.loc 4 = some (.lst ((inpL m).map .int)) := (l10 4 (by decide)).trans b4
  have p6 : s10.loc 6 = some (.int g) := (l10 6 (by decide)).trans e6
  have p7 : s10.loc 7 = some (.ref 6) := (l10 7 (by decide)).trans rfl
  have p9 : s10.loc 9 = some (.lst (RS.map tupI)) := (l10 9 (by decide)).trans rfl
  clear l10 b1 b2 b4 e6
  rw [← h10] at k9 c9 fr9 fe9
  clear h10
  have hga1 : 1 ≤ d9.ga.length := by rw [iv9.ga]; simp
  have hps : ∃ ps : List Int, ((List.range ((d9.ga.length : Int) - 1 + 1 - 1).toNat).map fun (i : Nat) => V.int (1 + i)) = ps.map .int ∧ ps.length ≤ 12 ∧ (∀ v ∈ ps, 0 < v) ∧ ∀ n : Nat, 1 ≤ n → n ≤ d9.ga.length - 1 → (n : Int) ∈ ps := by
    refine ⟨(List.range ((d9.ga.length : Int) - 1 + 1 - 1).toNat).map fun (i : Nat) => (1 + (i : Int)), by rw [List.map_map]; rfl, by rw [List.length_map, List.length_range]; (first | lia | omega), fun v hv => ?_, fun n h1 h2 => ?_⟩
    · obtain ⟨i, _, rfl⟩ := List.mem_map.mp hv; (first | lia | omega)
    · exact List.mem_map.mpr ⟨n - 1, List.mem_range.mpr (by omega), by (first | lia | omega)⟩
  obtain ⟨ps, eps, psl, ps0, psa⟩ := hps
  refine .seq (.assign (.call (.cons (.call (.cons (.pure (.cons (.op2 (.meth (.getL (v := .ref 6) p7 ⟨okK k9 (by decide) (by decide) (by decide) (by decide) (by decide) (by decide) (by decide), .nil (.callM ((many_ws k9 (fr9.mono (by decide)) (by (first | lia | omega))).mono ?_))⟩))))))))))
  rintro v σ11 ⟨rfl, e11⟩
  have e11 : σ11 = s10.hp := e11
  subst e11
  refine .pure (W.add (.nil (W.range2 (.nil (W.bListR (xs := ps.map .int) ?_ ?_ (.mkLst (ints_low _) ?_ ?_)))))) 
  · rw [← eps]; exact rng_items (s := s10) (by decide) (by (first | lia | omega))
  · rw [List.length_map]; (first | lia | omega)
  · rw [List.length_map]; (first | lia | omega)
  try dsimp only
  have fin : ∀ (s' : St) (RS' : List (List Int)), CircAt gs kn s'.hp → Free 120 s'.hp → s'.loc 2 = some (.ref 1) → s'.loc 4 = some (.lst ((inpL m).map .int)) → s'.loc 6 = some (.int g) → s'.loc 9 = some (.lst (RS'.map tupI)) → ([] ∉ RS' ↔ ∃ τ, Sat τ RS) →
      Wp (M.seq (Y.ret (X.op2 (vEq false) (X.op2 (vIn true) (X.tup X.nil) (M.getL 9)) (X.call (callM (runF 120 3 m__law_can_hold)) (X.cons (M.getL 2) (X.cons (M.getL 6) (X.cons (M.getL 4) X.nil))))))
  (Y.end)) s' (fun f s => ∃ v v', flV f = some v ∧ leaveV 100 v s.hp = some v' ∧ v' = .bool true) := fun s' RS' z1 z2 z3 z4 z5 z6 z7 => by
    refine .seq (.ret (.op2 (.op2 (.tup (.nil (.mkTup rfl (Nat.zero_le _) (.getL (v := .lst (RS'.map tupI)) z6 (W.inTL (x := []) (.call (.cons (.getL (v := .ref 1) z3 (.cons (.getL (v := .int g) z5 (.cons (.getL (v := .lst ((inpL m).map .int)) z4 (.nil (.callM ((canhold_ws ok hm z1 (by (first | lia | omega)) z2 ht).mono ?_))))))))))))))))))
    rintro v σ12 ⟨b, rfl, hb, rfl⟩
    refine W.eqB ⟨_, _, rfl, rfl, ?_⟩
    have : (b = true) ↔ [] ∉ RS' := hb.trans (henc.symm.trans z7.symm)
    by_cases q : [] ∈ RS'
    · have : b = false := by
        cases b with
        | false => rfl
        | true => exact absurd q (this.mp rfl)
      rw [this]; simp [q]
    · rw [this.mpr q]; simp [q]
  have q1 : ∀ k, k ≠ 11 → upd s10.loc 11 (some (V.lst (ps.map .int))) k = s10.loc k := fun k hk => upd_ne _ _ hk
  refine .seq (.for (.ife (.tcmp (W.draw2 (n := n1 + 2) (many := 2) ((q1 1 (by decide)).trans p1) fe9 (by (first | lia | omega)) hxl (by decide) (fr9.mono (by decide)) fun r σ13 r0 r1 d13 f13 => .pure (W.eqI (.asBool ⟨fun _ => ?_, fun _ => ?_⟩))))))
  · refine .getL (v := .lst (ps.map .int)) rfl ⟨rfl, elim_wp (RS := RS) hN hrow (by (first | lia | omega)) ps0 psa ((q1 9 (by decide)).trans p9) ((d13.free fr9 (by decide)).mono (by decide)) fun s' RS' y1 y2 y3 y4 => ?_⟩
    dsimp only at y1
    exact fin s' RS' (c9.mono fun n h => by rw [y1, d13 n (by (first | lia | omega))]) (by rw [y1]; exact (d13.free fr9 (by decide)).mono (by decide)) ((y2 2 (by decide) (by decide)).trans p2) ((y2 4 (by decide) (by decide)).trans p4) ((y2 6 (by decide) (by decide)).trans p6) y3 y4
  · refine .op2 (.getL (v := .lst (ps.map .int)) rfl (.op1 (.pure (W.neg (W.rev (a := ps.map .int) rfl (ints_low _) (by rw [List.length_map]; (first | lia | omega)) ⟨rfl, ?_⟩)))))
    rw [← List.map_reverse]
    refine elim_wp (RS := RS) hN hrow (by (first | lia | omega)) (fun v hv => ps0 v (List.mem_reverse.mp hv)) (fun n h1 h2 => List.mem_reverse.mpr (psa n h1 h2)) ((q1 9 (by decide)).trans p9) ((d13.free fr9 (by decide)).mono (by decide)) fun s' RS' y1 y2 y3 y4 => ?_
    dsimp only at y1
    exact fin s' RS' (c9.mono fun n h => by rw [y1, d13 n (by (first | lia | omega))]) (by rw [y1]; exact (d13.free fr9 (by decide)).mono (by decide)) ((y2 2 (by decide) (by decide)).trans p2) ((y2 4 (by decide) (by decide)).trans p4) ((y2 6 (by decide) (by decide)).trans p6) y3 y4
end L04
end Lay
end

section
open PySem PySem.W PyProof.Rows
set_option Elab.async false
namespace Lay
theorem hl_of_boot {p q : Program} {loose : List Str} {Xt : Shared → Bool} {α : Type} {Yf : Shared → α} {Ya : World → α} {N : Nat} {g0 : Bool} {m₀ : Nat} {ann : Option Value}
    (e : opening p = plainProg p.main.scope.names) (hN : Nat.ble 600 N = true) (f : ∀ s, fenceModules? p s = some s)
    (size : ∀ w : World, (((boot_heap w.params).isNs mainGlobals && ((Array.mk [] : Array GenState).size == 0)), (boot_heap w.params).objs.size, (boot_heap w.params).nsMap mainGlobals "__annotations__") = (true, m₀, ann))
    (h : ∀ (w : World) (os : OsState), (Fast.tw14082659384304107361 Fast.tw14364793385576792824 p w m₀ ann N ⟨boot_heap w.params, Array.mk [], boot_drawn, boot_toks, os⟩ (topStub p)).map
        (fun s => (staticsOk (Fast.tw5923862056798008813 p.main.body) (boot_heap w.params) s.heap && namesBound p s.heap && gensDone s && laidKept (boot_heap w.params) s.heap, Fast.tw4187177175401517315 q loose (Fast.tw5923862056798008813 p.main.body) Xt g0 s, Yf s)) = some (true, openGood q loose, Ya w)) : LeftO p q loose Xt Yf Ya N g0 := fun w => by
  obtain ⟨⟨hp, gs, d, k, os⟩, h1, h2⟩ := Option.map_eq_some_iff.mp (boot_open e hN f w)
  obtain ⟨rfl, rfl, rfl, rfl⟩ : hp = boot_heap w.params ∧ gs = Array.mk [] ∧ d = boot_drawn ∧ k = boot_toks := by simpa using h2
  obtain ⟨z1, z2, z3⟩ : _ ∧ _ ∧ _ := by simpa only [Prod.mk.injEq] using size w
  have h3 := h w os
  rw [← Fast.te14082659384304107361, ← Fast.te14364793385576792824, ← Fast.te5923862056798008813, ← Fast.te4187177175401517315] at h3
  obtain ⟨s, h4, h5⟩ := Option.map_eq_some_iff.mp h3
  obtain ⟨l1, l2, l3⟩ : _ ∧ _ ∧ _ := by simpa only [Prod.mk.injEq] using h5
  have t : topFrom treeTable p w N ⟨boot_heap w.params, Array.mk [], boot_drawn, boot_toks, os⟩ = some s := by
    unfold topFrom
    dsimp only
    rw [z1, z2, z3, h4]
    show (match staticsOk (importedModules p.main.body) (boot_heap w.params) s.heap && namesBound p s.heap && gensDone s && laidKept (boot_heap w.params) s.heap with | true => _ | false => _) = _
    rw [l1]
  unfold openEnds
  rw [h1]
  show (topFrom treeTable p w N ⟨boot_heap w.params, Array.mk [], boot_drawn, boot_toks, os⟩).map _ = _
  rw [t]
  show some (_, _) = _
  rw [l2, l3]
end Lay
end

section
open PySem PySem.W PyProof.Rows
set_option Elab.async false
set_option maxRecDepth 100000
set_option maxHeartbeats 8000000
namespace Lay
noncomputable def view04 : Program := view PySem.Challenge.pw_rr0081_04 [0,2,3,4,6,8,9,10,11,12,13,14]
theorem head04 (H : Hook) {d : DefRec} {kwd : List (Str × Expr)} (hw : (OpenLaw.row Challenge.rw_rr0081_04).toRowW.promised) (hc : WalkO view04 [] (XL view04 []) H.says (OpenLaw.row Challenge.rw_rr0081_04).toRowW d kwd fun f vs => PySem.call f vs)
    (h : ∀ (w : World) (os : OsState), (Fast.tw14082659384304107361 Fast.tw14364793385576792824 (OpenLaw.row Challenge.rw_rr0081_04).prog w 11 (some (.ref 6)) 3094 ⟨boot_heap w.params, Array.mk [], boot_drawn, boot_toks, os⟩ (topStub (OpenLaw.row Challenge.rw_rr0081_04).prog)).map
        (fun s => (staticsOk (Fast.tw5923862056798008813 (OpenLaw.row Challenge.rw_rr0081_04).prog.main.body) (boot_heap w.params) s.heap && namesBound (OpenLaw.row Challenge.rw_rr0081_04).prog s.heap && gensDone s && laidKept (boot_heap w.params) s.heap, Fast.tw4187177175401517315 view04 [] (Fast.tw5923862056798008813 (OpenLaw.row Challenge.rw_rr0081_04).prog.main.body) (fun s => xlAt view04 [] s && recOk (OpenLaw.row Challenge.rw_rr0081_04).toRowW.records s) true s, H.obs s)) = some (true, openGood view04 [], H.val w) := by exact fun _ _ => by kernel_rfl)
    (hdef : defOf view04 (OpenLaw.row Challenge.rw_rr0081_04).name = some (d, kwd) := by rfl) (hp : (OpenLaw.row Challenge.rw_rr0081_04).prog.theDef (OpenLaw.row Challenge.rw_rr0081_04).name = some (d.params, d.body, d.scope) := by rfl) (hk : kwWritten? d.params.kwonlyargs d.params.kw_defaults = some kwd := by rfl)
    (k1 : (OpenLaw.row Challenge.rw_rr0081_04).wellSaid = true := by assumption) : (OpenLaw.row Challenge.rw_rr0081_04).Holds :=
  holds_open (q := view04) (loose := []) (Xt := fun s => xlAt view04 [] s && recOk (RowW.records (OpenRow.toRowW (OpenLaw.row Challenge.rw_rr0081_04))) s) (XP := XL view04 []) (Yf := H.obs) (Ya := H.val) (YP := H.says) (N := 3094)
    (hl_of_boot (m₀ := 11) (ann := some (.ref 6)) (by kernel_rfl) (by kernel_rfl) (fun s => by kernel_rfl) (fun w => by kernel_rfl) h) H.of H.keeps (fun s e => xl_of s (Bool.and_eq_true_iff.mp e).1) XL.keeps hdef hp hk (fun s e => recFacts_of (Bool.and_eq_true_iff.mp e).2) (by rfl) k1 (by decide +kernel) ⟨rfl, rfl, rfl, rfl, rfl, by decide +kernel⟩ hw hc
theorem law04 (h : (OpenLaw.row Challenge.rw_rr0081_04).wellSaid = true → (OpenLaw.row Challenge.rw_rr0081_04).Holds) : Challenge.rw_rr0081_04.Holds := holds_law (by kernel_rfl) h
local macro_rules | `(tactic| o_head $H) => `(tactic| refine head04 $H ?hw ?hc)
local macro_rules | `(tactic| o_law) => `(tactic| refine law04 fun said => ?_)
open_top hd04 for PySem.Challenge.rw_rr0081_04
end Lay
end

section
open PySem PySem.W PyProof.Rows
set_option Elab.async false
set_option linter.unusedVariables false
set_option maxRecDepth 100000
set_option maxHeartbeats 8000000
namespace Lay
namespace L04
noncomputable abbrev Wd04 (w : World) (l : List Str) (mg mb : Str → Option Value) : Wd := ⟨Challenge.rw_rr0081_04.row.prog, w, hd04.heap_1 w.params, view04, l, mg, mb⟩
theorem g_abs (p : Params) : nsIn (hd04.heap_1 p) mainGlobals (Str.ofString "abs") = some none := by rfl
theorem g_sorted (p : Params) : nsIn (hd04.heap_1 p) mainGlobals (Str.ofString "sorted") = some none := by rfl
theorem g_place_of (p : Params) : nsIn (hd04.heap_1 p) mainGlobals (Str.ofString "place_of") = some (some (.ref 35)) := by rfl
theorem g_tuple (p : Params) : nsIn (hd04.heap_1 p) mainGlobals (Str.ofString "tuple") = some none := by rfl
theorem g_len (p : Params) : nsIn (hd04.heap_1 p) mainGlobals (Str.ofString "len") = some none := by rfl
theorem so_Circuit_kinds (w : World) (l : List Str) (mg mb : Str → Option Value) : SetOk (Wd04 w l mg mb) 224 (Str.ofString "kinds") := ⟨by rfl, by rfl, by rfl, by rfl⟩
theorem so_Circuit_parts_now (w : World) (l : List Str) (mg mb : Str → Option Value) : SetOk (Wd04 w l mg mb) 224 (Str.ofString "parts_now") := ⟨by rfl, by rfl, by rfl, by rfl⟩
theorem so_Circuit_known (w : World) (l : List Str) (mg mb : Str → Option Value) : SetOk (Wd04 w l mg mb) 224 (Str.ofString "known") := ⟨by rfl, by rfl, by rfl, by rfl⟩
theorem at_Circuit_kinds (w : World) (l : List Str) (mg mb : Str → Option Value) : AttrOk (Wd04 w l mg mb) 224 (Str.ofString "kinds") := ⟨by rfl, by rfl, _, by rfl, by rfl⟩
theorem at_Circuit_parts_now (w : World) (l : List Str) (mg mb : Str → Option Value) : AttrOk (Wd04 w l mg mb) 224 (Str.ofString "parts_now") := ⟨by rfl, by rfl, _, by rfl, by rfl⟩
theorem pg_Circuit_new_gate (p : Params) : plainGet (hd04.heap_1 p) 224 (Str.ofString "new_gate") = true := by rfl
theorem mf_Circuit_new_gate (p : Params) : findIn (hd04.heap_1 p) (.ref 224) (Str.ofString "new_gate") = some (some (.ref 160)) := by rfl
theorem fn_160 (p : Params) : isFn (hd04.heap_1 p) (.ref 160) = true := by rfl
theorem kp_160 (p : Params) : keepIn (hd04.heap_1 p) (.ref 160) = true := by rfl
theorem at_Circuit_known (w : World) (l : List Str) (mg mb : Str → Option Value) : AttrOk (Wd04 w l mg mb) 224 (Str.ofString "known") := ⟨by rfl, by rfl, _, by rfl, by rfl⟩
theorem pg_Circuit_all_of (p : Params) : plainGet (hd04.heap_1 p) 224 (Str.ofString "all_of") = true := by rfl
theorem mf_Circuit_all_of (p : Params) : findIn (hd04.heap_1 p) (.ref 224) (Str.ofString "all_of") = some (some (.ref 174)) := by rfl
theorem fn_174 (p : Params) : isFn (hd04.heap_1 p) (.ref 174) = true := by rfl
theorem kp_174 (p : Params) : keepIn (hd04.heap_1 p) (.ref 174) = true := by rfl
theorem pg_Circuit_implies (p : Params) : plainGet (hd04.heap_1 p) 224 (Str.ofString "implies") = true := by rfl
theorem mf_Circuit_implies (p : Params) : findIn (hd04.heap_1 p) (.ref 224) (Str.ofString "implies") = some (some (.ref 200)) := by rfl
theorem fn_200 (p : Params) : isFn (hd04.heap_1 p) (.ref 200) = true := by rfl
theorem kp_200 (p : Params) : keepIn (hd04.heap_1 p) (.ref 200) = true := by rfl
theorem kp_28 (p : Params) : keepIn (hd04.heap_1 p) (.ref 28) = true := by rfl
theorem g_clause_of (p : Params) : nsIn (hd04.heap_1 p) mainGlobals (Str.ofString "clause_of") = some (some (.ref 28)) := by rfl
theorem at_Clauses_clauses (w : World) (l : List Str) (mg mb : Str → Option Value) : AttrOk (Wd04 w l mg mb) 114 (Str.ofString "clauses") := ⟨by rfl, by rfl, _, by rfl, by rfl⟩
theorem at_Clauses_gates (w : World) (l : List Str) (mg mb : Str → Option Value) : AttrOk (Wd04 w l mg mb) 114 (Str.ofString "gates") := ⟨by rfl, by rfl, _, by rfl, by rfl⟩
theorem at_Clauses_numbers (w : World) (l : List Str) (mg mb : Str → Option Value) : AttrOk (Wd04 w l mg mb) 114 (Str.ofString "numbers") := ⟨by rfl, by rfl, _, by rfl, by rfl⟩
theorem so_Clauses_circuit (w : World) (l : List Str) (mg mb : Str → Option Value) : SetOk (Wd04 w l mg mb) 114 (Str.ofString "circuit") := ⟨by rfl, by rfl, by rfl, by rfl⟩
theorem so_Clauses_whole (w : World) (l : List Str) (mg mb : Str → Option Value) : SetOk (Wd04 w l mg mb) 114 (Str.ofString "whole") := ⟨by rfl, by rfl, by rfl, by rfl⟩
theorem so_Clauses_clauses (w : World) (l : List Str) (mg mb : Str → Option Value) : SetOk (Wd04 w l mg mb) 114 (Str.ofString "clauses") := ⟨by rfl, by rfl, by rfl, by rfl⟩
theorem so_Clauses_gates (w : World) (l : List Str) (mg mb : Str → Option Value) : SetOk (Wd04 w l mg mb) 114 (Str.ofString "gates") := ⟨by rfl, by rfl, by rfl, by rfl⟩
theorem so_Clauses_numbers (w : World) (l : List Str) (mg mb : Str → Option Value) : SetOk (Wd04 w l mg mb) 114 (Str.ofString "numbers") := ⟨by rfl, by rfl, by rfl, by rfl⟩
theorem so_Clauses_opened (w : World) (l : List Str) (mg mb : Str → Option Value) : SetOk (Wd04 w l mg mb) 114 (Str.ofString "opened") := ⟨by rfl, by rfl, by rfl, by rfl⟩
theorem so_Clauses_waiting (w : World) (l : List Str) (mg mb : Str → Option Value) : SetOk (Wd04 w l mg mb) 114 (Str.ofString "waiting") := ⟨by rfl, by rfl, by rfl, by rfl⟩
theorem pg_Circuit_size (p : Params) : plainGet (hd04.heap_1 p) 224 (Str.ofString "size") = true := by rfl
theorem mf_Circuit_size (p : Params) : findIn (hd04.heap_1 p) (.ref 224) (Str.ofString "size") = some (some (.ref 139)) := by rfl
theorem fn_139 (p : Params) : isFn (hd04.heap_1 p) (.ref 139) = true := by rfl
theorem kp_139 (p : Params) : keepIn (hd04.heap_1 p) (.ref 139) = true := by rfl
theorem g_range (p : Params) : nsIn (hd04.heap_1 p) mainGlobals (Str.ofString "range") = some none := by rfl
theorem pg_Circuit_kind (p : Params) : plainGet (hd04.heap_1 p) 224 (Str.ofString "kind") = true := by rfl
theorem mf_Circuit_kind (p : Params) : findIn (hd04.heap_1 p) (.ref 224) (Str.ofString "kind") = some (some (.ref 146)) := by rfl
theorem fn_146 (p : Params) : isFn (hd04.heap_1 p) (.ref 146) = true := by rfl
theorem kp_146 (p : Params) : keepIn (hd04.heap_1 p) (.ref 146) = true := by rfl
theorem pg_Clauses_number_of (p : Params) : plainGet (hd04.heap_1 p) 114 (Str.ofString "number_of") = true := by rfl
theorem mf_Clauses_number_of (p : Params) : findIn (hd04.heap_1 p) (.ref 114) (Str.ofString "number_of") = some (some (.ref 64)) := by rfl
theorem fn_64 (p : Params) : isFn (hd04.heap_1 p) (.ref 64) = true := by rfl
theorem kp_64 (p : Params) : keepIn (hd04.heap_1 p) (.ref 64) = true := by rfl
theorem at_Clauses_whole (w : World) (l : List Str) (mg mb : Str → Option Value) : AttrOk (Wd04 w l mg mb) 114 (Str.ofString "whole") := ⟨by rfl, by rfl, _, by rfl, by rfl⟩
theorem at_Clauses_opened (w : World) (l : List Str) (mg mb : Str → Option Value) : AttrOk (Wd04 w l mg mb) 114 (Str.ofString "opened") := ⟨by rfl, by rfl, _, by rfl, by rfl⟩
theorem at_Clauses_waiting (w : World) (l : List Str) (mg mb : Str → Option Value) : AttrOk (Wd04 w l mg mb) 114 (Str.ofString "waiting") := ⟨by rfl, by rfl, _, by rfl, by rfl⟩
theorem at_Clauses_circuit (w : World) (l : List Str) (mg mb : Str → Option Value) : AttrOk (Wd04 w l mg mb) 114 (Str.ofString "circuit") := ⟨by rfl, by rfl, _, by rfl, by rfl⟩
theorem pg_Clauses_tell (p : Params) : plainGet (hd04.heap_1 p) 114 (Str.ofString "tell") = true := by rfl
theorem mf_Clauses_tell (p : Params) : findIn (hd04.heap_1 p) (.ref 114) (Str.ofString "tell") = some (some (.ref 85)) := by rfl
theorem fn_85 (p : Params) : isFn (hd04.heap_1 p) (.ref 85) = true := by rfl
theorem kp_85 (p : Params) : keepIn (hd04.heap_1 p) (.ref 85) = true := by rfl
theorem pg_Circuit_parts (p : Params) : plainGet (hd04.heap_1 p) 224 (Str.ofString "parts") = true := by rfl
theorem mf_Circuit_parts (p : Params) : findIn (hd04.heap_1 p) (.ref 224) (Str.ofString "parts") = some (some (.ref 153)) := by rfl
theorem fn_153 (p : Params) : isFn (hd04.heap_1 p) (.ref 153) = true := by rfl
theorem kp_153 (p : Params) : keepIn (hd04.heap_1 p) (.ref 153) = true := by rfl
theorem pg_Clauses_enter (p : Params) : plainGet (hd04.heap_1 p) 114 (Str.ofString "enter") = true := by rfl
theorem mf_Clauses_enter (p : Params) : findIn (hd04.heap_1 p) (.ref 114) (Str.ofString "enter") = some (some (.ref 78)) := by rfl
theorem fn_78 (p : Params) : isFn (hd04.heap_1 p) (.ref 78) = true := by rfl
theorem kp_78 (p : Params) : keepIn (hd04.heap_1 p) (.ref 78) = true := by rfl
theorem pg_Clauses_open_gate (p : Params) : plainGet (hd04.heap_1 p) 114 (Str.ofString "open_gate") = true := by rfl
theorem mf_Clauses_open_gate (p : Params) : findIn (hd04.heap_1 p) (.ref 114) (Str.ofString "open_gate") = some (some (.ref 90)) := by rfl
theorem fn_90 (p : Params) : isFn (hd04.heap_1 p) (.ref 90) = true := by rfl
theorem kp_90 (p : Params) : keepIn (hd04.heap_1 p) (.ref 90) = true := by rfl
theorem pg_Clauses_flush (p : Params) : plainGet (hd04.heap_1 p) 114 (Str.ofString "flush") = true := by rfl
theorem mf_Clauses_flush (p : Params) : findIn (hd04.heap_1 p) (.ref 114) (Str.ofString "flush") = some (some (.ref 97)) := by rfl
theorem fn_97 (p : Params) : isFn (hd04.heap_1 p) (.ref 97) = true := by rfl
theorem kp_97 (p : Params) : keepIn (hd04.heap_1 p) (.ref 97) = true := by rfl
theorem kp_235 (p : Params) : keepIn (hd04.heap_1 p) (.ref 235) = true := by rfl
theorem g__law_draw (p : Params) : nsIn (hd04.heap_1 p) mainGlobals (Str.ofString "_law_draw") = some (some (.ref 235)) := by rfl
theorem kp_240 (p : Params) : keepIn (hd04.heap_1 p) (.ref 240) = true := by rfl
theorem g__law_due (p : Params) : nsIn (hd04.heap_1 p) mainGlobals (Str.ofString "_law_due") = some (some (.ref 240)) := by rfl
theorem pg_Circuit_iff (p : Params) : plainGet (hd04.heap_1 p) 224 (Str.ofString "iff") = true := by rfl
theorem mf_Circuit_iff (p : Params) : findIn (hd04.heap_1 p) (.ref 224) (Str.ofString "iff") = some (some (.ref 207)) := by rfl
theorem fn_207 (p : Params) : isFn (hd04.heap_1 p) (.ref 207) = true := by rfl
theorem kp_207 (p : Params) : keepIn (hd04.heap_1 p) (.ref 207) = true := by rfl
theorem pg_Circuit_any_of (p : Params) : plainGet (hd04.heap_1 p) 224 (Str.ofString "any_of") = true := by rfl
theorem mf_Circuit_any_of (p : Params) : findIn (hd04.heap_1 p) (.ref 224) (Str.ofString "any_of") = some (some (.ref 179)) := by rfl
theorem fn_179 (p : Params) : isFn (hd04.heap_1 p) (.ref 179) = true := by rfl
theorem kp_179 (p : Params) : keepIn (hd04.heap_1 p) (.ref 179) = true := by rfl
theorem g_dict (p : Params) : nsIn (hd04.heap_1 p) mainGlobals (Str.ofString "dict") = some none := by rfl
theorem g_list (p : Params) : nsIn (hd04.heap_1 p) mainGlobals (Str.ofString "list") = some none := by rfl
theorem kp_224 (p : Params) : keepIn (hd04.heap_1 p) (.ref 224) = true := by rfl
theorem mk_224 (p : Params) : makesIn (hd04.heap_1 p) 224 = true := by rfl
theorem mf_Circuit_init (p : Params) : findIn (hd04.heap_1 p) (.ref 224) (Str.ofString "__init__") = some (some (.ref 132)) := by rfl
theorem ty_132 (p : Params) : typeIn (hd04.heap_1 p) (.ref 132) = some (.type "function") := by rfl
theorem g_Circuit (p : Params) : nsIn (hd04.heap_1 p) mainGlobals (Str.ofString "Circuit") = some (some (.ref 224)) := by rfl
theorem kp_247 (p : Params) : keepIn (hd04.heap_1 p) (.ref 247) = true := by rfl
theorem g__law_is_plain_right (p : Params) : nsIn (hd04.heap_1 p) mainGlobals (Str.ofString "_law_is_plain_right") = some (some (.ref 247)) := by rfl
theorem pg_Circuit_new_input (p : Params) : plainGet (hd04.heap_1 p) 224 (Str.ofString "new_input") = true := by rfl
theorem mf_Circuit_new_input (p : Params) : findIn (hd04.heap_1 p) (.ref 224) (Str.ofString "new_input") = some (some (.ref 167)) := by rfl
theorem fn_167 (p : Params) : isFn (hd04.heap_1 p) (.ref 167) = true := by rfl
theorem kp_167 (p : Params) : keepIn (hd04.heap_1 p) (.ref 167) = true := by rfl
theorem kp_254 (p : Params) : keepIn (hd04.heap_1 p) (.ref 254) = true := by rfl
theorem g__law_gate (p : Params) : nsIn (hd04.heap_1 p) mainGlobals (Str.ofString "_law_gate") = some (some (.ref 254)) := by rfl
theorem kp_114 (p : Params) : keepIn (hd04.heap_1 p) (.ref 114) = true := by rfl
theorem mk_114 (p : Params) : makesIn (hd04.heap_1 p) 114 = true := by rfl
theorem mf_Clauses_init (p : Params) : findIn (hd04.heap_1 p) (.ref 114) (Str.ofString "__init__") = some (some (.ref 50)) := by rfl
theorem ty_50 (p : Params) : typeIn (hd04.heap_1 p) (.ref 50) = some (.type "function") := by rfl
theorem g_Clauses (p : Params) : nsIn (hd04.heap_1 p) mainGlobals (Str.ofString "Clauses") = some (some (.ref 114)) := by rfl
theorem pg_Clauses_literal_of (p : Params) : plainGet (hd04.heap_1 p) 114 (Str.ofString "literal_of") = true := by rfl
theorem mf_Clauses_literal_of (p : Params) : findIn (hd04.heap_1 p) (.ref 114) (Str.ofString "literal_of") = some (some (.ref 104)) := by rfl
theorem fn_104 (p : Params) : isFn (hd04.heap_1 p) (.ref 104) = true := by rfl
theorem kp_104 (p : Params) : keepIn (hd04.heap_1 p) (.ref 104) = true := by rfl
theorem pg_Clauses_many (p : Params) : plainGet (hd04.heap_1 p) 114 (Str.ofString "many") = true := by rfl
theorem mf_Clauses_many (p : Params) : findIn (hd04.heap_1 p) (.ref 114) (Str.ofString "many") = some (some (.ref 57)) := by rfl
theorem fn_57 (p : Params) : isFn (hd04.heap_1 p) (.ref 57) = true := by rfl
theorem kp_57 (p : Params) : keepIn (hd04.heap_1 p) (.ref 57) = true := by rfl
theorem kp_264 (p : Params) : keepIn (hd04.heap_1 p) (.ref 264) = true := by rfl
theorem g__law_taken_out (p : Params) : nsIn (hd04.heap_1 p) mainGlobals (Str.ofString "_law_taken_out") = some (some (.ref 264)) := by rfl
theorem kp_259 (p : Params) : keepIn (hd04.heap_1 p) (.ref 259) = true := by rfl
theorem g__law_can_hold (p : Params) : nsIn (hd04.heap_1 p) mainGlobals (Str.ofString "_law_can_hold") = some (some (.ref 259)) := by rfl
theorem f_place_of (w : World) (l : List Str) (mg mb : Str → Option Value) : FnSim (Wd04 w l mg mb) (.ref 35) 620 (3 + 1) (runF 620 1 m_place_of) := by
  refine FnSim_def (W := Wd04 w l mg mb) (T := 640) (ho := by rfl) (hcd := by rfl) (hok := by rfl) (hbind := (fun s xs hl hk => bind1 hl (fun a => by rfl))) (hbody := ?_)
  intro A L mid
  exact (Sim_cons (Sim_Return (Sim_Tuple (Sim_argsCons (Sim_CallName (Sim_Builtin (g_abs _) (by decide +kernel) (by decide) (by rfl)) CallOk.builtin (Sim_argsCons (Sim_Name (Sim_loadLocal (by rfl) (by rfl))) Sim_argsNil) (TreesOk.cons TreesOk.nil) bAbs_C) (Sim_argsCons (Sim_Name (Sim_loadLocal (by rfl) (by rfl))) Sim_argsNil))))
  Sim_nil)
theorem f_clause_of (w : World) (l : List Str) (mg mb : Str → Option Value) : FnSim (Wd04 w l mg mb) (.ref 28) 600 (6 + 1) (runF 600 1 m_clause_of) := by
  refine FnSim_def (W := Wd04 w l mg mb) (T := 620) (ho := by rfl) (hcd := by rfl) (hok := by rfl) (hbind := (fun s xs hl hk => bind1 hl (fun a => by rfl))) (hbody := ?_)
  intro A L mid
  exact (Sim_cons (Sim_Assign (Sim_DictE 600 _ emptyI (Nat.le_of_ble_eq_true rfl) (.inr (Nat.le_of_ble_eq_true rfl))) (Sim_storeLocal (by rfl) (by rfl)))
  (Sim_cons (Sim_For (Sim_Name (Sim_loadLocal (by rfl) (by rfl))) (SimA.name (Sim_storeLocal (by rfl) (by rfl))) (Sim_cons (Sim_If (Sim_testCompare (Sim_UnaryOp (Sim_Name (Sim_loadLocal (by rfl) (by rfl))) vNeg_K) (Sim_Name (Sim_loadLocal (by rfl) (by rfl))) vIn_K) (Sim_cons (Sim_Return Sim_Const_none)
  Sim_nil) Sim_nil)
  (Sim_cons (Sim_AssignSub Sim_Const_bool (Sim_Name (Sim_loadLocal (by rfl) (by rfl))) (Sim_Name (Sim_loadLocal (by rfl) (by rfl))))
  Sim_nil)))
  (Sim_cons (Sim_Return (Sim_CallName (Sim_Builtin (g_tuple _) (by decide +kernel) (by decide) (by rfl)) CallOk.type (Sim_argsCons (Sim_CallSortedK (Sim_Builtin (g_sorted _) (by decide +kernel) (by decide) (by rfl)) (Sim_Name (Sim_loadLocal (by rfl) (by rfl))) (Sim_Global (g_place_of _) (by rfl)) trivial (f_place_of _ _ _ _) (Nat.le_of_ble_eq_true rfl) (Nat.le_of_ble_eq_true rfl)) Sim_argsNil) (TreesOk.cons TreesOk.nil) bTuple_C))
  Sim_nil)))
theorem f__law_draw (w : World) (l : List Str) (mg mb : Str → Option Value) : FnSim (Wd04 w l mg mb) (.ref 235) 580 (3 + 1) (runF 580 2 m__law_draw) := by
  refine FnSim_def (W := Wd04 w l mg mb) (T := 600) (ho := by rfl) (hcd := by rfl) (hok := by rfl) (hbind := (fun s xs hl hk => bind2 hl (fun a b => by rfl))) (hbody := ?_)
  intro A L mid
  exact (Sim_cons (Sim_Assign (Sim_Subscript (Sim_Name (Sim_loadLocal (by rfl) (by rfl))) Sim_Const_str) (Sim_storeLocal (by rfl) (by rfl)))
  (Sim_cons (Sim_AssignSub (Sim_BinOp (Sim_Name (Sim_loadLocal (by rfl) (by rfl))) Sim_Const_int (vAdd_K trivial)) (Sim_Name (Sim_loadLocal (by rfl) (by rfl))) Sim_Const_str)
  (Sim_cons (Sim_If (Sim_testCompare (Sim_Name (Sim_loadLocal (by rfl) (by rfl))) (Sim_CallName (Sim_Builtin (g_len _) (by decide +kernel) (by decide) (by rfl)) CallOk.builtin (Sim_argsCons (Sim_Subscript (Sim_Name (Sim_loadLocal (by rfl) (by rfl))) Sim_Const_str) Sim_argsNil) (TreesOk.cons TreesOk.nil) bLen_C) vLt_K) (Sim_cons (Sim_Return (Sim_BinOp (Sim_Subscript (Sim_Subscript (Sim_Name (Sim_loadLocal (by rfl) (by rfl))) Sim_Const_str) (Sim_Name (Sim_loadLocal (by rfl) (by rfl)))) (Sim_Name (Sim_loadLocal (by rfl) (by rfl))) vMod_K))
  Sim_nil) Sim_nil)
  (Sim_cons (Sim_Return (Sim_BinOp (Sim_BinOp (Sim_BinOp (Sim_BinOp (Sim_BinOp (Sim_BinOp Sim_Const_int (Sim_Name (Sim_loadLocal (by rfl) (by rfl))) vMul_K) (Sim_Name (Sim_loadLocal (by rfl) (by rfl))) vMul_K) (Sim_BinOp Sim_Const_int (Sim_Name (Sim_loadLocal (by rfl) (by rfl))) vMul_K) (vAdd_K trivial)) Sim_Const_int (vAdd_K trivial)) Sim_Const_int vMod_K) (Sim_Name (Sim_loadLocal (by rfl) (by rfl))) vMod_K))
  Sim_nil))))
theorem f_Circuit_init__ (w : World) (l : List Str) (mg mb : Str → Option Value) : FnSim (Wd04 w l mg mb) (.ref 132) 560 (3 + 1) (runF 560 1 m_Circuit_init__) := by
  refine FnSim_def (W := Wd04 w l mg mb) (T := 580) (ho := by rfl) (hcd := by rfl) (hok := by rfl) (hbind := (fun s xs hl hk => bind1 hl (fun a => by rfl))) (hbody := ?_)
  intro A L mid
  exact (Sim_cons (Sim_AssignAttr (so_Circuit_kinds _ _ _ _) (Sim_List (some 3) (Sim_argsCons Sim_Const_str (Sim_argsCons Sim_Const_str Sim_argsNil)) ⟨(Nat.le_of_ble_eq_true rfl), .inl (Nat.le_of_ble_eq_true rfl)⟩) (Sim_Name (Sim_loadLocal (by rfl) (by rfl))))
  (Sim_cons (Sim_AssignAttr (so_Circuit_parts_now _ _ _ _) (Sim_List (some 4) (Sim_argsCons (Sim_Tuple Sim_argsNil) (Sim_argsCons (Sim_Tuple Sim_argsNil) Sim_argsNil)) ⟨(Nat.le_of_ble_eq_true rfl), .inl (Nat.le_of_ble_eq_true rfl)⟩) (Sim_Name (Sim_loadLocal (by rfl) (by rfl))))
  (Sim_cons (Sim_AssignAttr (so_Circuit_known _ _ _ _) (Sim_DictE 5 _ emptyT (Nat.le_of_ble_eq_true rfl) (.inl (Nat.le_of_ble_eq_true rfl))) (Sim_Name (Sim_loadLocal (by rfl) (by rfl))))
  Sim_nil)))
theorem f_Circuit_size (w : World) (l : List Str) (mg mb : Str → Option Value) : FnSim (Wd04 w l mg mb) (.ref 139) 540 (3 + 1) (runF 540 1 m_Circuit_size) := by
  refine FnSim_def (W := Wd04 w l mg mb) (T := 560) (ho := by rfl) (hcd := by rfl) (hok := by rfl) (hbind := (fun s xs hl hk => bind1 hl (fun a => by rfl))) (hbody := ?_)
  intro A L mid
  exact (Sim_cons (Sim_Return (Sim_BinOp (Sim_CallName (Sim_Builtin (g_len _) (by decide +kernel) (by decide) (by rfl)) CallOk.builtin (Sim_argsCons (Sim_Attr (at_Circuit_kinds _ _ _ _) (Sim_Name (Sim_loadLocal (by rfl) (by rfl)))) Sim_argsNil) (TreesOk.cons TreesOk.nil) bLen_C) Sim_Const_int vSub_K))
  Sim_nil)
theorem f_Circuit_kind (w : World) (l : List Str) (mg mb : Str → Option Value) : FnSim (Wd04 w l mg mb) (.ref 146) 520 (3 + 1) (runF 520 2 m_Circuit_kind) := by
  refine FnSim_def (W := Wd04 w l mg mb) (T := 540) (ho := by rfl) (hcd := by rfl) (hok := by rfl) (hbind := (fun s xs hl hk => bind2 hl (fun a b => by rfl))) (hbody := ?_)
  intro A L mid
  exact (Sim_cons (Sim_Return (Sim_Subscript (Sim_Attr (at_Circuit_kinds _ _ _ _) (Sim_Name (Sim_loadLocal (by rfl) (by rfl)))) (Sim_CallName (Sim_Builtin (g_abs _) (by decide +kernel) (by decide) (by rfl)) CallOk.builtin (Sim_argsCons (Sim_Name (Sim_loadLocal (by rfl) (by rfl))) Sim_argsNil) (TreesOk.cons TreesOk.nil) bAbs_C)))
  Sim_nil)
theorem f_Circuit_parts (w : World) (l : List Str) (mg mb : Str → Option Value) : FnSim (Wd04 w l mg mb) (.ref 153) 500 (3 + 1) (runF 500 2 m_Circuit_parts) := by
  refine FnSim_def (W := Wd04 w l mg mb) (T := 520) (ho := by rfl) (hcd := by rfl) (hok := by rfl) (hbind := (fun s xs hl hk => bind2 hl (fun a b => by rfl))) (hbody := ?_)
  intro A L mid
  exact (Sim_cons (Sim_Return (Sim_Subscript (Sim_Attr (at_Circuit_parts_now _ _ _ _) (Sim_Name (Sim_loadLocal (by rfl) (by rfl)))) (Sim_CallName (Sim_Builtin (g_abs _) (by decide +kernel) (by decide) (by rfl)) CallOk.builtin (Sim_argsCons (Sim_Name (Sim_loadLocal (by rfl) (by rfl))) Sim_argsNil) (TreesOk.cons TreesOk.nil) bAbs_C)))
  Sim_nil)
theorem f_Circuit_new_gate (w : World) (l : List Str) (mg mb : Str → Option Value) : FnSim (Wd04 w l mg mb) (.ref 160) 480 (3 + 1) (runF 480 3 m_Circuit_new_gate) := by
  refine FnSim_def (W := Wd04 w l mg mb) (T := 500) (ho := by rfl) (hcd := by rfl) (hok := by rfl) (hbind := (fun s xs hl hk => bind3 hl (fun a b c => by rfl))) (hbody := ?_)
  intro A L mid
  exact (Sim_cons (Sim_Expr (Sim_CallMeth _ (Sim_Attr (at_Circuit_kinds _ _ _ _) (Sim_Name (Sim_loadLocal (by rfl) (by rfl)))) (Sim_argsCons (Sim_Name (Sim_loadLocal (by rfl) (by rfl))) Sim_argsNil) (TreesOk.cons TreesOk.nil) (MethAt.list PySem.F.slot_list_append PySem.F.type_list_append) CallOk.builtin mApp_C))
  (Sim_cons (Sim_Expr (Sim_CallMeth _ (Sim_Attr (at_Circuit_parts_now _ _ _ _) (Sim_Name (Sim_loadLocal (by rfl) (by rfl)))) (Sim_argsCons (Sim_Name (Sim_loadLocal (by rfl) (by rfl))) Sim_argsNil) (TreesOk.cons TreesOk.nil) (MethAt.list PySem.F.slot_list_append PySem.F.type_list_append) CallOk.builtin mApp_C))
  (Sim_cons (Sim_Return (Sim_BinOp (Sim_CallName (Sim_Builtin (g_len _) (by decide +kernel) (by decide) (by rfl)) CallOk.builtin (Sim_argsCons (Sim_Attr (at_Circuit_kinds _ _ _ _) (Sim_Name (Sim_loadLocal (by rfl) (by rfl)))) Sim_argsNil) (TreesOk.cons TreesOk.nil) bLen_C) Sim_Const_int vSub_K))
  Sim_nil)))
theorem f_Circuit_new_input (w : World) (l : List Str) (mg mb : Str → Option Value) : FnSim (Wd04 w l mg mb) (.ref 167) 460 (6 + 1) (runF 460 1 m_Circuit_new_input) := by
  refine FnSim_def (W := Wd04 w l mg mb) (T := 480) (ho := by rfl) (hcd := by rfl) (hok := by rfl) (hbind := (fun s xs hl hk => bind1 hl (fun a => by rfl))) (hbody := ?_)
  intro A L mid
  exact (Sim_cons (Sim_Return (Sim_CallMeth _ (Sim_Name (Sim_loadLocal (by rfl) (by rfl))) (Sim_argsCons Sim_Const_str (Sim_argsCons (Sim_Tuple Sim_argsNil) Sim_argsNil)) (TreesOk.cons (TreesOk.cons TreesOk.nil)) (MethAt.inst (pg_Circuit_new_gate _) (mf_Circuit_new_gate _) (fn_160 _)) (CallOk.K (kp_160 _)) (SimC_fn (f_Circuit_new_gate _ _ _ _) (Nat.le_of_ble_eq_true rfl) (Nat.le_of_ble_eq_true rfl))))
  Sim_nil)
theorem f_Circuit_all_of (w : World) (l : List Str) (mg mb : Str → Option Value) : FnSim (Wd04 w l mg mb) (.ref 174) 440 (6 + 1) (runF 440 2 m_Circuit_all_of) := by
  refine FnSim_def (W := Wd04 w l mg mb) (T := 460) (ho := by rfl) (hcd := by rfl) (hok := by rfl) (hbind := (fun s xs hl hk => bind2 hl (fun a b => by rfl))) (hbody := ?_)
  intro A L mid
  exact (Sim_cons (Sim_Assign (Sim_DictE 440 _ emptyI (Nat.le_of_ble_eq_true rfl) (.inr (Nat.le_of_ble_eq_true rfl))) (Sim_storeLocal (by rfl) (by rfl)))
  (Sim_cons (Sim_For (Sim_Name (Sim_loadLocal (by rfl) (by rfl))) (SimA.name (Sim_storeLocal (by rfl) (by rfl))) (Sim_cons (Sim_If (Sim_testBool (Sim_orCons (Sim_testCompare (Sim_Name (Sim_loadLocal (by rfl) (by rfl))) (Sim_UnaryOp Sim_Const_int vNeg_K) vEq_K) (Sim_orCons (Sim_testCompare (Sim_UnaryOp (Sim_Name (Sim_loadLocal (by rfl) (by rfl))) vNeg_K) (Sim_Name (Sim_loadLocal (by rfl) (by rfl))) vIn_K) Sim_orNil))) (Sim_cons (Sim_Return (Sim_UnaryOp Sim_Const_int vNeg_K))
  Sim_nil) Sim_nil)
  (Sim_cons (Sim_If (Sim_testCompare (Sim_Name (Sim_loadLocal (by rfl) (by rfl))) Sim_Const_int vNe_K) (Sim_cons (Sim_AssignSub Sim_Const_bool (Sim_Name (Sim_loadLocal (by rfl) (by rfl))) (Sim_Name (Sim_loadLocal (by rfl) (by rfl))))
  Sim_nil) Sim_nil)
  Sim_nil)))
  (Sim_cons (Sim_Assign (Sim_CallName (Sim_Builtin (g_tuple _) (by decide +kernel) (by decide) (by rfl)) CallOk.type (Sim_argsCons (Sim_CallName (Sim_Builtin (g_sorted _) (by decide +kernel) (by decide) (by rfl)) CallOk.builtin (Sim_argsCons (Sim_Name (Sim_loadLocal (by rfl) (by rfl))) Sim_argsNil) (TreesOk.cons TreesOk.nil) (bSorted_C trivial)) Sim_argsNil) (TreesOk.cons TreesOk.nil) bTuple_C) (Sim_storeLocal (by rfl) (by rfl)))
  (Sim_cons (Sim_If (Sim_testCompare (Sim_CallName (Sim_Builtin (g_len _) (by decide +kernel) (by decide) (by rfl)) CallOk.builtin (Sim_argsCons (Sim_Name (Sim_loadLocal (by rfl) (by rfl))) Sim_argsNil) (TreesOk.cons TreesOk.nil) bLen_C) Sim_Const_int vLt_K) (Sim_cons (Sim_Return (Sim_IfExp (Sim_testCompare (Sim_CallName (Sim_Builtin (g_len _) (by decide +kernel) (by decide) (by rfl)) CallOk.builtin (Sim_argsCons (Sim_Name (Sim_loadLocal (by rfl) (by rfl))) Sim_argsNil) (TreesOk.cons TreesOk.nil) bLen_C) Sim_Const_int vEq_K) (Sim_Subscript (Sim_Name (Sim_loadLocal (by rfl) (by rfl))) Sim_Const_int) Sim_Const_int))
  Sim_nil) Sim_nil)
  (Sim_cons (Sim_If (Sim_testCompare (Sim_Name (Sim_loadLocal (by rfl) (by rfl))) (Sim_Attr (at_Circuit_known _ _ _ _) (Sim_Name (Sim_loadLocal (by rfl) (by rfl)))) vNotIn_K) (Sim_cons (Sim_AssignSub (Sim_CallMeth _ (Sim_Name (Sim_loadLocal (by rfl) (by rfl))) (Sim_argsCons Sim_Const_str (Sim_argsCons (Sim_Name (Sim_loadLocal (by rfl) (by rfl))) Sim_argsNil)) (TreesOk.cons (TreesOk.cons TreesOk.nil)) (MethAt.inst (pg_Circuit_new_gate _) (mf_Circuit_new_gate _) (fn_160 _)) (CallOk.K (kp_160 _)) (SimC_fn (f_Circuit_new_gate _ _ _ _) (Nat.le_of_ble_eq_true rfl) (Nat.le_of_ble_eq_true rfl))) (Sim_Attr (at_Circuit_known _ _ _ _) (Sim_Name (Sim_loadLocal (by rfl) (by rfl)))) (Sim_Name (Sim_loadLocal (by rfl) (by rfl))))
  Sim_nil) Sim_nil)
  (Sim_cons (Sim_Return (Sim_Subscript (Sim_Attr (at_Circuit_known _ _ _ _) (Sim_Name (Sim_loadLocal (by rfl) (by rfl)))) (Sim_Name (Sim_loadLocal (by rfl) (by rfl)))))
  Sim_nil))))))
theorem f_Circuit_any_of (w : World) (l : List Str) (mg mb : Str → Option Value) : FnSim (Wd04 w l mg mb) (.ref 179) 420 (9 + 1) (runF 420 2 m_Circuit_any_of) := by
  refine FnSim_def (W := Wd04 w l mg mb) (T := 440) (ho := by rfl) (hcd := by rfl) (hok := by rfl) (hbind := (fun s xs hl hk => bind2 hl (fun a b => by rfl))) (hbody := ?_)
  intro A L mid
  exact (Sim_cons (Sim_Return (Sim_UnaryOp (Sim_CallMeth _ (Sim_Name (Sim_loadLocal (by rfl) (by rfl))) (Sim_argsCons (Sim_Comp none trivial (Sim_Name (Sim_loadLocal (by rfl) (by rfl))) (by rfl) (by rfl) (fun _ => SimT.nil) (fun _ => (Sim_UnaryOp (Sim_Name (Sim_loadLocal (by rfl) (by rfl))) vNeg_K))) Sim_argsNil) (TreesOk.cons TreesOk.nil) (MethAt.inst (pg_Circuit_all_of _) (mf_Circuit_all_of _) (fn_174 _)) (CallOk.K (kp_174 _)) (SimC_fn (f_Circuit_all_of _ _ _ _) (Nat.le_of_ble_eq_true rfl) (Nat.le_of_ble_eq_true rfl))) vNeg_K))
  Sim_nil)
theorem f_Circuit_implies (w : World) (l : List Str) (mg mb : Str → Option Value) : FnSim (Wd04 w l mg mb) (.ref 200) 400 (9 + 1) (runF 400 3 m_Circuit_implies) := by
  refine FnSim_def (W := Wd04 w l mg mb) (T := 420) (ho := by rfl) (hcd := by rfl) (hok := by rfl) (hbind := (fun s xs hl hk => bind3 hl (fun a b c => by rfl))) (hbody := ?_)
  intro A L mid
  exact (Sim_cons (Sim_Return (Sim_UnaryOp (Sim_CallMeth _ (Sim_Name (Sim_loadLocal (by rfl) (by rfl))) (Sim_argsCons (Sim_Tuple (Sim_argsCons (Sim_Name (Sim_loadLocal (by rfl) (by rfl))) (Sim_argsCons (Sim_UnaryOp (Sim_Name (Sim_loadLocal (by rfl) (by rfl))) vNeg_K) Sim_argsNil))) Sim_argsNil) (TreesOk.cons TreesOk.nil) (MethAt.inst (pg_Circuit_all_of _) (mf_Circuit_all_of _) (fn_174 _)) (CallOk.K (kp_174 _)) (SimC_fn (f_Circuit_all_of _ _ _ _) (Nat.le_of_ble_eq_true rfl) (Nat.le_of_ble_eq_true rfl))) vNeg_K))
  Sim_nil)
theorem f_Circuit_iff (w : World) (l : List Str) (mg mb : Str → Option Value) : FnSim (Wd04 w l mg mb) (.ref 207) 380 (12 + 1) (runF 380 3 m_Circuit_iff) := by
  refine FnSim_def (W := Wd04 w l mg mb) (T := 400) (ho := by rfl) (hcd := by rfl) (hok := by rfl) (hbind := (fun s xs hl hk => bind3 hl (fun a b c => by rfl))) (hbody := ?_)
  intro A L mid
  exact (Sim_cons (Sim_Return (Sim_CallMeth _ (Sim_Name (Sim_loadLocal (by rfl) (by rfl))) (Sim_argsCons (Sim_Tuple (Sim_argsCons (Sim_CallMeth _ (Sim_Name (Sim_loadLocal (by rfl) (by rfl))) (Sim_argsCons (Sim_Name (Sim_loadLocal (by rfl) (by rfl))) (Sim_argsCons (Sim_Name (Sim_loadLocal (by rfl) (by rfl))) Sim_argsNil)) (TreesOk.cons (TreesOk.cons TreesOk.nil)) (MethAt.inst (pg_Circuit_implies _) (mf_Circuit_implies _) (fn_200 _)) (CallOk.K (kp_200 _)) (SimC_fn (f_Circuit_implies _ _ _ _) (Nat.le_of_ble_eq_true rfl) (Nat.le_of_ble_eq_true rfl))) (Sim_argsCons (Sim_CallMeth _ (Sim_Name (Sim_loadLocal (by rfl) (by rfl))) (Sim_argsCons (Sim_Name (Sim_loadLocal (by rfl) (by rfl))) (Sim_argsCons (Sim_Name (Sim_loadLocal (by rfl) (by rfl))) Sim_argsNil)) (TreesOk.cons (TreesOk.cons TreesOk.nil)) (MethAt.inst (pg_Circuit_implies _) (mf_Circuit_implies _) (fn_200 _)) (CallOk.K (kp_200 _)) (SimC_fn (f_Circuit_implies _ _ _ _) (Nat.le_of_ble_eq_true rfl) (Nat.le_of_ble_eq_true rfl))) Sim_argsNil))) Sim_argsNil) (TreesOk.cons TreesOk.nil) (MethAt.inst (pg_Circuit_all_of _) (mf_Circuit_all_of _) (fn_174 _)) (CallOk.K (kp_174 _)) (SimC_fn (f_Circuit_all_of _ _ _ _) (Nat.le_of_ble_eq_true rfl) (Nat.le_of_ble_eq_true rfl))))
  Sim_nil)
theorem f__law_due (w : World) (l : List Str) (mg mb : Str → Option Value) : FnSim (Wd04 w l mg mb) (.ref 240) 360 (3 + 1) (runF 360 1 m__law_due) := by
  refine FnSim_def (W := Wd04 w l mg mb) (T := 380) (ho := by rfl) (hcd := by rfl) (hok := by rfl) (hbind := (fun s xs hl hk => bind1 hl (fun a => by rfl))) (hbody := ?_)
  intro A L mid
  exact (Sim_cons (Sim_Assign (Sim_List none Sim_argsNil trivial) (Sim_storeLocal (by rfl) (by rfl)))
  (Sim_cons (Sim_For (Sim_CallName (Sim_Builtin (g_sorted _) (by decide +kernel) (by decide) (by rfl)) CallOk.builtin (Sim_argsCons (Sim_Comp none trivial (Sim_Name (Sim_loadLocal (by rfl) (by rfl))) (by rfl) (by rfl) (fun _ => SimT.nil) (fun _ => (Sim_CallName (Sim_Builtin (g_abs _) (by decide +kernel) (by decide) (by rfl)) CallOk.builtin (Sim_argsCons (Sim_Name (Sim_loadLocal (by rfl) (by rfl))) Sim_argsNil) (TreesOk.cons TreesOk.nil) bAbs_C))) Sim_argsNil) (TreesOk.cons TreesOk.nil) (bSorted_C trivial)) (SimA.name (Sim_storeLocal (by rfl) (by rfl))) (Sim_cons (Sim_If (Sim_testBool (Sim_andCons (Sim_testCompare (Sim_Name (Sim_loadLocal (by rfl) (by rfl))) (Sim_Name (Sim_loadLocal (by rfl) (by rfl))) vIn_K) (Sim_andCons (Sim_testCompare (Sim_UnaryOp (Sim_Name (Sim_loadLocal (by rfl) (by rfl))) vNeg_K) (Sim_Name (Sim_loadLocal (by rfl) (by rfl))) vIn_K) Sim_andNil))) (Sim_cons (Sim_Return Sim_Const_none)
  Sim_nil) Sim_nil)
  (Sim_cons (Sim_Assign (Sim_IfExp (Sim_testCompare (Sim_Name (Sim_loadLocal (by rfl) (by rfl))) (Sim_Name (Sim_loadLocal (by rfl) (by rfl))) vIn_K) (Sim_Name (Sim_loadLocal (by rfl) (by rfl))) (Sim_UnaryOp (Sim_Name (Sim_loadLocal (by rfl) (by rfl))) vNeg_K)) (Sim_storeLocal (by rfl) (by rfl)))
  (Sim_cons (Sim_Assign (Sim_IfExp (Sim_testCompare (Sim_Name (Sim_loadLocal (by rfl) (by rfl))) (Sim_Name (Sim_loadLocal (by rfl) (by rfl))) vIn_K) (Sim_Name (Sim_loadLocal (by rfl) (by rfl))) (Sim_BinOp (Sim_Name (Sim_loadLocal (by rfl) (by rfl))) (Sim_List none (Sim_argsCons (Sim_Name (Sim_loadLocal (by rfl) (by rfl))) Sim_argsNil) trivial) (vAdd_K trivial))) (Sim_storeLocal (by rfl) (by rfl)))
  Sim_nil))))
  (Sim_cons (Sim_Return (Sim_CallName (Sim_Builtin (g_tuple _) (by decide +kernel) (by decide) (by rfl)) CallOk.type (Sim_argsCons (Sim_Name (Sim_loadLocal (by rfl) (by rfl))) Sim_argsNil) (TreesOk.cons TreesOk.nil) bTuple_C))
  Sim_nil)))
theorem f_Clauses_tell (w : World) (l : List Str) (mg mb : Str → Option Value) : FnSim (Wd04 w l mg mb) (.ref 85) 340 (9 + 1) (runF 340 2 m_Clauses_tell) := by
  refine FnSim_def (W := Wd04 w l mg mb) (T := 360) (ho := by rfl) (hcd := by rfl) (hok := by rfl) (hbind := (fun s xs hl hk => bind2 hl (fun a b => by rfl))) (hbody := ?_)
  intro A L mid
  exact (Sim_cons (Sim_Assign (Sim_CallName (Sim_Global (g_clause_of _) (by rfl)) (CallOk.K (kp_28 _)) (Sim_argsCons (Sim_Name (Sim_loadLocal (by rfl) (by rfl))) Sim_argsNil) (TreesOk.cons TreesOk.nil) (SimC_fn (f_clause_of _ _ _ _) (Nat.le_of_ble_eq_true rfl) (Nat.le_of_ble_eq_true rfl))) (Sim_storeLocal (by rfl) (by rfl)))
  (Sim_cons (Sim_If (Sim_testCompare (Sim_Name (Sim_loadLocal (by rfl) (by rfl))) Sim_Const_none vIsNot_K) (Sim_cons (Sim_Expr (Sim_CallMeth _ (Sim_Attr (at_Clauses_clauses _ _ _ _) (Sim_Name (Sim_loadLocal (by rfl) (by rfl)))) (Sim_argsCons (Sim_Name (Sim_loadLocal (by rfl) (by rfl))) Sim_argsNil) (TreesOk.cons TreesOk.nil) (MethAt.list PySem.F.slot_list_append PySem.F.type_list_append) CallOk.builtin mApp_C))
  Sim_nil) Sim_nil)
  Sim_nil))
theorem f_Clauses_many (w : World) (l : List Str) (mg mb : Str → Option Value) : FnSim (Wd04 w l mg mb) (.ref 57) 320 (3 + 1) (runF 320 1 m_Clauses_many) := by
  refine FnSim_def (W := Wd04 w l mg mb) (T := 340) (ho := by rfl) (hcd := by rfl) (hok := by rfl) (hbind := (fun s xs hl hk => bind1 hl (fun a => by rfl))) (hbody := ?_)
  intro A L mid
  exact (Sim_cons (Sim_Return (Sim_BinOp (Sim_CallName (Sim_Builtin (g_len _) (by decide +kernel) (by decide) (by rfl)) CallOk.builtin (Sim_argsCons (Sim_Attr (at_Clauses_gates _ _ _ _) (Sim_Name (Sim_loadLocal (by rfl) (by rfl)))) Sim_argsNil) (TreesOk.cons TreesOk.nil) bLen_C) Sim_Const_int vSub_K))
  Sim_nil)
theorem f_Clauses_number_of (w : World) (l : List Str) (mg mb : Str → Option Value) : FnSim (Wd04 w l mg mb) (.ref 64) 300 (3 + 1) (runF 300 2 m_Clauses_number_of) := by
  refine FnSim_def (W := Wd04 w l mg mb) (T := 320) (ho := by rfl) (hcd := by rfl) (hok := by rfl) (hbind := (fun s xs hl hk => bind2 hl (fun a b => by rfl))) (hbody := ?_)
  intro A L mid
  exact (Sim_cons (Sim_If (Sim_testCompare (Sim_Name (Sim_loadLocal (by rfl) (by rfl))) (Sim_Attr (at_Clauses_numbers _ _ _ _) (Sim_Name (Sim_loadLocal (by rfl) (by rfl)))) vNotIn_K) (Sim_cons (Sim_AssignSub (Sim_CallName (Sim_Builtin (g_len _) (by decide +kernel) (by decide) (by rfl)) CallOk.builtin (Sim_argsCons (Sim_Attr (at_Clauses_gates _ _ _ _) (Sim_Name (Sim_loadLocal (by rfl) (by rfl)))) Sim_argsNil) (TreesOk.cons TreesOk.nil) bLen_C) (Sim_Attr (at_Clauses_numbers _ _ _ _) (Sim_Name (Sim_loadLocal (by rfl) (by rfl)))) (Sim_Name (Sim_loadLocal (by rfl) (by rfl))))
  (Sim_cons (Sim_Expr (Sim_CallMeth _ (Sim_Attr (at_Clauses_gates _ _ _ _) (Sim_Name (Sim_loadLocal (by rfl) (by rfl)))) (Sim_argsCons (Sim_Name (Sim_loadLocal (by rfl) (by rfl))) Sim_argsNil) (TreesOk.cons TreesOk.nil) (MethAt.list PySem.F.slot_list_append PySem.F.type_list_append) CallOk.builtin mApp_C))
  Sim_nil)) Sim_nil)
  (Sim_cons (Sim_Return (Sim_Subscript (Sim_Attr (at_Clauses_numbers _ _ _ _) (Sim_Name (Sim_loadLocal (by rfl) (by rfl)))) (Sim_Name (Sim_loadLocal (by rfl) (by rfl)))))
  Sim_nil))
theorem f_Clauses_init__ (w : World) (l : List Str) (mg mb : Str → Option Value) : FnSim (Wd04 w l mg mb) (.ref 50) 280 (6 + 1) (runF 280 3 m_Clauses_init__) := by
  refine FnSim_def (W := Wd04 w l mg mb) (T := 300) (ho := by rfl) (hcd := by rfl) (hok := by rfl) (hbind := (fun s xs hl hk => bindD3 hl (fun a b c => binds_K hk (by rfl) (by rfl) (by rfl) (by rfl) (by rfl)))) (hbody := ?_)
  intro A L mid
  exact (Sim_cons (Sim_AssignAttr (so_Clauses_circuit _ _ _ _) (Sim_Name (Sim_loadLocal (by rfl) (by rfl))) (Sim_Name (Sim_loadLocal (by rfl) (by rfl))))
  (Sim_cons (Sim_AssignAttr (so_Clauses_whole _ _ _ _) (Sim_Name (Sim_loadLocal (by rfl) (by rfl))) (Sim_Name (Sim_loadLocal (by rfl) (by rfl))))
  (Sim_cons (Sim_AssignAttr (so_Clauses_clauses _ _ _ _) (Sim_List (some 8) Sim_argsNil ⟨(Nat.le_of_ble_eq_true rfl), .inl (Nat.le_of_ble_eq_true rfl)⟩) (Sim_Name (Sim_loadLocal (by rfl) (by rfl))))
  (Sim_cons (Sim_AssignAttr (so_Clauses_gates _ _ _ _) (Sim_List (some 9) (Sim_argsCons Sim_Const_int Sim_argsNil) ⟨(Nat.le_of_ble_eq_true rfl), .inl (Nat.le_of_ble_eq_true rfl)⟩) (Sim_Name (Sim_loadLocal (by rfl) (by rfl))))
  (Sim_cons (Sim_AssignAttr (so_Clauses_numbers _ _ _ _) (Sim_DictE 10 _ emptyI (Nat.le_of_ble_eq_true rfl) (.inl (Nat.le_of_ble_eq_true rfl))) (Sim_Name (Sim_loadLocal (by rfl) (by rfl))))
  (Sim_cons (Sim_AssignAttr (so_Clauses_opened _ _ _ _) (Sim_DictE 11 _ emptyI (Nat.le_of_ble_eq_true rfl) (.inl (Nat.le_of_ble_eq_true rfl))) (Sim_Name (Sim_loadLocal (by rfl) (by rfl))))
  (Sim_cons (Sim_AssignAttr (so_Clauses_waiting _ _ _ _) (Sim_List (some 12) Sim_argsNil ⟨(Nat.le_of_ble_eq_true rfl), .inl (Nat.le_of_ble_eq_true rfl)⟩) (Sim_Name (Sim_loadLocal (by rfl) (by rfl))))
  (Sim_cons (Sim_For (Sim_CallName (Sim_Builtin (g_range _) (by decide +kernel) (by decide) (by rfl)) CallOk.type (Sim_argsCons Sim_Const_int (Sim_argsCons (Sim_BinOp (Sim_CallMeth _ (Sim_Name (Sim_loadLocal (by rfl) (by rfl))) Sim_argsNil TreesOk.nil (MethAt.inst (pg_Circuit_size _) (mf_Circuit_size _) (fn_139 _)) (CallOk.K (kp_139 _)) (SimC_fn (f_Circuit_size _ _ _ _) (Nat.le_of_ble_eq_true rfl) (Nat.le_of_ble_eq_true rfl))) Sim_Const_int (vAdd_K trivial)) Sim_argsNil)) (TreesOk.cons (TreesOk.cons TreesOk.nil)) bRange_C) (SimA.name (Sim_storeLocal (by rfl) (by rfl))) (Sim_cons (Sim_If (Sim_testCompare (Sim_CallMeth _ (Sim_Name (Sim_loadLocal (by rfl) (by rfl))) (Sim_argsCons (Sim_Name (Sim_loadLocal (by rfl) (by rfl))) Sim_argsNil) (TreesOk.cons TreesOk.nil) (MethAt.inst (pg_Circuit_kind _) (mf_Circuit_kind _) (fn_146 _)) (CallOk.K (kp_146 _)) (SimC_fn (f_Circuit_kind _ _ _ _) (Nat.le_of_ble_eq_true rfl) (Nat.le_of_ble_eq_true rfl))) Sim_Const_str vEq_K) (Sim_cons (Sim_Expr (Sim_CallMeth _ (Sim_Name (Sim_loadLocal (by rfl) (by rfl))) (Sim_argsCons (Sim_Name (Sim_loadLocal (by rfl) (by rfl))) Sim_argsNil) (TreesOk.cons TreesOk.nil) (MethAt.inst (pg_Clauses_number_of _) (mf_Clauses_number_of _) (fn_64 _)) (CallOk.K (kp_64 _)) (SimC_fn (f_Clauses_number_of _ _ _ _) (Nat.le_of_ble_eq_true rfl) (Nat.le_of_ble_eq_true rfl))))
  Sim_nil) Sim_nil)
  Sim_nil))
  Sim_nil))))))))
theorem f_Clauses_enter (w : World) (l : List Str) (mg mb : Str → Option Value) : FnSim (Wd04 w l mg mb) (.ref 78) 260 (6 + 1) (runF 260 2 m_Clauses_enter) := by
  refine FnSim_def (W := Wd04 w l mg mb) (T := 280) (ho := by rfl) (hcd := by rfl) (hok := by rfl) (hbind := (fun s xs hl hk => bind2 hl (fun a b => by rfl))) (hbody := ?_)
  intro A L mid
  exact (Sim_cons (Sim_Assign (Sim_CallName (Sim_Builtin (g_abs _) (by decide +kernel) (by decide) (by rfl)) CallOk.builtin (Sim_argsCons (Sim_Name (Sim_loadLocal (by rfl) (by rfl))) Sim_argsNil) (TreesOk.cons TreesOk.nil) bAbs_C) (Sim_storeLocal (by rfl) (by rfl)))
  (Sim_cons (Sim_Assign (Sim_CallMeth _ (Sim_Name (Sim_loadLocal (by rfl) (by rfl))) (Sim_argsCons (Sim_Name (Sim_loadLocal (by rfl) (by rfl))) Sim_argsNil) (TreesOk.cons TreesOk.nil) (MethAt.inst (pg_Clauses_number_of _) (mf_Clauses_number_of _) (fn_64 _)) (CallOk.K (kp_64 _)) (SimC_fn (f_Clauses_number_of _ _ _ _) (Nat.le_of_ble_eq_true rfl) (Nat.le_of_ble_eq_true rfl))) (Sim_storeLocal (by rfl) (by rfl)))
  (Sim_cons (Sim_For (Sim_IfExp (Sim_testCompare (Sim_Attr (at_Clauses_whole _ _ _ _) (Sim_Name (Sim_loadLocal (by rfl) (by rfl)))) Sim_Const_int vGt_K) (Sim_Tuple (Sim_argsCons (Sim_Name (Sim_loadLocal (by rfl) (by rfl))) (Sim_argsCons (Sim_UnaryOp (Sim_Name (Sim_loadLocal (by rfl) (by rfl))) vNeg_K) Sim_argsNil))) (Sim_Tuple (Sim_argsCons (Sim_Name (Sim_loadLocal (by rfl) (by rfl))) Sim_argsNil))) (SimA.name (Sim_storeLocal (by rfl) (by rfl))) (Sim_cons (Sim_If (Sim_testCompare (Sim_Name (Sim_loadLocal (by rfl) (by rfl))) (Sim_Attr (at_Clauses_opened _ _ _ _) (Sim_Name (Sim_loadLocal (by rfl) (by rfl)))) vNotIn_K) (Sim_cons (Sim_AssignSub Sim_Const_bool (Sim_Attr (at_Clauses_opened _ _ _ _) (Sim_Name (Sim_loadLocal (by rfl) (by rfl)))) (Sim_Name (Sim_loadLocal (by rfl) (by rfl))))
  (Sim_cons (Sim_Expr (Sim_CallMeth _ (Sim_Attr (at_Clauses_waiting _ _ _ _) (Sim_Name (Sim_loadLocal (by rfl) (by rfl)))) (Sim_argsCons (Sim_Name (Sim_loadLocal (by rfl) (by rfl))) Sim_argsNil) (TreesOk.cons TreesOk.nil) (MethAt.list PySem.F.slot_list_append PySem.F.type_list_append) CallOk.builtin mApp_C))
  Sim_nil)) Sim_nil)
  Sim_nil))
  (Sim_cons (Sim_Return (Sim_IfExp (Sim_testCompare (Sim_Name (Sim_loadLocal (by rfl) (by rfl))) Sim_Const_int vGt_K) (Sim_Name (Sim_loadLocal (by rfl) (by rfl))) (Sim_UnaryOp (Sim_Name (Sim_loadLocal (by rfl) (by rfl))) vNeg_K)))
  Sim_nil))))
theorem f_Clauses_open_gate (w : World) (l : List Str) (mg mb : Str → Option Value) : FnSim (Wd04 w l mg mb) (.ref 90) 240 (12 + 1) (runF 240 2 m_Clauses_open_gate) := by
  refine FnSim_def (W := Wd04 w l mg mb) (T := 260) (ho := by rfl) (hcd := by rfl) (hok := by rfl) (hbind := (fun s xs hl hk => bind2 hl (fun a b => by rfl))) (hbody := ?_)
  intro A L mid
  exact (Sim_cons (Sim_AssignSwap (names := [(Str.ofString "kind"), (Str.ofString "number")]) (Sim_argsCons (Sim_CallMeth _ (Sim_Attr (at_Clauses_circuit _ _ _ _) (Sim_Name (Sim_loadCell (by rfl) (by rfl) (by rfl)))) (Sim_argsCons (Sim_CallName (Sim_Builtin (g_abs _) (by decide +kernel) (by decide) (by rfl)) CallOk.builtin (Sim_argsCons (Sim_Name (Sim_loadLocal (by rfl) (by rfl))) Sim_argsNil) (TreesOk.cons TreesOk.nil) bAbs_C) Sim_argsNil) (TreesOk.cons TreesOk.nil) (MethAt.inst (pg_Circuit_kind _) (mf_Circuit_kind _) (fn_146 _)) (CallOk.K (kp_146 _)) (SimC_fn (f_Circuit_kind _ _ _ _) (Nat.le_of_ble_eq_true rfl) (Nat.le_of_ble_eq_true rfl))) (Sim_argsCons (Sim_Subscript (Sim_Attr (at_Clauses_numbers _ _ _ _) (Sim_Name (Sim_loadCell (by rfl) (by rfl) (by rfl)))) (Sim_CallName (Sim_Builtin (g_abs _) (by decide +kernel) (by decide) (by rfl)) CallOk.builtin (Sim_argsCons (Sim_Name (Sim_loadLocal (by rfl) (by rfl))) Sim_argsNil) (TreesOk.cons TreesOk.nil) bAbs_C)) Sim_argsNil)) (.cons (SimSts.bind (Sim_storeLocal (by rfl) (by rfl))) (.cons (SimSts.bind (Sim_storeLocal (by rfl) (by rfl))) .nil)) (by rfl))
  (Sim_cons (Sim_If (Sim_testCompare (Sim_Name (Sim_loadLocal (by rfl) (by rfl))) Sim_Const_str vEq_K) (Sim_cons (Sim_Expr (Sim_CallMeth _ (Sim_Name (Sim_loadCell (by rfl) (by rfl) (by rfl))) (Sim_argsCons (Sim_List none (Sim_argsCons (Sim_Name (Sim_loadLocal (by rfl) (by rfl))) Sim_argsNil) trivial) Sim_argsNil) (TreesOk.cons TreesOk.nil) (MethAt.inst (pg_Clauses_tell _) (mf_Clauses_tell _) (fn_85 _)) (CallOk.K (kp_85 _)) (SimC_fn (f_Clauses_tell _ _ _ _) (Nat.le_of_ble_eq_true rfl) (Nat.le_of_ble_eq_true rfl))))
  Sim_nil) (Sim_cons (Sim_If (Sim_testBool (Sim_andCons (Sim_testCompare (Sim_Name (Sim_loadLocal (by rfl) (by rfl))) Sim_Const_str vEq_K) (Sim_andCons (Sim_testCompare (Sim_Name (Sim_loadLocal (by rfl) (by rfl))) Sim_Const_int vGt_K) Sim_andNil))) (Sim_cons (Sim_For (Sim_CallMeth _ (Sim_Attr (at_Clauses_circuit _ _ _ _) (Sim_Name (Sim_loadCell (by rfl) (by rfl) (by rfl)))) (Sim_argsCons (Sim_Name (Sim_loadLocal (by rfl) (by rfl))) Sim_argsNil) (TreesOk.cons TreesOk.nil) (MethAt.inst (pg_Circuit_parts _) (mf_Circuit_parts _) (fn_153 _)) (CallOk.K (kp_153 _)) (SimC_fn (f_Circuit_parts _ _ _ _) (Nat.le_of_ble_eq_true rfl) (Nat.le_of_ble_eq_true rfl))) (SimA.name (Sim_storeLocal (by rfl) (by rfl))) (Sim_cons (Sim_Expr (Sim_CallMeth _ (Sim_Name (Sim_loadCell (by rfl) (by rfl) (by rfl))) (Sim_argsCons (Sim_List none (Sim_argsCons (Sim_UnaryOp (Sim_Name (Sim_loadLocal (by rfl) (by rfl))) vNeg_K) (Sim_argsCons (Sim_CallMeth _ (Sim_Name (Sim_loadCell (by rfl) (by rfl) (by rfl))) (Sim_argsCons (Sim_Name (Sim_loadLocal (by rfl) (by rfl))) Sim_argsNil) (TreesOk.cons TreesOk.nil) (MethAt.inst (pg_Clauses_enter _) (mf_Clauses_enter _) (fn_78 _)) (CallOk.K (kp_78 _)) (SimC_fn (f_Clauses_enter _ _ _ _) (Nat.le_of_ble_eq_true rfl) (Nat.le_of_ble_eq_true rfl))) Sim_argsNil)) trivial) Sim_argsNil) (TreesOk.cons TreesOk.nil) (MethAt.inst (pg_Clauses_tell _) (mf_Clauses_tell _) (fn_85 _)) (CallOk.K (kp_85 _)) (SimC_fn (f_Clauses_tell _ _ _ _) (Nat.le_of_ble_eq_true rfl) (Nat.le_of_ble_eq_true rfl))))
  Sim_nil))
  Sim_nil) (Sim_cons (Sim_If (Sim_testCompare (Sim_Name (Sim_loadLocal (by rfl) (by rfl))) Sim_Const_str vEq_K) (Sim_cons (Sim_Expr (Sim_CallMeth _ (Sim_Name (Sim_loadCell (by rfl) (by rfl) (by rfl))) (Sim_argsCons (Sim_BinOp (Sim_List none (Sim_argsCons (Sim_Name (Sim_loadLocal (by rfl) (by rfl))) Sim_argsNil) trivial) (Sim_Comp none trivial (Sim_CallMeth _ (Sim_Attr (at_Clauses_circuit _ _ _ _) (Sim_Name (Sim_loadCell (by rfl) (by rfl) (by rfl)))) (Sim_argsCons (Sim_UnaryOp (Sim_Name (Sim_loadLocal (by rfl) (by rfl))) vNeg_K) Sim_argsNil) (TreesOk.cons TreesOk.nil) (MethAt.inst (pg_Circuit_parts _) (mf_Circuit_parts _) (fn_153 _)) (CallOk.K (kp_153 _)) (SimC_fn (f_Circuit_parts _ _ _ _) (Nat.le_of_ble_eq_true rfl) (Nat.le_of_ble_eq_true rfl))) (by rfl) (by rfl) (fun _ => SimT.nil) (fun _ => (Sim_CallMeth _ (Sim_Name (Sim_loadCell (by rfl) (by rfl) (by rfl))) (Sim_argsCons (Sim_UnaryOp (Sim_Name (Sim_loadLocal (by rfl) (by rfl))) vNeg_K) Sim_argsNil) (TreesOk.cons TreesOk.nil) (MethAt.inst (pg_Clauses_enter _) (mf_Clauses_enter _) (fn_78 _)) (CallOk.K (kp_78 _)) (SimC_fn (f_Clauses_enter _ _ _ _) (Nat.le_of_ble_eq_true rfl) (Nat.le_of_ble_eq_true rfl))))) (vAdd_K trivial)) Sim_argsNil) (TreesOk.cons TreesOk.nil) (MethAt.inst (pg_Clauses_tell _) (mf_Clauses_tell _) (fn_85 _)) (CallOk.K (kp_85 _)) (SimC_fn (f_Clauses_tell _ _ _ _) (Nat.le_of_ble_eq_true rfl) (Nat.le_of_ble_eq_true rfl))))
  Sim_nil) Sim_nil)
  Sim_nil))
  Sim_nil))
  Sim_nil))
theorem f_Clauses_flush (w : World) (l : List Str) (mg mb : Str → Option Value) : FnSim (Wd04 w l mg mb) (.ref 97) 220 (15 + 1) (runF 220 1 m_Clauses_flush) := by
  refine FnSim_def (W := Wd04 w l mg mb) (T := 240) (ho := by rfl) (hcd := by rfl) (hok := by rfl) (hbind := (fun s xs hl hk => bind1 hl (fun a => by rfl))) (hbody := ?_)
  intro A L mid
  exact (Sim_cons (Sim_While (Sim_testCompare (Sim_CallName (Sim_Builtin (g_len _) (by decide +kernel) (by decide) (by rfl)) CallOk.builtin (Sim_argsCons (Sim_Attr (at_Clauses_waiting _ _ _ _) (Sim_Name (Sim_loadLocal (by rfl) (by rfl)))) Sim_argsNil) (TreesOk.cons TreesOk.nil) bLen_C) Sim_Const_int vGt_K) (Sim_cons (Sim_Expr (Sim_CallMeth _ (Sim_Name (Sim_loadLocal (by rfl) (by rfl))) (Sim_argsCons (Sim_CallMeth _ (Sim_Attr (at_Clauses_waiting _ _ _ _) (Sim_Name (Sim_loadLocal (by rfl) (by rfl)))) Sim_argsNil TreesOk.nil (MethAt.list PySem.F.slot_list_pop PySem.F.type_list_pop) CallOk.builtin mPop_C) Sim_argsNil) (TreesOk.cons TreesOk.nil) (MethAt.inst (pg_Clauses_open_gate _) (mf_Clauses_open_gate _) (fn_90 _)) (CallOk.K (kp_90 _)) (SimC_fn (f_Clauses_open_gate _ _ _ _) (Nat.le_of_ble_eq_true rfl) (Nat.le_of_ble_eq_true rfl))))
  Sim_nil))
  Sim_nil)
theorem f_Clauses_literal_of (w : World) (l : List Str) (mg mb : Str → Option Value) : FnSim (Wd04 w l mg mb) (.ref 104) 200 (18 + 1) (runF 200 2 m_Clauses_literal_of) := by
  refine FnSim_def (W := Wd04 w l mg mb) (T := 220) (ho := by rfl) (hcd := by rfl) (hok := by rfl) (hbind := (fun s xs hl hk => bind2 hl (fun a b => by rfl))) (hbody := ?_)
  intro A L mid
  exact (Sim_cons (Sim_Assign (Sim_CallMeth _ (Sim_Name (Sim_loadLocal (by rfl) (by rfl))) (Sim_argsCons (Sim_Name (Sim_loadLocal (by rfl) (by rfl))) Sim_argsNil) (TreesOk.cons TreesOk.nil) (MethAt.inst (pg_Clauses_enter _) (mf_Clauses_enter _) (fn_78 _)) (CallOk.K (kp_78 _)) (SimC_fn (f_Clauses_enter _ _ _ _) (Nat.le_of_ble_eq_true rfl) (Nat.le_of_ble_eq_true rfl))) (Sim_storeLocal (by rfl) (by rfl)))
  (Sim_cons (Sim_Expr (Sim_CallMeth _ (Sim_Name (Sim_loadLocal (by rfl) (by rfl))) Sim_argsNil TreesOk.nil (MethAt.inst (pg_Clauses_flush _) (mf_Clauses_flush _) (fn_97 _)) (CallOk.K (kp_97 _)) (SimC_fn (f_Clauses_flush _ _ _ _) (Nat.le_of_ble_eq_true rfl) (Nat.le_of_ble_eq_true rfl))))
  (Sim_cons (Sim_Return (Sim_Name (Sim_loadLocal (by rfl) (by rfl))))
  Sim_nil)))
theorem f__law_is_plain_right (w : World) (l : List Str) (mg mb : Str → Option Value) : FnSim (Wd04 w l mg mb) (.ref 247) 180 (9 + 1) (runF 180 1 m__law_is_plain_right) := by
  refine FnSim_def (W := Wd04 w l mg mb) (T := 200) (ho := by rfl) (hcd := by rfl) (hok := by rfl) (hbind := (fun s xs hl hk => bind1 hl (fun a => by rfl))) (hbody := ?_)
  intro A L mid
  exact (Sim_cons (Sim_If (Sim_testBool (Sim_orCons (Sim_testCompare (Sim_CallName (Sim_Global (g_clause_of _) (by rfl)) (CallOk.K (kp_28 _)) (Sim_argsCons (Sim_List none (Sim_argsCons Sim_Const_int (Sim_argsCons Sim_Const_int (Sim_argsCons (Sim_UnaryOp Sim_Const_int vNeg_K) Sim_argsNil))) trivial) Sim_argsNil) (TreesOk.cons TreesOk.nil) (SimC_fn (f_clause_of _ _ _ _) (Nat.le_of_ble_eq_true rfl) (Nat.le_of_ble_eq_true rfl))) Sim_Const_none vIsNot_K) (Sim_orCons (Sim_testCompare (Sim_CallName (Sim_Global (g_clause_of _) (by rfl)) (CallOk.K (kp_28 _)) (Sim_argsCons (Sim_List none Sim_argsNil trivial) Sim_argsNil) (TreesOk.cons TreesOk.nil) (SimC_fn (f_clause_of _ _ _ _) (Nat.le_of_ble_eq_true rfl) (Nat.le_of_ble_eq_true rfl))) (Sim_Tuple Sim_argsNil) vNe_K) Sim_orNil))) (Sim_cons (Sim_Return Sim_Const_bool)
  Sim_nil) Sim_nil)
  (Sim_cons (Sim_For (Sim_CallName (Sim_Builtin (g_range _) (by decide +kernel) (by decide) (by rfl)) CallOk.type (Sim_argsCons Sim_Const_int Sim_argsNil) (TreesOk.cons TreesOk.nil) bRange_C) (SimA.name (Sim_storeLocal (by rfl) (by rfl))) (Sim_cons (Sim_Assign (Sim_Subscript (Sim_List none (Sim_argsCons Sim_Const_int (Sim_argsCons (Sim_BinOp (Sim_BinOp Sim_Const_int Sim_Const_int vPow_K) Sim_Const_int (vAdd_K trivial)) Sim_argsNil)) trivial) (Sim_CallName (Sim_Global (g__law_draw _) (by rfl)) (CallOk.K (kp_235 _)) (Sim_argsCons (Sim_Name (Sim_loadLocal (by rfl) (by rfl))) (Sim_argsCons Sim_Const_int Sim_argsNil)) (TreesOk.cons (TreesOk.cons TreesOk.nil)) (SimC_fn (f__law_draw _ _ _ _) (Nat.le_of_ble_eq_true rfl) (Nat.le_of_ble_eq_true rfl)))) (Sim_storeLocal (by rfl) (by rfl)))
  (Sim_cons (Sim_kill 180 (Sim_Assign (Sim_List (some 180) Sim_argsNil ⟨(Nat.le_of_ble_eq_true rfl), .inr (Nat.le_of_ble_eq_true rfl)⟩) (Sim_storeLocal (by rfl) (by rfl))) (Nat.le_of_ble_eq_true rfl))
  (Sim_cons (Sim_For (Sim_CallName (Sim_Builtin (g_range _) (by decide +kernel) (by decide) (by rfl)) CallOk.type (Sim_argsCons (Sim_CallName (Sim_Global (g__law_draw _) (by rfl)) (CallOk.K (kp_235 _)) (Sim_argsCons (Sim_Name (Sim_loadLocal (by rfl) (by rfl))) (Sim_argsCons Sim_Const_int Sim_argsNil)) (TreesOk.cons (TreesOk.cons TreesOk.nil)) (SimC_fn (f__law_draw _ _ _ _) (Nat.le_of_ble_eq_true rfl) (Nat.le_of_ble_eq_true rfl))) Sim_argsNil) (TreesOk.cons TreesOk.nil) bRange_C) (SimA.name (Sim_storeLocal (by rfl) (by rfl))) (Sim_cons (Sim_Assign (Sim_CallName (Sim_Global (g__law_draw _) (by rfl)) (CallOk.K (kp_235 _)) (Sim_argsCons (Sim_Name (Sim_loadLocal (by rfl) (by rfl))) (Sim_argsCons Sim_Const_int Sim_argsNil)) (TreesOk.cons (TreesOk.cons TreesOk.nil)) (SimC_fn (f__law_draw _ _ _ _) (Nat.le_of_ble_eq_true rfl) (Nat.le_of_ble_eq_true rfl))) (Sim_storeLocal (by rfl) (by rfl)))
  (Sim_cons (Sim_Expr (Sim_CallMeth _ (Sim_Name (Sim_loadLocal (by rfl) (by rfl))) (Sim_argsCons (Sim_BinOp (Sim_BinOp (Sim_BinOp (Sim_Name (Sim_loadLocal (by rfl) (by rfl))) Sim_Const_int vFloorDiv_K) (Sim_Name (Sim_loadLocal (by rfl) (by rfl))) (vAdd_K trivial)) (Sim_BinOp Sim_Const_int (Sim_BinOp Sim_Const_int (Sim_BinOp (Sim_Name (Sim_loadLocal (by rfl) (by rfl))) Sim_Const_int vMod_K) vMul_K) vSub_K) vMul_K) Sim_argsNil) (TreesOk.cons TreesOk.nil) (MethAt.list PySem.F.slot_list_append PySem.F.type_list_append) CallOk.builtin mApp_C))
  Sim_nil)))
  (Sim_cons (Sim_Assign (Sim_CallName (Sim_Global (g__law_due _) (by rfl)) (CallOk.K (kp_240 _)) (Sim_argsCons (Sim_Name (Sim_loadLocal (by rfl) (by rfl))) Sim_argsNil) (TreesOk.cons TreesOk.nil) (SimC_fn (f__law_due _ _ _ _) (Nat.le_of_ble_eq_true rfl) (Nat.le_of_ble_eq_true rfl))) (Sim_storeLocal (by rfl) (by rfl)))
  (Sim_cons (Sim_If (Sim_testBool (Sim_orCons (Sim_testCompare (Sim_CallName (Sim_Global (g_clause_of _) (by rfl)) (CallOk.K (kp_28 _)) (Sim_argsCons (Sim_Name (Sim_loadLocal (by rfl) (by rfl))) Sim_argsNil) (TreesOk.cons TreesOk.nil) (SimC_fn (f_clause_of _ _ _ _) (Nat.le_of_ble_eq_true rfl) (Nat.le_of_ble_eq_true rfl))) (Sim_Name (Sim_loadLocal (by rfl) (by rfl))) vNe_K) (Sim_orCons (Sim_testCompare (Sim_CallName (Sim_Global (g_clause_of _) (by rfl)) (CallOk.K (kp_28 _)) (Sim_argsCons (Sim_BinOp (Sim_Back none trivial (Sim_Name (Sim_loadLocal (by rfl) (by rfl))) (Sim_UnaryOp Sim_Const_int vNeg_K)) (Sim_Name (Sim_loadLocal (by rfl) (by rfl))) (vAdd_K trivial)) Sim_argsNil) (TreesOk.cons TreesOk.nil) (SimC_fn (f_clause_of _ _ _ _) (Nat.le_of_ble_eq_true rfl) (Nat.le_of_ble_eq_true rfl))) (Sim_Name (Sim_loadLocal (by rfl) (by rfl))) vNe_K) Sim_orNil))) (Sim_cons (Sim_Return Sim_Const_bool)
  Sim_nil) Sim_nil)
  (Sim_cons (Sim_If (Sim_testBool (Sim_andCons (Sim_testCompare (Sim_Name (Sim_loadLocal (by rfl) (by rfl))) Sim_Const_none vIsNot_K) (Sim_andCons (Sim_testCompare (Sim_CallName (Sim_Global (g_clause_of _) (by rfl)) (CallOk.K (kp_28 _)) (Sim_argsCons (Sim_Name (Sim_loadLocal (by rfl) (by rfl))) Sim_argsNil) (TreesOk.cons TreesOk.nil) (SimC_fn (f_clause_of _ _ _ _) (Nat.le_of_ble_eq_true rfl) (Nat.le_of_ble_eq_true rfl))) (Sim_Name (Sim_loadLocal (by rfl) (by rfl))) vNe_K) Sim_andNil))) (Sim_cons (Sim_Return Sim_Const_bool)
  Sim_nil) Sim_nil)
  Sim_nil)))))))
  (Sim_cons (Sim_Return Sim_Const_bool)
  Sim_nil)))
theorem f__law_gate (w : World) (l : List Str) (mg mb : Str → Option Value) : FnSim (Wd04 w l mg mb) (.ref 254) 160 (15 + 1) (runF 160 3 m__law_gate) := by
  refine FnSim_def (W := Wd04 w l mg mb) (T := 180) (ho := by rfl) (hcd := by rfl) (hok := by rfl) (hbind := (fun s xs hl hk => bind3 hl (fun a b c => by rfl))) (hbody := ?_)
  intro A L mid
  exact (Sim_cons (Sim_Assign (Sim_CallName (Sim_Global (g__law_draw _) (by rfl)) (CallOk.K (kp_235 _)) (Sim_argsCons (Sim_Name (Sim_loadLocal (by rfl) (by rfl))) (Sim_argsCons Sim_Const_int Sim_argsNil)) (TreesOk.cons (TreesOk.cons TreesOk.nil)) (SimC_fn (f__law_draw _ _ _ _) (Nat.le_of_ble_eq_true rfl) (Nat.le_of_ble_eq_true rfl))) (Sim_storeLocal (by rfl) (by rfl)))
  (Sim_cons (Sim_Assign (Sim_List (some 160) Sim_argsNil ⟨(Nat.le_of_ble_eq_true rfl), .inr (Nat.le_of_ble_eq_true rfl)⟩) (Sim_storeLocal (by rfl) (by rfl)))
  (Sim_cons (Sim_For (Sim_CallName (Sim_Builtin (g_range _) (by decide +kernel) (by decide) (by rfl)) CallOk.type (Sim_argsCons (Sim_IfExp (Sim_testCompare (Sim_Name (Sim_loadLocal (by rfl) (by rfl))) Sim_Const_int vEq_K) Sim_Const_int (Sim_BinOp Sim_Const_int (Sim_CallName (Sim_Global (g__law_draw _) (by rfl)) (CallOk.K (kp_235 _)) (Sim_argsCons (Sim_Name (Sim_loadLocal (by rfl) (by rfl))) (Sim_argsCons Sim_Const_int Sim_argsNil)) (TreesOk.cons (TreesOk.cons TreesOk.nil)) (SimC_fn (f__law_draw _ _ _ _) (Nat.le_of_ble_eq_true rfl) (Nat.le_of_ble_eq_true rfl))) (vAdd_K trivial))) Sim_argsNil) (TreesOk.cons TreesOk.nil) bRange_C) (SimA.name (Sim_storeLocal (by rfl) (by rfl))) (Sim_cons (Sim_Assign (Sim_Subscript (Sim_Name (Sim_loadLocal (by rfl) (by rfl))) (Sim_CallName (Sim_Global (g__law_draw _) (by rfl)) (CallOk.K (kp_235 _)) (Sim_argsCons (Sim_Name (Sim_loadLocal (by rfl) (by rfl))) (Sim_argsCons (Sim_CallName (Sim_Builtin (g_len _) (by decide +kernel) (by decide) (by rfl)) CallOk.builtin (Sim_argsCons (Sim_Name (Sim_loadLocal (by rfl) (by rfl))) Sim_argsNil) (TreesOk.cons TreesOk.nil) bLen_C) Sim_argsNil)) (TreesOk.cons (TreesOk.cons TreesOk.nil)) (SimC_fn (f__law_draw _ _ _ _) (Nat.le_of_ble_eq_true rfl) (Nat.le_of_ble_eq_true rfl)))) (Sim_storeLocal (by rfl) (by rfl)))
  (Sim_cons (Sim_Expr (Sim_CallMeth _ (Sim_Name (Sim_loadLocal (by rfl) (by rfl))) (Sim_argsCons (Sim_IfExp (Sim_testCompare (Sim_CallName (Sim_Global (g__law_draw _) (by rfl)) (CallOk.K (kp_235 _)) (Sim_argsCons (Sim_Name (Sim_loadLocal (by rfl) (by rfl))) (Sim_argsCons Sim_Const_int Sim_argsNil)) (TreesOk.cons (TreesOk.cons TreesOk.nil)) (SimC_fn (f__law_draw _ _ _ _) (Nat.le_of_ble_eq_true rfl) (Nat.le_of_ble_eq_true rfl))) Sim_Const_int vEq_K) (Sim_Name (Sim_loadLocal (by rfl) (by rfl))) (Sim_UnaryOp (Sim_Name (Sim_loadLocal (by rfl) (by rfl))) vNeg_K)) Sim_argsNil) (TreesOk.cons TreesOk.nil) (MethAt.list PySem.F.slot_list_append PySem.F.type_list_append) CallOk.builtin mApp_C))
  Sim_nil)))
  (Sim_cons (Sim_If (Sim_testCompare (Sim_Name (Sim_loadLocal (by rfl) (by rfl))) Sim_Const_int vEq_K) (Sim_cons (Sim_Return (Sim_CallMeth _ (Sim_Name (Sim_loadLocal (by rfl) (by rfl))) (Sim_argsCons (Sim_Subscript (Sim_Name (Sim_loadLocal (by rfl) (by rfl))) Sim_Const_int) (Sim_argsCons (Sim_Subscript (Sim_Name (Sim_loadLocal (by rfl) (by rfl))) Sim_Const_int) Sim_argsNil)) (TreesOk.cons (TreesOk.cons TreesOk.nil)) (MethAt.inst (pg_Circuit_iff _) (mf_Circuit_iff _) (fn_207 _)) (CallOk.K (kp_207 _)) (SimC_fn (f_Circuit_iff _ _ _ _) (Nat.le_of_ble_eq_true rfl) (Nat.le_of_ble_eq_true rfl))))
  Sim_nil) Sim_nil)
  (Sim_cons (Sim_Return (Sim_IfExp (Sim_testCompare (Sim_Name (Sim_loadLocal (by rfl) (by rfl))) Sim_Const_int vEq_K) (Sim_CallMeth _ (Sim_Name (Sim_loadLocal (by rfl) (by rfl))) (Sim_argsCons (Sim_Name (Sim_loadLocal (by rfl) (by rfl))) Sim_argsNil) (TreesOk.cons TreesOk.nil) (MethAt.inst (pg_Circuit_all_of _) (mf_Circuit_all_of _) (fn_174 _)) (CallOk.K (kp_174 _)) (SimC_fn (f_Circuit_all_of _ _ _ _) (Nat.le_of_ble_eq_true rfl) (Nat.le_of_ble_eq_true rfl))) (Sim_CallMeth _ (Sim_Name (Sim_loadLocal (by rfl) (by rfl))) (Sim_argsCons (Sim_Name (Sim_loadLocal (by rfl) (by rfl))) Sim_argsNil) (TreesOk.cons TreesOk.nil) (MethAt.inst (pg_Circuit_any_of _) (mf_Circuit_any_of _) (fn_179 _)) (CallOk.K (kp_179 _)) (SimC_fn (f_Circuit_any_of _ _ _ _) (Nat.le_of_ble_eq_true rfl) (Nat.le_of_ble_eq_true rfl)))))
  Sim_nil)))))
theorem f__law_taken_out (w : World) (l : List Str) (mg mb : Str → Option Value) : FnSim (Wd04 w l mg mb) (.ref 264) 140 (9 + 1) (runF 140 2 m__law_taken_out) := by
  refine FnSim_def (W := Wd04 w l mg mb) (T := 160) (ho := by rfl) (hcd := by rfl) (hok := by rfl) (hbind := (fun s xs hl hk => bind2 hl (fun a b => by rfl))) (hbody := ?_)
  intro A L mid
  exact (Sim_cons (Sim_Assign (Sim_CallName (Sim_Builtin (g_dict _) (by decide +kernel) (by decide) (by rfl)) CallOk.type (Sim_argsCons (Sim_Comp none trivial (Sim_Name (Sim_loadLocal (by rfl) (by rfl))) (by rfl) (by rfl) (fun _ => (SimT.one (Sim_testBool (Sim_andCons (Sim_testCompare (Sim_Name (Sim_loadCell (by rfl) (by rfl) (by rfl))) (Sim_Name (Sim_loadLocal (by rfl) (by rfl))) vNotIn_K) (Sim_andCons (Sim_testCompare (Sim_UnaryOp (Sim_Name (Sim_loadCell (by rfl) (by rfl) (by rfl))) vNeg_K) (Sim_Name (Sim_loadLocal (by rfl) (by rfl))) vNotIn_K) Sim_andNil))))) (fun _ => (Sim_Tuple (Sim_argsCons (Sim_Name (Sim_loadLocal (by rfl) (by rfl))) (Sim_argsCons Sim_Const_bool Sim_argsNil))))) Sim_argsNil) (TreesOk.cons TreesOk.nil) (bDictT_C (Nat.le_of_ble_eq_true rfl) (.inr (Nat.le_of_ble_eq_true rfl)))) (Sim_storeLocal (by rfl) (by rfl)))
  (Sim_cons (Sim_For (Sim_Comp none trivial (Sim_Name (Sim_loadLocal (by rfl) (by rfl))) (by rfl) (by rfl) (fun _ => (SimT.one (Sim_testCompare (Sim_Name (Sim_loadCell (by rfl) (by rfl) (by rfl))) (Sim_Name (Sim_loadLocal (by rfl) (by rfl))) vIn_K))) (fun _ => (Sim_Name (Sim_loadLocal (by rfl) (by rfl))))) (SimA.name (Sim_storeLocal (by rfl) (by rfl))) (Sim_cons (Sim_For (Sim_Comp none trivial (Sim_Name (Sim_loadLocal (by rfl) (by rfl))) (by rfl) (by rfl) (fun _ => (SimT.one (Sim_testCompare (Sim_UnaryOp (Sim_Name (Sim_loadCell (by rfl) (by rfl) (by rfl))) vNeg_K) (Sim_Name (Sim_loadLocal (by rfl) (by rfl))) vIn_K))) (fun _ => (Sim_Name (Sim_loadLocal (by rfl) (by rfl))))) (SimA.name (Sim_storeLocal (by rfl) (by rfl))) (Sim_cons (Sim_Assign (Sim_CallName (Sim_Global (g_clause_of _) (by rfl)) (CallOk.K (kp_28 _)) (Sim_argsCons (Sim_BinOp (Sim_Comp none trivial (Sim_Name (Sim_loadLocal (by rfl) (by rfl))) (by rfl) (by rfl) (fun _ => (SimT.one (Sim_testCompare (Sim_Name (Sim_loadLocal (by rfl) (by rfl))) (Sim_Name (Sim_loadCell (by rfl) (by rfl) (by rfl))) vNe_K))) (fun _ => (Sim_Name (Sim_loadLocal (by rfl) (by rfl))))) (Sim_Comp none trivial (Sim_Name (Sim_loadLocal (by rfl) (by rfl))) (by rfl) (by rfl) (fun _ => (SimT.one (Sim_testCompare (Sim_Name (Sim_loadLocal (by rfl) (by rfl))) (Sim_UnaryOp (Sim_Name (Sim_loadCell (by rfl) (by rfl) (by rfl))) vNeg_K) vNe_K))) (fun _ => (Sim_Name (Sim_loadLocal (by rfl) (by rfl))))) (vAdd_K trivial)) Sim_argsNil) (TreesOk.cons TreesOk.nil) (SimC_fn (f_clause_of _ _ _ _) (Nat.le_of_ble_eq_true rfl) (Nat.le_of_ble_eq_true rfl))) (Sim_storeLocal (by rfl) (by rfl)))
  (Sim_cons (Sim_If (Sim_testCompare (Sim_Name (Sim_loadLocal (by rfl) (by rfl))) Sim_Const_none vIsNot_K) (Sim_cons (Sim_AssignSub Sim_Const_bool (Sim_Name (Sim_loadLocal (by rfl) (by rfl))) (Sim_Name (Sim_loadLocal (by rfl) (by rfl))))
  Sim_nil) Sim_nil)
  Sim_nil)))
  Sim_nil))
  (Sim_cons (Sim_Return (Sim_CallName (Sim_Builtin (g_list _) (by decide +kernel) (by decide) (by rfl)) CallOk.type (Sim_argsCons (Sim_Name (Sim_loadLocal (by rfl) (by rfl))) Sim_argsNil) (TreesOk.cons TreesOk.nil) (bList_C trivial)))
  Sim_nil)))
theorem f__law_can_hold (w : World) (l : List Str) (mg mb : Str → Option Value) : FnSim (Wd04 w l mg mb) (.ref 259) 120 (6 + 1) (runF 120 3 m__law_can_hold) := by
  refine FnSim_def (W := Wd04 w l mg mb) (T := 140) (ho := by rfl) (hcd := by rfl) (hok := by rfl) (hbind := (fun s xs hl hk => bind3 hl (fun a b c => by rfl))) (hbody := ?_)
  intro A L mid
  exact (Sim_cons (Sim_For (Sim_CallName (Sim_Builtin (g_range _) (by decide +kernel) (by decide) (by rfl)) CallOk.type (Sim_argsCons (Sim_BinOp Sim_Const_int (Sim_CallName (Sim_Builtin (g_len _) (by decide +kernel) (by decide) (by rfl)) CallOk.builtin (Sim_argsCons (Sim_Name (Sim_loadLocal (by rfl) (by rfl))) Sim_argsNil) (TreesOk.cons TreesOk.nil) bLen_C) vPow_K) Sim_argsNil) (TreesOk.cons TreesOk.nil) bRange_C) (SimA.name (Sim_storeLocal (by rfl) (by rfl))) (Sim_cons (Sim_kill 120 (Sim_Assign (Sim_List (some 120) (Sim_argsCons Sim_Const_bool (Sim_argsCons Sim_Const_bool Sim_argsNil)) ⟨(Nat.le_of_ble_eq_true rfl), .inr (Nat.le_of_ble_eq_true rfl)⟩) (Sim_storeCell (by rfl) (by rfl) (by rfl))) (Nat.le_of_ble_eq_true rfl))
  (Sim_cons (Sim_For (Sim_CallName (Sim_Builtin (g_range _) (by decide +kernel) (by decide) (by rfl)) CallOk.type (Sim_argsCons Sim_Const_int (Sim_argsCons (Sim_BinOp (Sim_CallMeth _ (Sim_Name (Sim_loadLocal (by rfl) (by rfl))) Sim_argsNil TreesOk.nil (MethAt.inst (pg_Circuit_size _) (mf_Circuit_size _) (fn_139 _)) (CallOk.K (kp_139 _)) (SimC_fn (f_Circuit_size _ _ _ _) (Nat.le_of_ble_eq_true rfl) (Nat.le_of_ble_eq_true rfl))) Sim_Const_int (vAdd_K trivial)) Sim_argsNil)) (TreesOk.cons (TreesOk.cons TreesOk.nil)) bRange_C) (SimA.name (Sim_storeLocal (by rfl) (by rfl))) (Sim_cons (Sim_If (Sim_testCompare (Sim_Name (Sim_loadLocal (by rfl) (by rfl))) (Sim_Name (Sim_loadLocal (by rfl) (by rfl))) vIn_K) (Sim_cons (Sim_Expr (Sim_CallMeth _ (Sim_Name (Sim_loadCell (by rfl) (by rfl) (by rfl))) (Sim_argsCons (Sim_Compare (Sim_BinOp (Sim_BinOp (Sim_Name (Sim_loadLocal (by rfl) (by rfl))) (Sim_CallMeth _ (Sim_Name (Sim_loadLocal (by rfl) (by rfl))) (Sim_argsCons (Sim_Name (Sim_loadLocal (by rfl) (by rfl))) Sim_argsNil) (TreesOk.cons TreesOk.nil) (MethAt.list PySem.F.slot_list_index PySem.F.type_list_index) CallOk.builtin mIndex_C) vRShift_K) Sim_Const_int vAnd_K) Sim_Const_int vEq_K) Sim_argsNil) (TreesOk.cons TreesOk.nil) (MethAt.list PySem.F.slot_list_append PySem.F.type_list_append) CallOk.builtin mApp_C))
  Sim_nil) (Sim_cons (Sim_Expr (Sim_CallMeth _ (Sim_Name (Sim_loadCell (by rfl) (by rfl) (by rfl))) (Sim_argsCons (Sim_Compare (Sim_Comp none trivial (Sim_CallMeth _ (Sim_Name (Sim_loadLocal (by rfl) (by rfl))) (Sim_argsCons (Sim_Name (Sim_loadLocal (by rfl) (by rfl))) Sim_argsNil) (TreesOk.cons TreesOk.nil) (MethAt.inst (pg_Circuit_parts _) (mf_Circuit_parts _) (fn_153 _)) (CallOk.K (kp_153 _)) (SimC_fn (f_Circuit_parts _ _ _ _) (Nat.le_of_ble_eq_true rfl) (Nat.le_of_ble_eq_true rfl))) (by rfl) (by rfl) (fun _ => (SimT.one (Sim_testCompare (Sim_Subscript (Sim_Name (Sim_loadCell (by rfl) (by rfl) (by rfl))) (Sim_CallName (Sim_Builtin (g_abs _) (by decide +kernel) (by decide) (by rfl)) CallOk.builtin (Sim_argsCons (Sim_Name (Sim_loadLocal (by rfl) (by rfl))) Sim_argsNil) (TreesOk.cons TreesOk.nil) bAbs_C)) (Sim_Compare (Sim_Name (Sim_loadLocal (by rfl) (by rfl))) Sim_Const_int vGt_K) vNe_K))) (fun _ => (Sim_Name (Sim_loadLocal (by rfl) (by rfl))))) (Sim_List none Sim_argsNil trivial) vEq_K) Sim_argsNil) (TreesOk.cons TreesOk.nil) (MethAt.list PySem.F.slot_list_append PySem.F.type_list_append) CallOk.builtin mApp_C))
  Sim_nil))
  Sim_nil))
  (Sim_cons (Sim_If (Sim_testCompare (Sim_Subscript (Sim_Name (Sim_loadCell (by rfl) (by rfl) (by rfl))) (Sim_CallName (Sim_Builtin (g_abs _) (by decide +kernel) (by decide) (by rfl)) CallOk.builtin (Sim_argsCons (Sim_Name (Sim_loadLocal (by rfl) (by rfl))) Sim_argsNil) (TreesOk.cons TreesOk.nil) bAbs_C)) (Sim_Compare (Sim_Name (Sim_loadLocal (by rfl) (by rfl))) Sim_Const_int vGt_K) vEq_K) (Sim_cons (Sim_Return Sim_Const_bool)
  Sim_nil) Sim_nil)
  Sim_nil))))
  (Sim_cons (Sim_Return Sim_Const_bool)
  Sim_nil))
theorem f_law (w : World) (l : List Str) (mg mb : Str → Option Value) : FnSim (Wd04 w l mg mb) (.ref 269) 100 (21 + 1) (runF 100 1 m_law) := by
  refine FnSim_def (W := Wd04 w l mg mb) (T := 120) (ho := by rfl) (hcd := by rfl) (hok := by rfl) (hbind := (fun s xs hl hk => bind1 hl (fun a => by rfl))) (hbody := ?_)
  intro A L mid
  exact (Sim_cons (Sim_AssignDisp (Sim_argsCons (Sim_DictStr 100 (SimQ.cons Sim_Const_str (Sim_Upto none trivial (Sim_Name (Sim_loadLocal (by rfl) (by rfl))) Sim_Const_int) (SimQ.cons Sim_Const_str Sim_Const_int SimQ.nil)) (Nat.le_of_ble_eq_true rfl) (.inr (Nat.le_of_ble_eq_true rfl))) (Sim_argsCons (Sim_CallName (Sim_Global (g_Circuit _) (by rfl)) (CallOk.K (kp_224 _)) Sim_argsNil TreesOk.nil (SimC_new (f_Circuit_init__ _ _ _ _) (Nat.le_of_ble_eq_true rfl) (Nat.le_of_ble_eq_true rfl) (mk_224 _) (mf_Circuit_init _) (ty_132 _) (Nat.le_of_ble_eq_true rfl) (Nat.le_of_ble_eq_true rfl) (Nat.le_of_ble_eq_true rfl))) Sim_argsNil)) (.cons (SimSts.name (Sim_storeLocal (by rfl) (by rfl))) (.cons (SimSts.name (Sim_storeCell (by rfl) (by rfl) (by rfl))) .nil)))
  (Sim_cons (Sim_If (Sim_testNot (Sim_truth (Sim_CallName (Sim_Global (g__law_is_plain_right _) (by rfl)) (CallOk.K (kp_247 _)) (Sim_argsCons (Sim_Name (Sim_loadLocal (by rfl) (by rfl))) Sim_argsNil) (TreesOk.cons TreesOk.nil) (SimC_fn (f__law_is_plain_right _ _ _ _) (Nat.le_of_ble_eq_true rfl) (Nat.le_of_ble_eq_true rfl))))) (Sim_cons (Sim_Return Sim_Const_bool)
  Sim_nil) Sim_nil)
  (Sim_cons (Sim_CompAssign none trivial (Sim_CallName (Sim_Builtin (g_range _) (by decide +kernel) (by decide) (by rfl)) CallOk.type (Sim_argsCons (Sim_BinOp Sim_Const_int (Sim_CallName (Sim_Global (g__law_draw _) (by rfl)) (CallOk.K (kp_235 _)) (Sim_argsCons (Sim_Name (Sim_loadLocal (by rfl) (by rfl))) (Sim_argsCons Sim_Const_int Sim_argsNil)) (TreesOk.cons (TreesOk.cons TreesOk.nil)) (SimC_fn (f__law_draw _ _ _ _) (Nat.le_of_ble_eq_true rfl) (Nat.le_of_ble_eq_true rfl))) (vAdd_K trivial)) Sim_argsNil) (TreesOk.cons TreesOk.nil) bRange_C) (by rfl) (by rfl) (fun _ => SimT.nil) (fun _ => (Sim_CallMeth _ (Sim_Name (Sim_loadCell (by rfl) (by rfl) (by rfl))) Sim_argsNil TreesOk.nil (MethAt.inst (pg_Circuit_new_input _) (mf_Circuit_new_input _) (fn_167 _)) (CallOk.K (kp_167 _)) (SimC_fn (f_Circuit_new_input _ _ _ _) (Nat.le_of_ble_eq_true rfl) (Nat.le_of_ble_eq_true rfl)))) (Sim_storeLocal (by rfl) (by rfl)))
  (Sim_cons (Sim_Assign (Sim_CallName (Sim_Builtin (g_list _) (by decide +kernel) (by decide) (by rfl)) CallOk.type (Sim_argsCons (Sim_Name (Sim_loadLocal (by rfl) (by rfl))) Sim_argsNil) (TreesOk.cons TreesOk.nil) (bList_C ⟨(Nat.le_of_ble_eq_true rfl), .inr (Nat.le_of_ble_eq_true rfl)⟩)) (Sim_storeLocal (by rfl) (by rfl)))
  (Sim_cons (Sim_For (Sim_CallName (Sim_Builtin (g_range _) (by decide +kernel) (by decide) (by rfl)) CallOk.type (Sim_argsCons (Sim_BinOp Sim_Const_int (Sim_CallName (Sim_Global (g__law_draw _) (by rfl)) (CallOk.K (kp_235 _)) (Sim_argsCons (Sim_Name (Sim_loadLocal (by rfl) (by rfl))) (Sim_argsCons Sim_Const_int Sim_argsNil)) (TreesOk.cons (TreesOk.cons TreesOk.nil)) (SimC_fn (f__law_draw _ _ _ _) (Nat.le_of_ble_eq_true rfl) (Nat.le_of_ble_eq_true rfl))) (vAdd_K trivial)) Sim_argsNil) (TreesOk.cons TreesOk.nil) bRange_C) (SimA.name (Sim_storeLocal (by rfl) (by rfl))) (Sim_cons (Sim_Expr (Sim_CallMeth _ (Sim_Name (Sim_loadLocal (by rfl) (by rfl))) (Sim_argsCons (Sim_CallName (Sim_Global (g__law_gate _) (by rfl)) (CallOk.K (kp_254 _)) (Sim_argsCons (Sim_Name (Sim_loadLocal (by rfl) (by rfl))) (Sim_argsCons (Sim_Name (Sim_loadCell (by rfl) (by rfl) (by rfl))) (Sim_argsCons (Sim_Name (Sim_loadLocal (by rfl) (by rfl))) Sim_argsNil))) (TreesOk.cons (TreesOk.cons (TreesOk.cons TreesOk.nil))) (SimC_fn (f__law_gate _ _ _ _) (Nat.le_of_ble_eq_true rfl) (Nat.le_of_ble_eq_true rfl))) Sim_argsNil) (TreesOk.cons TreesOk.nil) (MethAt.list PySem.F.slot_list_append PySem.F.type_list_append) CallOk.builtin mApp_C))
  Sim_nil))
  (Sim_cons (Sim_Assign (Sim_IfExp (Sim_testCompare (Sim_CallName (Sim_Global (g__law_draw _) (by rfl)) (CallOk.K (kp_235 _)) (Sim_argsCons (Sim_Name (Sim_loadLocal (by rfl) (by rfl))) (Sim_argsCons Sim_Const_int Sim_argsNil)) (TreesOk.cons (TreesOk.cons TreesOk.nil)) (SimC_fn (f__law_draw _ _ _ _) (Nat.le_of_ble_eq_true rfl) (Nat.le_of_ble_eq_true rfl))) Sim_Const_int vEq_K) (Sim_Subscript (Sim_Name (Sim_loadLocal (by rfl) (by rfl))) (Sim_UnaryOp Sim_Const_int vNeg_K)) (Sim_UnaryOp (Sim_Subscript (Sim_Name (Sim_loadLocal (by rfl) (by rfl))) (Sim_UnaryOp Sim_Const_int vNeg_K)) vNeg_K)) (Sim_storeLocal (by rfl) (by rfl)))
  (Sim_cons (Sim_Assign (Sim_CallName (Sim_Global (g_Clauses _) (by rfl)) (CallOk.K (kp_114 _)) (Sim_argsCons (Sim_Name (Sim_loadCell (by rfl) (by rfl) (by rfl))) (Sim_argsCons (Sim_CallName (Sim_Global (g__law_draw _) (by rfl)) (CallOk.K (kp_235 _)) (Sim_argsCons (Sim_Name (Sim_loadLocal (by rfl) (by rfl))) (Sim_argsCons Sim_Const_int Sim_argsNil)) (TreesOk.cons (TreesOk.cons TreesOk.nil)) (SimC_fn (f__law_draw _ _ _ _) (Nat.le_of_ble_eq_true rfl) (Nat.le_of_ble_eq_true rfl))) Sim_argsNil)) (TreesOk.cons (TreesOk.cons TreesOk.nil)) (SimC_new (f_Clauses_init__ _ _ _ _) (Nat.le_of_ble_eq_true rfl) (Nat.le_of_ble_eq_true rfl) (mk_114 _) (mf_Clauses_init _) (ty_50 _) (Nat.le_of_ble_eq_true rfl) (Nat.le_of_ble_eq_true rfl) (Nat.le_of_ble_eq_true rfl))) (Sim_storeLocal (by rfl) (by rfl)))
  (Sim_cons (Sim_Assign (Sim_CallMeth _ (Sim_Name (Sim_loadLocal (by rfl) (by rfl))) (Sim_argsCons (Sim_Name (Sim_loadLocal (by rfl) (by rfl))) Sim_argsNil) (TreesOk.cons TreesOk.nil) (MethAt.inst (pg_Clauses_literal_of _) (mf_Clauses_literal_of _) (fn_104 _)) (CallOk.K (kp_104 _)) (SimC_fn (f_Clauses_literal_of _ _ _ _) (Nat.le_of_ble_eq_true rfl) (Nat.le_of_ble_eq_true rfl))) (Sim_storeLocal (by rfl) (by rfl)))
  (Sim_cons (Sim_Assign (Sim_BinOp (Sim_List none (Sim_argsCons (Sim_Tuple (Sim_argsCons (Sim_Name (Sim_loadLocal (by rfl) (by rfl))) Sim_argsNil)) Sim_argsNil) trivial) (Sim_CallName (Sim_Builtin (g_list _) (by decide +kernel) (by decide) (by rfl)) CallOk.type (Sim_argsCons (Sim_Attr (at_Clauses_clauses _ _ _ _) (Sim_Name (Sim_loadLocal (by rfl) (by rfl)))) Sim_argsNil) (TreesOk.cons TreesOk.nil) (bList_C trivial)) (vAdd_K trivial)) (Sim_storeLocal (by rfl) (by rfl)))
  (Sim_cons (Sim_For (Sim_Name (Sim_loadLocal (by rfl) (by rfl))) (SimA.name (Sim_storeLocal (by rfl) (by rfl))) (Sim_cons (Sim_If (Sim_testBool (Sim_orCons (Sim_testCompare (Sim_CallName (Sim_Global (g__law_due _) (by rfl)) (CallOk.K (kp_240 _)) (Sim_argsCons (Sim_CallName (Sim_Builtin (g_list _) (by decide +kernel) (by decide) (by rfl)) CallOk.type (Sim_argsCons (Sim_Name (Sim_loadLocal (by rfl) (by rfl))) Sim_argsNil) (TreesOk.cons TreesOk.nil) (bList_C trivial)) Sim_argsNil) (TreesOk.cons TreesOk.nil) (SimC_fn (f__law_due _ _ _ _) (Nat.le_of_ble_eq_true rfl) (Nat.le_of_ble_eq_true rfl))) (Sim_Name (Sim_loadLocal (by rfl) (by rfl))) vNe_K) (Sim_orCons (Sim_testCompare (Sim_CallName (Sim_Global (g_clause_of _) (by rfl)) (CallOk.K (kp_28 _)) (Sim_argsCons (Sim_BinOp (Sim_Back none trivial (Sim_CallName (Sim_Builtin (g_list _) (by decide +kernel) (by decide) (by rfl)) CallOk.type (Sim_argsCons (Sim_Name (Sim_loadLocal (by rfl) (by rfl))) Sim_argsNil) (TreesOk.cons TreesOk.nil) (bList_C trivial)) (Sim_UnaryOp Sim_Const_int vNeg_K)) (Sim_CallName (Sim_Builtin (g_list _) (by decide +kernel) (by decide) (by rfl)) CallOk.type (Sim_argsCons (Sim_Name (Sim_loadLocal (by rfl) (by rfl))) Sim_argsNil) (TreesOk.cons TreesOk.nil) (bList_C trivial)) (vAdd_K trivial)) Sim_argsNil) (TreesOk.cons TreesOk.nil) (SimC_fn (f_clause_of _ _ _ _) (Nat.le_of_ble_eq_true rfl) (Nat.le_of_ble_eq_true rfl))) (Sim_Name (Sim_loadLocal (by rfl) (by rfl))) vNe_K) Sim_orNil))) (Sim_cons (Sim_Return Sim_Const_bool)
  Sim_nil) Sim_nil)
  Sim_nil))
  (Sim_cons (Sim_Assign (Sim_CallName (Sim_Builtin (g_list _) (by decide +kernel) (by decide) (by rfl)) CallOk.type (Sim_argsCons (Sim_CallName (Sim_Builtin (g_range _) (by decide +kernel) (by decide) (by rfl)) CallOk.type (Sim_argsCons Sim_Const_int (Sim_argsCons (Sim_BinOp (Sim_CallMeth _ (Sim_Name (Sim_loadLocal (by rfl) (by rfl))) Sim_argsNil TreesOk.nil (MethAt.inst (pg_Clauses_many _) (mf_Clauses_many _) (fn_57 _)) (CallOk.K (kp_57 _)) (SimC_fn (f_Clauses_many _ _ _ _) (Nat.le_of_ble_eq_true rfl) (Nat.le_of_ble_eq_true rfl))) Sim_Const_int (vAdd_K trivial)) Sim_argsNil)) (TreesOk.cons (TreesOk.cons TreesOk.nil)) bRange_C) Sim_argsNil) (TreesOk.cons TreesOk.nil) (bList_C trivial)) (Sim_storeLocal (by rfl) (by rfl)))
  (Sim_cons (Sim_For (Sim_IfExp (Sim_testCompare (Sim_CallName (Sim_Global (g__law_draw _) (by rfl)) (CallOk.K (kp_235 _)) (Sim_argsCons (Sim_Name (Sim_loadLocal (by rfl) (by rfl))) (Sim_argsCons Sim_Const_int Sim_argsNil)) (TreesOk.cons (TreesOk.cons TreesOk.nil)) (SimC_fn (f__law_draw _ _ _ _) (Nat.le_of_ble_eq_true rfl) (Nat.le_of_ble_eq_true rfl))) Sim_Const_int vEq_K) (Sim_Name (Sim_loadLocal (by rfl) (by rfl))) (Sim_Back none trivial (Sim_Name (Sim_loadLocal (by rfl) (by rfl))) (Sim_UnaryOp Sim_Const_int vNeg_K))) (SimA.name (Sim_storeLocal (by rfl) (by rfl))) (Sim_cons (Sim_Assign (Sim_CallName (Sim_Global (g__law_taken_out _) (by rfl)) (CallOk.K (kp_264 _)) (Sim_argsCons (Sim_Name (Sim_loadLocal (by rfl) (by rfl))) (Sim_argsCons (Sim_Name (Sim_loadLocal (by rfl) (by rfl))) Sim_argsNil)) (TreesOk.cons (TreesOk.cons TreesOk.nil)) (SimC_fn (f__law_taken_out _ _ _ _) (Nat.le_of_ble_eq_true rfl) (Nat.le_of_ble_eq_true rfl))) (Sim_storeLocal (by rfl) (by rfl)))
  Sim_nil))
  (Sim_cons (Sim_Return (Sim_Compare (Sim_Compare (Sim_Tuple Sim_argsNil) (Sim_Name (Sim_loadLocal (by rfl) (by rfl))) vNotIn_K) (Sim_CallName (Sim_Global (g__law_can_hold _) (by rfl)) (CallOk.K (kp_259 _)) (Sim_argsCons (Sim_Name (Sim_loadCell (by rfl) (by rfl) (by rfl))) (Sim_argsCons (Sim_Name (Sim_loadLocal (by rfl) (by rfl))) (Sim_argsCons (Sim_Name (Sim_loadLocal (by rfl) (by rfl))) Sim_argsNil))) (TreesOk.cons (TreesOk.cons (TreesOk.cons TreesOk.nil))) (SimC_fn (f__law_can_hold _ _ _ _) (Nat.le_of_ble_eq_true rfl) (Nat.le_of_ble_eq_true rfl))) vEq_K))
  Sim_nil)))))))))))))
end L04
end Lay
end

section
open PySem PySem.W PyProof.Rows
set_option Elab.async false
set_option maxRecDepth 100000
set_option maxHeartbeats 8000000
namespace Lay.L04
theorem post_ok (args ds : List WData) : Challenge.rw_rr0081_04.row.claim.post args (.bool true) ds = true := by
  unfold RowW.claim
  dsimp only
  simp only [Challenge.rw_rr0081_04, OpenLaw.row]
  rw [Bool.and_eq_true]
  refine ⟨by first | rfl | simp [WShape.has], ?_⟩
  unfold WTm.holds
  simp only [WTm.value]
  have e : same (WData.bool true) (WData.bool true) = true := by decide +kernel
  rw [e]
end Lay.L04
theorem PySem.Challenge.cw_rr0081_04_holds : PySem.Challenge.rw_rr0081_04.Holds := by
  refine Lay.hd04 ?_
  k_fill
  intro w s₀ s₁ mg mb G Y fa o pm cd doc dV kV ho hd hcd hD hmg hg args vals as hpre hlay hrd hwl hlo
  have KX := kIn_of Y
  refine Ground.open G ?_
  intro T B D TE TW
  have hfa : fa = 269 := by
    have h1 := mg_of (n := Str.ofString "law") (v := .ref 269) KX T.g (by rfl)
    have h2 : some (Value.ref 269) = some (Value.ref fa) := h1.symm.trans hmg
    injection h2 with h3
    injection h3 with h4
    exact h4.symm
  subst hfa
  have hlo2 := hlo
  wrow_args hpre hlay hrd hwl hlo
  rename_i a vs as2 hL ra w1 r0 hI hr hc1 hc2
  cases w1 with | list ha hw =>
  rename_i vs2
  have hvs : vs = vs2 := by
    obtain ⟨o, ho, _, n, hd⟩ := hL
    rw [ha] at ho
    cases ho
    injection hd with e1 e2
    have := congrArg Array.toList e1
    simpa using this.symm
  subst hvs
  have hsys : a ≠ sysModules := by
    cases r0 with | list _ _ _ _ => have := hlo2 a (by simp); simpa using this
  refine Lay.law_end (W := Lay.L04.Wd04 w (looseW Lay.view04 []) mg mb) (Lay.L04.f_law w _ mg mb) ⟨by decide +kernel, by decide +kernel, rfl⟩ ⟨KX, topRead_of T⟩ ha hsys hI (Lay.L04.run_law _ (by (first | lia | omega))) fun h' tk keep => ?_
  refine GoodW.toG ⟨.inl ⟨.bool true, .bool true, [], rfl, fun cls => by rfl, ReadsW.bool _, Lay.L04.post_ok _ _, fun _ => ⟨List.nodup_nil, nofun⟩⟩, keep, rfl, hg⟩
end
