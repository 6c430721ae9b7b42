import PyProof.Rows.All
import Wide.All
import OpenK.AllK
import Wide.FinOn
import HandS.ForMost
import HandS.SortInts
import HandS.IsInst
import HandS.WideBits
import HandS.Deep
import HandS.Zip
import KE.KDictKeyed
import HandS.TupAny
import KE.SortData
import KE.KDictSum
import KE.KDictPairs
import HandS.Style
import HandS.TupMul
import PySem.Challenge.RW_leaveledger_k51_reasons_judged
import KE.BitLaws
import KE.KEqDeep
set_option Elab.async false
set_option linter.all false
set_option maxRecDepth 100000
set_option maxHeartbeats 8000000
/-! DL1: data as trees over the layer: a tuple is a value, the mutable things stand in a map W. -/
namespace DL
open PySem PySem.Spec L2
open PyProof.Rows hiding St

/-- a value as data: tuples are trees; a mutable thing, a def, a class by its address -/
inductive D where
  | non | bl (b : Bool) | int (i : Int) | str (x : Str) | tup (ds : List D) | ref (a : Addr) | ty (n : String)
instance : Inhabited D := ⟨.non⟩
abbrev Frag := PySem.W.Frag
/-- a tuple, its object known -/
def TupF (H : Hp) (a : Addr) (xs : List V) : Prop := ∃ o, H a = some (.frz o (.tup xs)) ∧ o.dict = none
mutual
def Im (K : Frag) (H : Hp) : D → V → Prop
 | .non, v => v = .non
 | .bl b, v => v = .bl b
 | .int i, v => v = .int i
 | .str x, v => v = .str x
 | .ref a, v => v = .ref a
 | .ty n, v => v = .ty n
 | .tup ds, v => ∃ a xs, v = .ref a ∧ TupF H a xs ∧ ImL K H ds xs
def ImL (K : Frag) (H : Hp) : List D → List V → Prop
 | [], xs => xs = []
 | d :: ds, xs => ∃ v vs, xs = v :: vs ∧ Im K H d v ∧ ImL K H ds vs
end
/-- all tuples stay -/
def Tp (H H' : Hp) : Prop := ∀ b o xs, H b = some (.frz o (.tup xs)) → H' b = some (.frz o (.tup xs))
theorem Tp.refl (H : Hp) : Tp H H := fun _ _ _ h => h
theorem Tp.trans {H H1 H2 : Hp} (a : Tp H H1) (b : Tp H1 H2) : Tp H H2 := fun x o xs h => b x o xs (a x o xs h)
theorem Tp.new {H : Hp} {p : Addr} {o : HO} (h : H p = none) : Tp H (upd H p o) := fun b u xs e => by
  rw [upd_ne (ne_of_none e h)]; exact e
theorem Tp.mut {H : Hp} {p : Addr} {u o : HO} (h : H p = some u) (ht : ∀ o xs, u ≠ .frz o (.tup xs)) : Tp H (upd H p o) := fun b v xs e => by
  have n : b ≠ p := fun z => by subst z; rw [h] at e; exact ht _ _ (Option.some.inj e)
  rw [upd_ne n]; exact e
theorem TupF.mono {H H' : Hp} {a : Addr} {xs : List V} (t : Tp H H') (h : TupF H a xs) : TupF H' a xs := let ⟨o, h1, h2⟩ := h; ⟨o, t _ _ _ h1, h2⟩
theorem TupF.sq {K : Frag} {H : Hp} {a : Addr} {xs : List V} (h : TupF H a xs) : SqT K H a xs := let ⟨o, h1, _⟩ := h; .inl (.inr ⟨o, h1⟩)
theorem TupF.new {H : Hp} {p : Addr} {o : Obj} {xs : List V} (h : o.dict = none) : TupF (upd H p (.frz o (.tup xs))) p xs := ⟨o, upd_same, h⟩
section
variable {K : Frag} {H H' : Hp}
mutual
theorem Im.mono (e : Tp H H') : ∀ {d : D} {v : V}, Im K H d v → Im K H' d v
  | .non, _, h => h
  | .bl _, _, h => h
  | .int _, _, h => h
  | .str _, _, h => h
  | .ref _, _, h => h
  | .ty _, _, h => h
  | .tup ds, v, h => by
    obtain ⟨a, xs, e1, h1, h2⟩ := h
    exact ⟨a, xs, e1, h1.mono e, ImL.mono e h2⟩
theorem ImL.mono (e : Tp H H') : ∀ {ds : List D} {xs : List V}, ImL K H ds xs → ImL K H' ds xs
  | [], _, h => h
  | d :: ds, xs, h => by
    obtain ⟨v, vs, e1, h1, h2⟩ := h
    exact ⟨v, vs, e1, Im.mono e h1, ImL.mono e h2⟩
end
theorem ImL.nil : ImL K H [] [] := rfl
theorem ImL.cons {d : D} {ds : List D} {v : V} {vs : List V} (h : Im K H d v) (t : ImL K H ds vs) : ImL K H (d :: ds) (v :: vs) := ⟨v, vs, rfl, h, t⟩
theorem ImL.nil' {xs : List V} (h : ImL K H [] xs) : xs = [] := h
theorem ImL.cons' {d : D} {ds : List D} {xs : List V} (h : ImL K H (d :: ds) xs) : ∃ v vs, xs = v :: vs ∧ Im K H d v ∧ ImL K H ds vs := h
theorem ImL.length : ∀ {ds : List D} {xs : List V}, ImL K H ds xs → ds.length = xs.length
  | [], _, h => by rw [ImL.nil' h]; rfl
  | d :: ds, xs, h => by
    obtain ⟨v, vs, rfl, _, t⟩ := ImL.cons' h
    rw [List.length_cons, List.length_cons, ImL.length t]
theorem ImL.get : ∀ {ds : List D} {xs : List V} {i : Nat} {d : D}, ImL K H ds xs → ds[i]? = some d → ∃ x, xs[i]? = some x ∧ Im K H d x
  | [], _, _, _, _, e => by simp at e
  | d :: ds, xs, 0, _, h, e => by
    obtain ⟨v, vs, rfl, h1, _⟩ := ImL.cons' h
    simp at e; subst e
    exact ⟨v, rfl, h1⟩
  | d :: ds, xs, i + 1, d', h, e => by
    obtain ⟨v, vs, rfl, _, t⟩ := ImL.cons' h
    obtain ⟨x, e1, e2⟩ := ImL.get (i := i) (d := d') t (by simpa using e)
    exact ⟨x, by simpa using e1, e2⟩
theorem ImL.get' {ds : List D} {xs : List V} {i : Nat} {x : V} (h : ImL K H ds xs) (e : xs[i]? = some x) : ∃ d, ds[i]? = some d ∧ Im K H d x := by
  obtain ⟨hi, _⟩ := List.getElem?_eq_some_iff.mp e
  have hd : i < ds.length := by rw [h.length]; exact hi
  obtain ⟨y, e1, e2⟩ := h.get (List.getElem?_eq_getElem hd)
  rw [e] at e1; cases e1
  exact ⟨_, List.getElem?_eq_getElem hd, e2⟩
theorem ImL.of : ∀ {ds : List D} {xs : List V}, ds.length = xs.length → (∀ (i : Nat) (d : D) (x : V), ds[i]? = some d → xs[i]? = some x → Im K H d x) → ImL K H ds xs
  | [], [], _, _ => rfl
  | [], _ :: _, e, _ => by simp at e
  | _ :: _, [], e, _ => by simp at e
  | d :: ds, x :: xs, e, f => ⟨x, xs, rfl, f 0 d x rfl rfl, ImL.of (by simpa using e) fun i d' x' h1 h2 => f (i + 1) d' x' (by simpa using h1) (by simpa using h2)⟩
theorem ImL.iff {ds : List D} {xs : List V} : ImL K H ds xs ↔ ds.length = xs.length ∧ ∀ (i : Nat) (d : D) (x : V), ds[i]? = some d → xs[i]? = some x → Im K H d x :=
  ⟨fun h => ⟨h.length, fun i d x e1 e2 => by
    obtain ⟨y, e3, q⟩ := h.get e1
    rw [e2] at e3; cases e3; exact q⟩, fun h => ImL.of h.1 h.2⟩
theorem ImL.append : ∀ {ds es : List D} {xs ys : List V}, ImL K H ds xs → ImL K H es ys → ImL K H (ds ++ es) (xs ++ ys)
  | [], _, _, _, h, t => by rw [ImL.nil' h]; exact t
  | d :: ds, es, xs, ys, h, t => by
    obtain ⟨v, vs, rfl, h1, h2⟩ := ImL.cons' h
    exact ImL.cons h1 (ImL.append h2 t)
theorem ImL.snoc {ds : List D} {xs : List V} {d : D} {v : V} (h : ImL K H ds xs) (q : Im K H d v) : ImL K H (ds ++ [d]) (xs ++ [v]) := h.append (ImL.cons q ImL.nil)
theorem ImL.take {ds : List D} {xs : List V} (n : Nat) (h : ImL K H ds xs) : ImL K H (ds.take n) (xs.take n) := by
  obtain ⟨h1, h2⟩ := ImL.iff.mp h
  refine ImL.of (by simp [h1]) fun i d x e1 e2 => ?_
  rw [List.getElem?_take] at e1 e2
  split at e1
  · rename_i hlt; rw [if_pos hlt] at e2; exact h2 i d x e1 e2
  · cases e1
theorem ImL.drop {ds : List D} {xs : List V} (n : Nat) (h : ImL K H ds xs) : ImL K H (ds.drop n) (xs.drop n) := by
  obtain ⟨h1, h2⟩ := ImL.iff.mp h
  refine ImL.of (by simp [h1]) fun i d x e1 e2 => ?_
  rw [List.getElem?_drop] at e1 e2
  exact h2 _ d x e1 e2
theorem ImL.set {ds : List D} {xs : List V} {d : D} {v : V} (i : Nat) (h : ImL K H ds xs) (q : Im K H d v) : ImL K H (ds.set i d) (xs.set i v) := by
  obtain ⟨h1, h2⟩ := ImL.iff.mp h
  refine ImL.of (by simp [h1]) fun j e x e1 e2 => ?_
  by_cases hj : i = j
  · subst hj
    obtain ⟨hl, _⟩ := List.getElem?_eq_some_iff.mp e1
    rw [List.length_set] at hl
    rw [List.getElem?_set_self hl] at e1
    rw [List.getElem?_set_self (by rw [← h1]; exact hl)] at e2
    cases e1; cases e2; exact q
  · rw [List.getElem?_set_ne hj] at e1 e2
    exact h2 j e x e1 e2
theorem ImL.dropLast {ds : List D} {xs : List V} (h : ImL K H ds xs) : ImL K H ds.dropLast xs.dropLast := by
  rw [List.dropLast_eq_take, List.dropLast_eq_take, h.length]
  exact h.take _
theorem ImL.eraseIdx {ds : List D} {xs : List V} (i : Nat) (h : ImL K H ds xs) : ImL K H (ds.eraseIdx i) (xs.eraseIdx i) := by
  rw [List.eraseIdx_eq_take_drop_succ, List.eraseIdx_eq_take_drop_succ]
  exact (h.take _).append (h.drop _)
theorem ImL.reverse : ∀ {ds : List D} {xs : List V}, ImL K H ds xs → ImL K H ds.reverse xs.reverse
  | [], _, h => by rw [ImL.nil' h]; exact ImL.nil
  | d :: ds, xs, h => by
    obtain ⟨v, vs, rfl, h1, h2⟩ := ImL.cons' h
    rw [List.reverse_cons, List.reverse_cons]
    exact (ImL.reverse h2).snoc h1
/-- the scalar ones, all alike -/
theorem ImL.ints : ∀ (ns : List Int), ImL K H (ns.map D.int) (ns.map V.int)
  | [] => rfl
  | n :: ns => ImL.cons rfl (ImL.ints ns)
theorem ImL.ints' : ∀ {ns : List Int} {xs : List V}, ImL K H (ns.map D.int) xs → xs = ns.map V.int
  | [], _, h => h
  | n :: ns, xs, h => by
    obtain ⟨v, vs, rfl, h1, h2⟩ := ImL.cons' h
    have h1 : v = .int n := h1
    rw [h1, ImL.ints' h2]; rfl
theorem ImL.bls' : ∀ {ns : List Bool} {xs : List V}, ImL K H (ns.map D.bl) xs → xs = ns.map V.bl
  | [], _, h => h
  | n :: ns, xs, h => by
    obtain ⟨v, vs, rfl, h1, h2⟩ := ImL.cons' h
    have h1 : v = .bl n := h1
    rw [h1, ImL.bls' h2]; rfl
theorem ImL.strs' : ∀ {ns : List Str} {xs : List V}, ImL K H (ns.map D.str) xs → xs = ns.map V.str
  | [], _, h => h
  | n :: ns, xs, h => by
    obtain ⟨v, vs, rfl, h1, h2⟩ := ImL.cons' h
    have h1 : v = .str n := h1
    rw [h1, ImL.strs' h2]; rfl
end

/-! ### the mutable things -/
inductive MO where
  | lst (ds : List D)
  | ro (ds : List D)
  | dk (kvs : List (Key × D))
  | dn (w : World) (kvs : List (NestedKey × D × D))
  | ins (C dx : Addr) (fs : List (Str × D))
  | raw (o : HO)
def KVm {κ : Type} (K : Frag) (H : Hp) : List (κ × D) → List (κ × V) → Prop := Paired fun p q => p.1 = q.1 ∧ Im K H p.2 q.2
/-- a dict whose keys are tuples, at any depth: its entries are xs -/
def DnObj (w : World) (a : Addr) (xs : List (NestedKey × Addr × Value)) : Heap → Prop := fun h => xs.length ≤ sizeLine ∧ (a == sysModules) = false ∧ ∃ o es ep, h.get? a = some o ∧ o.ExactDict ∧ o.data = .dict es ep ∧ es.toList = xs.map (fun x => (⟨x.1.hash w, .ref x.2.1, x.2.2⟩ : DictEntry)) ∧ (xs.map (·.1)).Nodup
/-- the data a key tells -/
def DnM (K : Frag) (H : Hp) : List (NestedKey × D × D) → List (NestedKey × Addr × Value) → Prop := Paired fun p q => p.1 = q.1 ∧ Im K H p.2.1 (.ref q.2.1) ∧ ∃ v, L2.RelV v q.2.2 ∧ Im K H p.2.2 v
theorem DnM.mono {K : Frag} {H H' : Hp} (e : Tp H H') {kvs : List (NestedKey × D × D)} {xs : List (NestedKey × Addr × Value)} (h : DnM K H kvs xs) : DnM K H' kvs xs := Paired.mapP h fun _ _ q => ⟨q.1, q.2.1.mono e, let ⟨v, a, b⟩ := q.2.2; ⟨v, a, b.mono e⟩⟩
def Mt (K : Frag) (H : Hp) (a : Addr) : MO → Prop
  | .lst ds => ∃ xs, H a = some (.lst xs) ∧ ImL K H ds xs
  | .ro ds => ∃ xs, Rd H a (.lst xs) ∧ ImL K H ds xs
  | .dk kvs => ∃ vs, H a = some (.dK vs) ∧ KVm K H kvs vs
  | .dn w kvs => ∃ xs, H a = some (.ext (DnObj w a xs)) ∧ DnM K H kvs xs
  | .ins C dx fs => ∃ vs, H a = some (.ins C dx vs) ∧ KVm K H fs vs
  | .raw o => H a = some o
abbrev Wd := Addr → Option MO
def wset (W : Wd) (a : Addr) (m : MO) : Wd := fun b => if b = a then some m else W b
theorem wset_same {W : Wd} {a : Addr} {m : MO} : wset W a m a = some m := if_pos rfl
theorem wset_ne {W : Wd} {a b : Addr} {m : MO} (h : b ≠ a) : wset W a m b = W b := if_neg h
theorem wset_wset {W : Wd} {a : Addr} {m n : MO} : wset (wset W a m) a n = wset W a n := by
  funext b; unfold wset; split <;> rfl
theorem wset_comm {W : Wd} {a b : Addr} {m n : MO} (h : a ≠ b) : wset (wset W a m) b n = wset (wset W b n) a m := by
  funext c; unfold wset
  by_cases h1 : c = a
  · subst h1; rw [if_neg h, if_pos rfl, if_pos rfl]
  · rw [if_neg h1, if_neg h1]
theorem wset_id {W : Wd} {a : Addr} {m : MO} (h : W a = some m) : wset W a m = W := by
  funext c; unfold wset
  by_cases h1 : c = a
  · subst h1; rw [if_pos rfl, h]
  · rw [if_neg h1]
/-- W is part of W' -/
def Sub (W W' : Wd) : Prop := ∀ a m, W a = some m → W' a = some m
theorem Sub.refl (W : Wd) : Sub W W := fun _ _ h => h
theorem Sub.trans {W W1 W2 : Wd} (a : Sub W W1) (b : Sub W1 W2) : Sub W W2 := fun x m h => b x m (a x m h)
theorem Sub.new {W : Wd} {a : Addr} {m : MO} (h : W a = none) : Sub W (wset W a m) := fun b n e => by
  rw [wset_ne (fun z => by subst z; rw [h] at e; cases e)]; exact e
theorem Sub.set {W W' : Wd} {a : Addr} {m : MO} (h : W a = none) (s : Sub W W') : Sub W (wset W' a m) := fun b n e => by
  rw [wset_ne (fun z => by subst z; rw [h] at e; cases e)]; exact s b n e
theorem Sub.wset {W W' : Wd} {a : Addr} {m : MO} (s : Sub W W') : Sub (wset W a m) (DL.wset W' a m) := fun b n e => by
  by_cases h : b = a
  · subst h; rw [wset_same] at e ⊢; exact e
  · rw [wset_ne h] at e ⊢; exact s b n e
theorem Sub.free {W W' : Wd} (s : Sub W W') {a : Addr} (h : W' a = none) : W a = none := by
  cases e : W a with
  | none => rfl
  | some m => rw [s a m e] at h; cases h

def Ref (K : Frag) (H : Hp) (W : Wd) : Prop := ∀ a m, W a = some m → Mt K H a m
section
variable {K : Frag} {H H' : Hp} {W W' : Wd} {a p : Addr} {m : MO}
theorem KVm.mono {κ : Type} (e : Tp H H') {kvs : List (κ × D)} {vs : List (κ × V)} (h : KVm K H kvs vs) : KVm K H' kvs vs := Paired.mapP h fun _ _ q => ⟨q.1, q.2.mono e⟩
theorem Mt.mono (e : Tp H H') (he : H' a = H a) (h : Mt K H a m) : Mt K H' a m := by
  cases m with
  | lst ds => obtain ⟨xs, h1, h2⟩ := h; exact ⟨xs, by rw [he]; exact h1, h2.mono e⟩
  | ro ds =>
    obtain ⟨xs, h1, h2⟩ := h
    refine ⟨xs, ?_, h2.mono e⟩
    rcases h1 with h1 | ⟨o, h1⟩
    · exact .inl (by rw [he]; exact h1)
    · exact .inr ⟨o, by rw [he]; exact h1⟩
  | dk kvs => obtain ⟨xs, h1, h2⟩ := h; exact ⟨xs, by rw [he]; exact h1, h2.mono e⟩
  | dn w kvs => obtain ⟨xs, h1, h2⟩ := h; exact ⟨xs, by rw [he]; exact h1, h2.mono e⟩
  | ins C dx fs => obtain ⟨xs, h1, h2⟩ := h; exact ⟨xs, by rw [he]; exact h1, h2.mono e⟩
  | raw o => exact he.trans h
theorem Mt.some (h : Mt K H a m) : ∃ o, H a = some o := by
  cases m with
  | lst ds => obtain ⟨xs, h1, _⟩ := h; exact ⟨_, h1⟩
  | ro ds => obtain ⟨xs, h1 | ⟨o, h1⟩, _⟩ := h <;> exact ⟨_, h1⟩
  | dk kvs => obtain ⟨xs, h1, _⟩ := h; exact ⟨_, h1⟩
  | dn w kvs => obtain ⟨xs, h1, _⟩ := h; exact ⟨_, h1⟩
  | ins C dx fs => obtain ⟨xs, h1, _⟩ := h; exact ⟨_, h1⟩
  | raw o => exact ⟨o, h⟩
theorem Ref.free (r : Ref K H W) (h : H p = none) : W p = none := by
  cases e : W p with
  | none => rfl
  | some m =>
    obtain ⟨o, q⟩ := (r p m e).some
    rw [h] at q; cases q
theorem Ref.sub (r : Ref K H W') (s : Sub W W') : Ref K H W := fun a m e => r a m (s a m e)
theorem Ref.new {o : HO} (r : Ref K H W) (h : H p = none) : Ref K (upd H p o) W := fun a m e => by
  obtain ⟨u, q⟩ := (r a m e).some
  exact (r a m e).mono (Tp.new h) (upd_ne (ne_of_none q h))
theorem Ref.laid {o : HO} (r : Ref K H W) (h : H p = none) (q : Mt K (upd H p o) p m) : Ref K (upd H p o) (wset W p m) := fun a n e => by
  by_cases ha : a = p
  · subst ha; rw [wset_same] at e; cases e; exact q
  · rw [wset_ne ha] at e; exact (r.new h) a n e
theorem Ref.mut {o : HO} (r : Ref K H W) (t : Tp H (upd H p o)) (q : Mt K (upd H p o) p m) : Ref K (upd H p o) (wset W p m) := fun a n e => by
  by_cases ha : a = p
  · subst ha; rw [wset_same] at e; cases e; exact q
  · rw [wset_ne ha] at e; exact (r a n e).mono t (upd_ne ha)
theorem tp_lst {xs ys : List V} (h : H a = some (.lst xs)) : Tp H (upd H a (.lst ys)) := Tp.mut h fun _ _ z => nomatch z
theorem Ref.setL {xs ys : List V} {ds : List D} (r : Ref K H W) (h : H a = some (.lst xs)) (q : ImL K H ds ys) : Ref K (upd H a (.lst ys)) (wset W a (.lst ds)) :=
  r.mut (tp_lst h) ⟨ys, upd_same, q.mono (tp_lst h)⟩
end

/-! ### the slots -/
abbrev DSt := List (Option D)
def Sl (K : Frag) (σ : St) (ρ : DSt) (H : Hp) : Prop := σ.length = ρ.length ∧ ∀ (i : Nat) (d : D), ρ[i]? = some (some d) → ∃ v, σ[i]? = some (some v) ∧ Im K H d v
structure Env (K : Frag) (σ : St) (ρ : DSt) (H : Hp) (W : Wd) : Prop where
  sl : Sl K σ ρ H
  rf : Ref K H W
section
variable {K : Frag} {H H' : Hp} {W W' : Wd} {σ : St} {ρ : DSt} {d : D} {v : V}
theorem Sl.mono (e : Tp H H') (h : Sl K σ ρ H) : Sl K σ ρ H' := ⟨h.1, fun i d q => by
  obtain ⟨v, h1, h2⟩ := h.2 i d q
  exact ⟨v, h1, h2.mono e⟩⟩
theorem Sl.set (i : Nat) (h : Sl K σ ρ H) (q : Im K H d v) : Sl K (σ.set i (some v)) (ρ.set i (some d)) H := by
  refine ⟨by simp [h.1], fun j e hj => ?_⟩
  by_cases z : i = j
  · subst z
    obtain ⟨hl, _⟩ := List.getElem?_eq_some_iff.mp hj
    rw [List.length_set] at hl
    rw [List.getElem?_set_self hl] at hj
    cases hj
    exact ⟨v, List.getElem?_set_self (by rw [h.1]; exact hl), q⟩
  · rw [List.getElem?_set_ne z] at hj ⊢
    exact h.2 j e hj
theorem Env.to (E : Env K σ ρ H W) (t : Tp H H') (r : Ref K H' W') : Env K σ ρ H' W' := ⟨E.sl.mono t, r⟩
def wipeD (ρ : DSt) : List Nat → DSt
  | [] => ρ
  | v :: vs => (wipeD ρ vs).set v none
theorem wipeD_length (ρ : DSt) : ∀ vs : List Nat, (wipeD ρ vs).length = ρ.length
  | [] => rfl
  | v :: vs => by unfold wipeD; rw [List.length_set, wipeD_length ρ vs]
theorem Sl.clear (i : Nat) (h : Sl K σ ρ H) : Sl K (σ.set i none) (ρ.set i none) H := by
  refine ⟨by simp [h.1], fun j e hj => ?_⟩
  by_cases z : i = j
  · subst z
    obtain ⟨hl, _⟩ := List.getElem?_eq_some_iff.mp hj
    rw [List.length_set] at hl
    rw [List.getElem?_set_self hl] at hj
    cases hj
  · rw [List.getElem?_set_ne z] at hj ⊢
    exact h.2 j e hj
theorem Sl.wipe (h : Sl K σ ρ H) : ∀ vs, Sl K (wipe σ vs) (wipeD ρ vs) H
  | [] => h
  | v :: vs => (Sl.wipe h vs).clear v
end
end DL

/-! DL2: readings over data; expressions. -/
namespace DL
open PySem PySem.Spec L2
open PyProof.Rows hiding St

abbrev DQ := D → Wd → Prop
abbrev TED := DSt → Wd → DQ → Prop
abbrev TTD := DSt → Wd → (Bool → Wd → Prop) → Prop
abbrev TAD := DSt → Wd → (List D → Wd → Prop) → Prop
structure EndsD where
  nx : DSt → Wd → Prop
  rt : DQ
  bk : DSt → Wd → Prop := fun _ _ => False
  ct : DSt → Wd → Prop := fun _ _ => False
abbrev TSD := EndsD → DSt → Wd → Prop

/-- what a reading over data asks of what follows -/
def Low (K : Frag) (H : Hp) (Qd : DQ) (Q : VK) : Prop := ∀ d W' v H', Qd d W' → Tp H H' → Ref K H' W' → Im K H' d v → Q v H'
def lowE (K : Frag) (t : TED) : TE := fun σ H Q => ∃ ρ W Qd, Env K σ ρ H W ∧ t ρ W Qd ∧ Low K H Qd Q
def lowT (K : Frag) (t : TTD) : TT := fun σ H Q => ∃ ρ W Qd, Env K σ ρ H W ∧ t ρ W Qd ∧ ∀ b W' H', Qd b W' → Tp H H' → Ref K H' W' → Q b H'
def lowA (K : Frag) (t : TAD) : TA := fun σ H Q => ∃ ρ W Qd, Env K σ ρ H W ∧ t ρ W Qd ∧ ∀ ds W' vs H', Qd ds W' → Tp H H' → Ref K H' W' → ImL K H' ds vs → Q vs H'
def lowS (K : Frag) (t : TSD) : TS := fun D σ H => ∃ ρ W DD, Env K σ ρ H W ∧ t DD ρ W ∧ (∀ ρ' W' σ' H', DD.nx ρ' W' → Tp H H' → Env K σ' ρ' H' W' → D.nx σ' H') ∧
  Low K H DD.rt D.rt ∧ (∀ ρ' W' σ' H', DD.bk ρ' W' → Tp H H' → Env K σ' ρ' H' W' → D.bk σ' H') ∧ (∀ ρ' W' σ' H', DD.ct ρ' W' → Tp H H' → Env K σ' ρ' H' W' → D.ct σ' H')
theorem _root_.L2.PE.wk {X : Cx} {e : Expr} {t t' : TE} (h : PE X e t) (w : ∀ σ H Q, t' σ H Q → t σ H Q) : PE X e t' := ⟨fun pins s σ H Q I q => h.run pins s σ H Q I (w σ H Q q)⟩
theorem _root_.L2.PT.wk {X : Cx} {e : Expr} {t t' : TT} (h : PT X e t) (w : ∀ σ H Q, t' σ H Q → t σ H Q) : PT X e t' := ⟨fun pins s σ H Q I q => h.run pins s σ H Q I (w σ H Q q)⟩
theorem _root_.L2.PW.wk {X : Cx} {e : Expr} {t t' : TT} (h : PW X e t) (w : ∀ σ H Q, t' σ H Q → t σ H Q) : PW X e t' := ⟨fun wh pins s σ H Q I q => h.run wh pins s σ H Q I (w σ H Q q)⟩
theorem _root_.L2.PA.wk {X : Cx} {e : List Expr} {t t' : TA} (h : PA X e t) (w : ∀ σ H Q, t' σ H Q → t σ H Q) : PA X e t' := ⟨fun pos pins s σ H Q I q => h.run pos pins s σ H Q I (w σ H Q q)⟩
theorem _root_.L2.PS.wk {X : Cx} {e : Stmt} {t t' : TS} (h : PS X e t) (w : ∀ D σ H, t' D σ H → t D σ H) : PS X e t' := ⟨fun pins s σ H D I q => h.run pins s σ H D I (w D σ H q)⟩
theorem _root_.L2.PSs.wk {X : Cx} {e : List Stmt} {t t' : TS} (h : PSs X e t) (w : ∀ D σ H, t' D σ H → t D σ H) : PSs X e t' := ⟨fun pins s σ H D I q => h.run pins s σ H D I (w D σ H q)⟩

section
variable {X : Cx} {a b c e : Expr} {es : List Expr} {ta tb tc : TED} {pos : Pos} {K : Frag}

/-! ### names, constants -/
def dVar (i : Nat) : TED := fun ρ W Q => ∃ d, ρ[i]? = some (some d) ∧ Q d W
theorem d_var (i : Nat) {x : Str} {pos : Pos} (hN : X.N[i]? = some x := by rfl) (hv : Vis X.env.scope x := by first | exact Or.inl rfl | exact Or.inr (Or.inl rfl) | exact Or.inr (Or.inr rfl)) (hd : (x == ("__debug__" : Str)) = false := by decide)
    (hcd : (x == ("__classdict__" : Str)) = false := by decide) : PE X (.Name x pos) (lowE X.K (dVar i)) := (pv i hN hv hd hcd).wk fun σ H Q ⟨ρ, W, Qd, E, ⟨d, h, q⟩, k⟩ => by
  obtain ⟨v, h1, h2⟩ := E.sl.2 i d h
  exact ⟨v, h1, k d W v H q (Tp.refl H) E.rf h2⟩
def dC (d : D) : TED := fun _ W Q => Q d W
theorem d_int {i j pos} : PE X (.Constant (.int i) j pos) (lowE X.K (dC (.int i))) := pe_int.wk fun σ H Q ⟨ρ, W, Qd, E, q, k⟩ => k _ W _ H q (Tp.refl H) E.rf rfl
theorem d_bl {b j pos} : PE X (.Constant (.bool b) j pos) (lowE X.K (dC (.bl b))) := pe_bl.wk fun σ H Q ⟨ρ, W, Qd, E, q, k⟩ => k _ W _ H q (Tp.refl H) E.rf rfl
theorem d_non {j pos} : PE X (.Constant .none j pos) (lowE X.K (dC .non)) := pe_non.wk fun σ H Q ⟨ρ, W, Qd, E, q, k⟩ => k _ W _ H q (Tp.refl H) E.rf rfl
theorem d_str {x j pos} : PE X (.Constant (.str x) j pos) (lowE X.K (dC (.str x))) := pe_str.wk fun σ H Q ⟨ρ, W, Qd, E, q, k⟩ => k _ W _ H q (Tp.refl H) E.rf rfl

/-! ### operations on two values -/
abbrev F2 := D → D → Wd → DQ → Prop
abbrev F1 := D → Wd → DQ → Prop
def dOp (f : F2) (ta tb : TED) : TED := fun ρ W Q => ta ρ W fun d W1 => tb ρ W1 fun e W2 => f d e W2 Q
def dUn (f : F1) (ta : TED) : TED := fun ρ W Q => ta ρ W fun d W1 => f d W1 Q
def OpD (K : Frag) (r : R2) (f : F2) : Prop := ∀ (x y : V) (d e : D) (H : Hp) (W : Wd) (Qd : DQ) (Q : VK), Ref K H W → Im K H d x → Im K H e y → f d e W Qd → Low K H Qd Q → r x y H Q
def UnD (K : Frag) (r : V → Hp → VK → Prop) (f : F1) : Prop := ∀ (x : V) (d : D) (H : Hp) (W : Wd) (Qd : DQ) (Q : VK), Ref K H W → Im K H d x → f d W Qd → Low K H Qd Q → r x H Q
theorem Low.tp {H H' : Hp} {Qd : DQ} {Q : VK} (k : Low K H Qd Q) (t : Tp H H') : Low K H' Qd Q := fun d W' v H2 q t2 r i => k d W' v H2 q (t.trans t2) r i
theorem low2 {r : R2} {f : F2} (hd : OpD K r f) {σ : L2.St} {H : Hp} {Q : VK} (h : lowE K (dOp f ta tb) σ H Q) : tOp r (lowE K ta) (lowE K tb) σ H Q := by
  obtain ⟨ρ, W, Qd, E, q, k⟩ := h
  refine ⟨ρ, W, _, E, q, fun d W1 x H1 q1 t1 r1 i1 => ⟨ρ, W1, _, E.to t1 r1, q1, fun e W2 y H2 q2 t2 r2 i2 => ?_⟩⟩
  exact hd x y d e H2 W2 Qd Q r2 (i1.mono t2) i2 q2 (k.tp (t1.trans t2))
theorem low1 {r : V → Hp → VK → Prop} {f : F1} (hd : UnD K r f) {σ : L2.St} {H : Hp} {Q : VK} (h : lowE K (dUn f ta) σ H Q) : tUn r (lowE K ta) σ H Q := by
  obtain ⟨ρ, W, Qd, E, q, k⟩ := h
  exact ⟨ρ, W, _, E, q, fun d W1 x H1 q1 t1 r1 i1 => hd x d H1 W1 Qd Q r1 i1 q1 (k.tp t1)⟩
theorem d_op {op : Operator} {r : R2} {f : F2} (ho : OpR X (binaryOp op) r) (hd : OpD X.K r f) (ha : PE X a (lowE X.K ta)) (hb : PE X b (lowE X.K tb)) : PE X (.BinOp a op b pos) (lowE X.K (dOp f ta tb)) :=
  (pe_op ho ha hb).wk fun _ _ _ h => low2 hd h
theorem d_un {op : UnaryOp} {r : V → Hp → VK → Prop} {f : F1} (ho : UnR X (unaryOp op) r) (hd : UnD X.K r f) (ha : PE X a (lowE X.K ta)) : PE X (.UnaryOp op a pos) (lowE X.K (dUn f ta)) :=
  (pe_un ho ha).wk fun _ _ _ h => low1 hd h
/-- ints -/
def fI (C : Int → Int → Prop) (g : Int → Int → D) : F2 := fun d e W Q => ∃ i j, d = .int i ∧ e = .int j ∧ C i j ∧ Q (g i j) W
def fI0 (g : Int → Int → D) : F2 := fun d e W Q => ∃ i j, d = .int i ∧ e = .int j ∧ Q (g i j) W
theorem od_I {C : Int → Int → Prop} {g : Int → Int → V} {g' : Int → Int → D} (hg : ∀ i j H, Im K H (g' i j) (g i j)) : OpD K (rI C g) (fI C g') := fun x y d e H W Qd Q r i1 i2 h k => by
  obtain ⟨i, j, rfl, rfl, hc, q⟩ := h
  exact ⟨i, j, i1, i2, hc, k _ W _ H q (Tp.refl H) r (hg i j H)⟩
theorem od_I0 {g : Int → Int → V} {g' : Int → Int → D} (hg : ∀ i j H, Im K H (g' i j) (g i j)) : OpD K (rI0 g) (fI0 g') := fun x y d e H W Qd Q r i1 i2 h k => by
  obtain ⟨i, j, rfl, rfl, q⟩ := h
  exact ⟨i, j, i1, i2, k _ W _ H q (Tp.refl H) r (hg i j H)⟩
theorem d_add (ha : PE X a (lowE X.K ta)) (hb : PE X b (lowE X.K tb)) : PE X (.BinOp a .Add b pos) (lowE X.K (dOp (fI0 fun i j => .int (i + j)) ta tb)) := d_op op_add (od_I0 fun _ _ _ => rfl) ha hb
theorem d_sub (ha : PE X a (lowE X.K ta)) (hb : PE X b (lowE X.K tb)) : PE X (.BinOp a .Sub b pos) (lowE X.K (dOp (fI0 fun i j => .int (i - j)) ta tb)) := d_op op_sub (od_I0 fun _ _ _ => rfl) ha hb
theorem d_mul (ha : PE X a (lowE X.K ta)) (hb : PE X b (lowE X.K tb)) : PE X (.BinOp a .Mult b pos) (lowE X.K (dOp (fI CMul fun i j => .int (i * j)) ta tb)) := d_op op_mul (od_I fun _ _ _ => rfl) ha hb
theorem d_fdiv (ha : PE X a (lowE X.K ta)) (hb : PE X b (lowE X.K tb)) : PE X (.BinOp a .FloorDiv b pos) (lowE X.K (dOp (fI CDiv fun i j => .int (i / j)) ta tb)) := d_op op_fdiv (od_I fun _ _ _ => rfl) ha hb
theorem d_mod (ha : PE X a (lowE X.K ta)) (hb : PE X b (lowE X.K tb)) : PE X (.BinOp a .Mod b pos) (lowE X.K (dOp (fI (fun _ j => 0 < j) fun i j => .int (i % j)) ta tb)) := d_op op_mod (od_I fun _ _ _ => rfl) ha hb
theorem d_pow (ha : PE X a (lowE X.K ta)) (hb : PE X b (lowE X.K tb)) : PE X (.BinOp a .Pow b pos) (lowE X.K (dOp (fI CPow fun i j => .int (i ^ j.toNat)) ta tb)) := d_op op_pow (od_I fun _ _ _ => rfl) ha hb
theorem d_shl (ha : PE X a (lowE X.K ta)) (hb : PE X b (lowE X.K tb)) : PE X (.BinOp a .LShift b pos) (lowE X.K (dOp (fI CPow fun i j => .int (i * 2 ^ j.toNat)) ta tb)) := d_op op_shl (od_I fun _ _ _ => rfl) ha hb
theorem d_shr (ha : PE X a (lowE X.K ta)) (hb : PE X b (lowE X.K tb)) : PE X (.BinOp a .RShift b pos) (lowE X.K (dOp (fI (fun _ j => 0 ≤ j) fun i j => .int (i / 2 ^ j.toNat)) ta tb)) := d_op op_shr (od_I fun _ _ _ => rfl) ha hb
theorem d_and (ha : PE X a (lowE X.K ta)) (hb : PE X b (lowE X.K tb)) : PE X (.BinOp a .BitAnd b pos) (lowE X.K (dOp (fI0 fun i j => .int (Builtin.bitAnd i j)) ta tb)) := d_op op_and (od_I0 fun _ _ _ => rfl) ha hb
theorem d_neg (ha : PE X a (lowE X.K ta)) : PE X (.UnaryOp .USub a pos) (lowE X.K (dUn (fun d W Q => ∃ i, d = .int i ∧ Q (.int (-i)) W) ta)) := d_un un_neg (fun x d H W Qd Q r i1 h k => by
  obtain ⟨i, rfl, q⟩ := h
  exact ⟨i, i1, k _ W _ H q (Tp.refl H) r rfl⟩) ha
/-- tuples put together -/
def fCatT : F2 := fun d e W Q => ∃ xs ys, d = .tup xs ∧ e = .tup ys ∧ xs.length + ys.length ≤ sizeLine ∧ Q (.tup (xs ++ ys)) W
/-- lists -/
def fCatL : F2 := fun d e W Q => ∃ p q xs ys, d = .ref p ∧ e = .ref q ∧ W p = some (.lst xs) ∧ W q = some (.lst ys) ∧ xs.length + ys.length ≤ sizeLine ∧ ∀ r, W r = none → Q (.ref r) (wset W r (.lst (xs ++ ys)))
theorem od_catL : OpD K rCat fCatL := fun x y d e H W Qd Q r i1 i2 h k => by
  obtain ⟨p, q, xs, ys, rfl, rfl, h1, h2, hz, g⟩ := h
  obtain ⟨us, e1, m1⟩ := r p _ h1
  obtain ⟨vs, e2, m2⟩ := r q _ h2
  refine ⟨p, q, us, vs, i1, i2, e1, e2, by rw [← m1.length, ← m2.length]; exact hz, fun l hl => ?_⟩
  have t := Tp.new (o := .lst (us ++ vs)) hl
  exact k _ _ _ _ (g l (r.free hl)) t (r.laid hl ⟨_, upd_same, (m1.append m2).mono t⟩) rfl
theorem d_catL (ha : PE X a (lowE X.K ta)) (hb : PE X b (lowE X.K tb)) : PE X (.BinOp a .Add b pos) (lowE X.K (dOp fCatL ta tb)) := d_op op_cat od_catL ha hb

/-! ### comparisons -/
theorem d_cmp {op : CmpOp} {r : R2} {f : F2} (ho : OpR X (compareOp op) r) (hd : OpD X.K r f) (ha : PE X a (lowE X.K ta)) (hb : PE X b (lowE X.K tb)) (hm : behindInMarks op b = false) : PE X (.Compare a [op] [b] pos) (lowE X.K (dOp f ta tb)) :=
  (pe_cmpR ho ha hb hm).wk fun _ _ _ h => low2 hd h
def dTest (t : TED) : TTD := fun ρ W Q => t ρ W fun d W1 => ∃ b, d = .bl b ∧ Q b W1
theorem lowTest {t : TED} {u : TE} (hu : ∀ σ H Q, lowE K t σ H Q → u σ H Q) {σ : L2.St} {H : Hp} {Q : Bool → Hp → Prop} (h : lowT K (dTest t) σ H Q) : tTest u σ H Q := by
  obtain ⟨ρ, W, Qd, E, q, k⟩ := h
  refine hu _ _ _ ⟨ρ, W, _, E, q, fun d W1 x H1 q1 t1 r1 i1 => ?_⟩
  obtain ⟨b, rfl, q2⟩ := q1
  exact ⟨b, i1, k b W1 H1 q2 t1 r1⟩
theorem d_cmpT {op : CmpOp} {r : R2} {f : F2} (ho : OpR X (compareOp op) r) (hd : OpD X.K r f) (ha : PE X a (lowE X.K ta)) (hb : PE X b (lowE X.K tb)) (hm : behindInMarks op b = false) : PT X (.Compare a [op] [b] pos) (lowT X.K (dTest (dOp f ta tb))) :=
  (pt_cmpR ho ha hb hm).wk fun _ _ _ h => lowTest (fun _ _ _ q => low2 hd q) h
abbrev fLt : F2 := fI0 fun i j => .bl (decide (i < j))
abbrev fLe : F2 := fI0 fun i j => .bl (decide (i ≤ j))
abbrev fGt : F2 := fI0 fun i j => .bl (decide (j < i))
abbrev fGe : F2 := fI0 fun i j => .bl (decide (j ≤ i))
theorem od_lt : OpD K (rI0 fun i j => .bl (decide (i < j))) fLt := od_I0 fun _ _ _ => rfl
theorem od_le : OpD K (rI0 fun i j => .bl (decide (i ≤ j))) fLe := od_I0 fun _ _ _ => rfl
theorem od_gt : OpD K (rI0 fun i j => .bl (decide (j < i))) fGt := od_I0 fun _ _ _ => rfl
theorem od_ge : OpD K (rI0 fun i j => .bl (decide (j ≤ i))) fGe := od_I0 fun _ _ _ => rfl
-- data without mutable things, as the library data
mutual
def pyd : D → Option PyData
  | .non => some .none
  | .bl b => some (.bool b)
  | .int i => some (.int i)
  | .str x => some (.str x)
  | .tup ds => (pydL ds).map .tuple
  | .ref _ => none
  | .ty _ => none
def pydL : List D → Option (List PyData)
  | [] => some []
  | d :: ds => match pyd d, pydL ds with
    | some p, some ps => some (p :: ps)
    | _, _ => none
end
mutual
theorem Im.dp {H : Hp} : ∀ {d : D} {v : V} {p : PyData}, Im K H d v → pyd d = some p → Dp K H v p
  | .non, v, p, h, e => by
    have h : v = .non := h
    subst h; simp only [pyd] at e; cases e; exact .non
  | .bl b, v, p, h, e => by
    have h : v = .bl b := h
    subst h; simp only [pyd] at e; cases e; exact .bl b
  | .int b, v, p, h, e => by
    have h : v = .int b := h
    subst h; simp only [pyd] at e; cases e; exact .int b
  | .str b, v, p, h, e => by
    have h : v = .str b := h
    subst h; simp only [pyd] at e; cases e; exact .str b
  | .ref _, _, _, _, e => by simp only [pyd] at e; cases e
  | .ty _, _, _, _, e => by simp only [pyd] at e; cases e
  | .tup ds, v, p, h, e => by
    obtain ⟨a, xs, rfl, h1, h2⟩ := h
    simp only [pyd] at e
    cases q : pydL ds with
    | none => rw [q] at e; cases e
    | some ps =>
      rw [q] at e
      cases e
      exact .tup h1.sq (ImL.dp h2 q)
theorem ImL.dp {H : Hp} : ∀ {ds : List D} {vs : List V} {ps : List PyData}, ImL K H ds vs → pydL ds = some ps → DpAll K H vs ps
  | [], vs, ps, h, e => by
    have h : vs = [] := h
    subst h; simp only [pydL] at e; cases e; exact .nil
  | d :: ds, vs, ps, h, e => by
    obtain ⟨v, vs, rfl, h1, h2⟩ := ImL.cons' h
    simp only [pydL] at e
    cases q1 : pyd d with
    | none => rw [q1] at e; cases e
    | some p =>
      cases q2 : pydL ds with
      | none => rw [q1, q2] at e; cases e
      | some qs =>
        rw [q1, q2] at e
        cases e
        exact .cons (Im.dp h1 q1) (ImL.dp h2 q2)
end
def fEq : F2 := fun d e W Q => ∃ p q, pyd d = some p ∧ pyd e = some q ∧ SeqAt.shaped p = true ∧ SeqAt.shaped q = true ∧ Q (.bl (PyData.eqv p q)) W
def fNe : F2 := fun d e W Q => ∃ p q, pyd d = some p ∧ pyd e = some q ∧ SeqAt.shaped p = true ∧ SeqAt.shaped q = true ∧ Q (.bl (!PyData.eqv p q)) W
theorem od_eq : OpD K (rEqD K) fEq := fun x y d e H W Qd Q r i1 i2 h k => by
  obtain ⟨p, q, h1, h2, s1, s2, g⟩ := h
  exact ⟨p, q, i1.dp h1, i2.dp h2, s1, s2, k _ W _ H g (Tp.refl H) r rfl⟩
theorem od_ne : OpD K (rNeD K) fNe := fun x y d e H W Qd Q r i1 i2 h k => by
  obtain ⟨p, q, h1, h2, s1, s2, g⟩ := h
  exact ⟨p, q, i1.dp h1, i2.dp h2, s1, s2, k _ W _ H g (Tp.refl H) r rfl⟩
/-- one chain of two comparisons -/
def dChain (f g : F2) (ta tb tc : TED) : TED := fun ρ W Q => ta ρ W fun x W1 => tb ρ W1 fun y W2 => f x y W2 fun z W3 => ∃ k, z = .bl k ∧ (if k = true then tc ρ W3 fun w W4 => g y w W4 Q else Q (.bl false) W3)
theorem lowChain {r r' : R2} {f g : F2} (h1 : OpD K r f) (h2 : OpD K r' g) {σ : L2.St} {H : Hp} {Q : VK} (h : lowE K (dChain f g ta tb tc) σ H Q) : tChain r r' (lowE K ta) (lowE K tb) (lowE K tc) σ H Q := by
  obtain ⟨ρ, W, Qd, E, q, k⟩ := h
  refine ⟨ρ, W, _, E, q, fun d W1 x H1 q1 t1 r1 i1 => ⟨ρ, W1, _, E.to t1 r1, q1, fun e W2 y H2 q2 t2 r2 i2 => ?_⟩⟩
  refine h1 x y d e H2 W2 _ _ r2 (i1.mono t2) i2 q2 fun z W3 v H3 q3 t3 r3 i3 => ?_
  obtain ⟨b, rfl, q3⟩ := q3
  refine ⟨b, i3, ?_⟩
  cases b with
  | false =>
    have q3 : Qd (.bl false) W3 := by simpa using q3
    exact iteF (k (.bl false) W3 (.bl false) H3 q3 ((t1.trans t2).trans t3) r3 rfl)
  | true =>
    refine iteT ⟨ρ, W3, _, E.to ((t1.trans t2).trans t3) r3, by simpa using q3, fun w W4 u H4 q4 t4 r4 i4 => ?_⟩
    exact h2 y u e w H4 W4 Qd Q r4 (i2.mono (t3.trans t4)) i4 q4 (k.tp (((t1.trans t2).trans t3).trans t4))
theorem d_chain {op op' : CmpOp} {r r' : R2} {f g : F2} (ho : OpR X (compareOp op) r) (ho' : OpR X (compareOp op') r') (h1 : OpD X.K r f) (h2 : OpD X.K r' g) (ha : PE X a (lowE X.K ta)) (hb : PE X b (lowE X.K tb)) (hc : PE X c (lowE X.K tc))
    (hm : lastMarks [op, op'] [b, c] = false := by with_unfolding_all rfl) : PE X (.Compare a [op, op'] [b, c] pos) (lowE X.K (dChain f g ta tb tc)) := (pe_chain ho ho' ha hb hc hm).wk fun _ _ _ h => lowChain h1 h2 h
theorem d_chainT {op op' : CmpOp} {r r' : R2} {f g : F2} (ho : OpR X (compareOp op) r) (ho' : OpR X (compareOp op') r') (h1 : OpD X.K r f) (h2 : OpD X.K r' g) (ha : PE X a (lowE X.K ta)) (hb : PE X b (lowE X.K tb)) (hc : PE X c (lowE X.K tc))
    (hm : lastMarks [op, op'] [b, c] = false := by with_unfolding_all rfl) : PT X (.Compare a [op, op'] [b, c] pos) (lowT X.K (dTest (dChain f g ta tb tc))) := (pt_chain ho ho' ha hb hc hm).wk fun _ _ _ h => lowTest (fun _ _ _ q => lowChain h1 h2 q) h

/-! ### truth, and, or, not, if -/
/-- an expression whose value is a bool, as a test -/
theorem d_val {e : Expr} {t : TED} (h : PE X e (lowE X.K t)) (he : ∀ whole, isTrue e X.env whole = (do let v ← whole; standAt e.pos; holding [v] (truthy v)) := by intro _; rfl) : PT X e (lowT X.K (dTest t)) :=
  (pt_val h he).wk fun _ _ _ q => lowTest (fun _ _ _ z => z) q
def truD (d : D) (W : Wd) (k : Bool) : Prop := match d with
  | .non => k = false
  | .bl b => k = b
  | .int i => k = (i != 0)
  | .str x => x.length ≤ sizeLine ∧ k = ((x.length : Int) != 0)
  | .tup ds => k = !ds.isEmpty
  | .ref a => (∃ ds, W a = some (.lst ds) ∧ k = !ds.isEmpty) ∨ ∃ kvs, W a = some (.dk kvs) ∧ k = !kvs.isEmpty
  | .ty _ => False
theorem ImL.empty {H : Hp} {ds : List D} {xs : List V} (h : ImL K H ds xs) : ds.isEmpty = xs.isEmpty := by
  cases ds with
  | nil => rw [ImL.nil' h]; rfl
  | cons d ds => obtain ⟨v, vs, rfl, _, _⟩ := ImL.cons' h; rfl
theorem KVm.empty {κ : Type} {H : Hp} {ds : List (κ × D)} {xs : List (κ × V)} (h : KVm K H ds xs) : ds.isEmpty = xs.isEmpty := by
  cases h <;> rfl
theorem truD.ok {d : D} {W : Wd} {k : Bool} {H : Hp} {v : V} (r : Ref K H W) (i : Im K H d v) (h : truD d W k) : TruV K v H k := by
  cases d with
  | non => cases (show v = .non from i); exact h
  | bl b => cases (show v = .bl b from i); exact h
  | int b => cases (show v = .int b from i); exact h
  | str b => cases (show v = .str b from i); exact h
  | tup ds =>
    obtain ⟨a, xs, rfl, h1, h2⟩ := i
    exact .inr (.inl ⟨xs, h1.sq, by rw [← h2.empty]; exact h⟩)
  | ref a =>
    cases (show v = .ref a from i)
    rcases h with ⟨ds, h1, h2⟩ | ⟨kvs, h1, h2⟩
    · obtain ⟨xs, h3, h4⟩ := r a _ h1
      exact .inl ⟨xs, SqL.of h3, by rw [← h4.empty]; exact h2⟩
    · obtain ⟨xs, h3, h4⟩ := r a _ h1
      exact .inr (.inr ⟨xs, h3, by rw [← h4.empty]; exact h2⟩)
  | ty n => exact h.elim
def dTruth (t : TED) : TTD := fun ρ W Q => t ρ W fun d W1 => ∃ b, truD d W1 b ∧ Q b W1
theorem d_truth {t : TED} (ha : PE X a (lowE X.K t)) (he : ∀ whole, isTrue a X.env whole = (do let v ← whole; standAt a.pos; holding [v] (truthy v)) := by intro _; rfl) : PT X a (lowT X.K (dTruth t)) :=
  (pt_truth ha he).wk fun σ H Q ⟨ρ, W, Qd, E, q, k⟩ => ⟨ρ, W, _, E, q, fun d W1 x H1 q1 t1 r1 i1 => by
    obtain ⟨b, h1, h2⟩ := q1
    exact ⟨b, h1.ok r1 i1, k b W1 H1 h2 t1 r1⟩⟩
variable {tA tB : TTD} {rest : List Expr}
def dAnd (t u : TTD) : TTD := fun ρ W Q => t ρ W fun c W1 => if c = true then u ρ W1 Q else Q false W1
def dOr (t u : TTD) : TTD := fun ρ W Q => t ρ W fun c W1 => if c = true then Q true W1 else u ρ W1 Q
def dNot (t : TTD) : TTD := fun ρ W Q => t ρ W fun c W1 => Q (!c) W1
theorem w_and1 (ha : PT X a (lowT X.K tA)) : PW X (.BoolOp .And [a] pos) (lowT X.K tA) := pw_and1 ha
theorem w_or1 (ha : PT X a (lowT X.K tA)) : PW X (.BoolOp .Or [a] pos) (lowT X.K tA) := pw_or1 ha
theorem w_and (ha : PT X a (lowT X.K tA)) (hb : PW X (.BoolOp .And (b :: rest) pos) (lowT X.K tB)) : PW X (.BoolOp .And (a :: b :: rest) pos) (lowT X.K (dAnd tA tB)) :=
  (pw_and ha hb).wk fun σ H Q ⟨ρ, W, Qd, E, q, k⟩ => ⟨ρ, W, _, E, q, fun c W1 H1 q1 t1 r1 => by
    cases c with
    | true => exact iteT ⟨ρ, W1, _, E.to t1 r1, by simpa using q1, fun b W2 H2 q2 t2 r2 => k b W2 H2 q2 (t1.trans t2) r2⟩
    | false => exact iteF (k false W1 H1 (by simpa using q1) t1 r1)⟩
theorem w_or (ha : PT X a (lowT X.K tA)) (hb : PW X (.BoolOp .Or (b :: rest) pos) (lowT X.K tB)) : PW X (.BoolOp .Or (a :: b :: rest) pos) (lowT X.K (dOr tA tB)) :=
  (pw_or ha hb).wk fun σ H Q ⟨ρ, W, Qd, E, q, k⟩ => ⟨ρ, W, _, E, q, fun c W1 H1 q1 t1 r1 => by
    cases c with
    | false => exact iteF ⟨ρ, W1, _, E.to t1 r1, by simpa using q1, fun b W2 H2 q2 t2 r2 => k b W2 H2 q2 (t1.trans t2) r2⟩
    | true => exact iteT (k true W1 H1 (by simpa using q1) t1 r1)⟩
theorem d_not (ha : PT X a (lowT X.K tA)) : PT X (.UnaryOp .Not a pos) (lowT X.K (dNot tA)) :=
  (pt_not ha).wk fun σ H Q ⟨ρ, W, Qd, E, q, k⟩ => ⟨ρ, W, _, E, q, fun c W1 H1 q1 t1 r1 => k _ W1 H1 q1 t1 r1⟩
def dAndV (ta tb : TED) : TED := fun ρ W Q => ta ρ W fun d W1 => ∃ c, d = .bl c ∧ if c = true then tb ρ W1 Q else Q (.bl false) W1
def dOrV (ta tb : TED) : TED := fun ρ W Q => ta ρ W fun d W1 => ∃ c, d = .bl c ∧ if c = true then Q (.bl true) W1 else tb ρ W1 Q
def dNotV (ta : TED) : TED := fun ρ W Q => ta ρ W fun d W1 => ∃ c, d = .bl c ∧ Q (.bl (!c)) W1
theorem d_one {op} (h : PE X a (lowE X.K ta)) : PE X (.BoolOp op [a] pos) (lowE X.K ta) := pe_one h
theorem d_andV (ha : PE X a (lowE X.K ta)) (hb : PE X (.BoolOp .And (b :: rest) pos) (lowE X.K tb)) : PE X (.BoolOp .And (a :: b :: rest) pos) (lowE X.K (dAndV ta tb)) :=
  (pe_and ha hb).wk fun σ H Q ⟨ρ, W, Qd, E, q, k⟩ => ⟨ρ, W, _, E, q, fun d W1 x H1 q1 t1 r1 i1 => by
    obtain ⟨c, rfl, q1⟩ := q1
    refine ⟨c, i1, ?_⟩
    cases c with
    | true => exact iteT ⟨ρ, W1, _, E.to t1 r1, by simpa using q1, k.tp t1⟩
    | false => exact iteF (k (.bl false) W1 (.bl false) H1 (by simpa using q1) t1 r1 rfl)⟩
theorem d_orV (ha : PE X a (lowE X.K ta)) (hb : PE X (.BoolOp .Or (b :: rest) pos) (lowE X.K tb)) : PE X (.BoolOp .Or (a :: b :: rest) pos) (lowE X.K (dOrV ta tb)) :=
  (pe_or ha hb).wk fun σ H Q ⟨ρ, W, Qd, E, q, k⟩ => ⟨ρ, W, _, E, q, fun d W1 x H1 q1 t1 r1 i1 => by
    obtain ⟨c, rfl, q1⟩ := q1
    refine ⟨c, i1, ?_⟩
    cases c with
    | false => exact iteF ⟨ρ, W1, _, E.to t1 r1, by simpa using q1, k.tp t1⟩
    | true => exact iteT (k (.bl true) W1 (.bl true) H1 (by simpa using q1) t1 r1 rfl)⟩
theorem d_notV (ha : PE X a (lowE X.K ta)) : PE X (.UnaryOp .Not a pos) (lowE X.K (dNotV ta)) :=
  (pe_not ha).wk fun σ H Q ⟨ρ, W, Qd, E, q, k⟩ => ⟨ρ, W, _, E, q, fun d W1 x H1 q1 t1 r1 i1 => by
    obtain ⟨c, rfl, q1⟩ := q1
    exact ⟨c, i1, k _ W1 _ H1 q1 t1 r1 rfl⟩⟩
def dIf (t : TTD) (ta tb : TED) : TED := fun ρ W Q => t ρ W fun c W1 => if c = true then ta ρ W1 Q else tb ρ W1 Q
theorem d_if {c : Expr} (hc : PT X c (lowT X.K tA)) (ha : PE X a (lowE X.K ta)) (hb : PE X b (lowE X.K tb)) : PE X (.IfExp c a b pos) (lowE X.K (dIf tA ta tb)) :=
  (pe_ifExp hc ha hb).wk fun σ H Q ⟨ρ, W, Qd, E, q, k⟩ => ⟨ρ, W, _, E, q, fun c W1 H1 q1 t1 r1 => by
    cases c with
    | true => exact iteT ⟨ρ, W1, _, E.to t1 r1, by simpa using q1, k.tp t1⟩
    | false => exact iteF ⟨ρ, W1, _, E.to t1 r1, by simpa using q1, k.tp t1⟩⟩

/-! ### argument lists, displays -/
def dNil : TAD := fun _ W Q => Q [] W
def dCons (ta : TED) (tr : TAD) : TAD := fun ρ W Q => ta ρ W fun d W1 => tr ρ W1 fun ds W2 => Q (d :: ds) W2
variable {tr : TAD}
theorem da_nil : PA X [] (lowA X.K dNil) := pa_nil.wk fun σ H Q ⟨ρ, W, Qd, E, q, k⟩ => k [] W [] H q (Tp.refl H) E.rf rfl
theorem da_cons (ha : PE X e (lowE X.K ta)) (hr : PA X es (lowA X.K tr)) (hs : starEach (e :: es) X.env = (false, eval e X.env) :: starEach es X.env := by rfl) : PA X (e :: es) (lowA X.K (dCons ta tr)) :=
  (pa_cons ha hr hs).wk fun σ H Q ⟨ρ, W, Qd, E, q, k⟩ => ⟨ρ, W, _, E, q, fun d W1 x H1 q1 t1 r1 i1 => ⟨ρ, W1, _, E.to t1 r1, q1, fun ds W2 vs H2 q2 t2 r2 i2 => k _ W2 _ H2 q2 (t1.trans t2) r2 (ImL.cons (i1.mono t2) i2)⟩⟩
def dTup (t : TAD) : TED := fun ρ W Q => t ρ W fun ds W1 => ds.length ≤ sizeLine ∧ Q (.tup ds) W1
def dLst (t : TAD) : TED := fun ρ W Q => t ρ W fun ds W1 => ds.length ≤ sizeLine ∧ ∀ p, W1 p = none → Q (.ref p) (wset W1 p (.lst ds))
/-- a new tuple, its object told -/
def tTupF (t : TA) : TE := fun σ H Q => t σ H fun xs H1 => xs.length ≤ sizeLine ∧ ∀ p o, H1 p = none → o.dict = none → Q (.ref p) (upd H1 p (.frz o (.tup xs)))
theorem pe_tupF {x1} {t : TA} (h : PA X es t) : PE X (.Tuple es x1 pos) (tTupF t) := by
  refine ⟨fun pins s σ H Q I hq => ?_⟩
  refine wpAny_Tuple_spliced (thn (h.run pos pins s σ H _ I hq) fun us s1 ⟨xs, H1, I1, r, z, q⟩ => ⟨by rw [← r.length]; exact z, ?_⟩)
  have hf : H1 s1.heap.objs.size = none := I1.hok.fresh (Nat.le_refl _)
  refine ⟨.ref s1.heap.objs.size, upd H1 s1.heap.objs.size (.frz { cls := .type "tuple", data := .seq us.toArray } (.tup xs)), I1.laid (t' := s1.toks) (fun b u e => Heap.get?_push_of_some _ e) (Nat.le_refl _) ?_, rfl, q _ _ hf rfl⟩
  exact ⟨Heap.get?_push_size _ rfl, z, us, r, ⟨_, Heap.get?_push_size _ rfl, rfl, _, rfl⟩⟩
theorem d_tup {x1} (h : PA X es (lowA X.K tr)) : PE X (.Tuple es x1 pos) (lowE X.K (dTup tr)) :=
  (pe_tupF h).wk fun σ H Q ⟨ρ, W, Qd, E, q, k⟩ => ⟨ρ, W, _, E, q, fun ds W1 vs H1 q1 t1 r1 i1 => by
    obtain ⟨hz, q1⟩ := q1
    refine ⟨by rw [← i1.length]; exact hz, fun p o hp ho => ?_⟩
    have t := Tp.new (o := .frz o (.tup vs)) hp
    exact k _ W1 _ _ q1 (t1.trans t) (r1.new hp) ⟨p, vs, rfl, TupF.new ho, i1.mono t⟩⟩
theorem d_lst (h : PA X es (lowA X.K tr)) : PE X (.List es pos) (lowE X.K (dLst tr)) :=
  (pe_lst h).wk fun σ H Q ⟨ρ, W, Qd, E, q, k⟩ => ⟨ρ, W, _, E, q, fun ds W1 vs H1 q1 t1 r1 i1 => by
    obtain ⟨hz, q1⟩ := q1
    refine ⟨by rw [← i1.length]; exact hz, fun p hp => ?_⟩
    have t := Tp.new (o := .lst vs) hp
    exact k _ _ _ _ (q1 p (r1.free hp)) (t1.trans t) (r1.laid hp ⟨vs, upd_same, i1.mono t⟩) rfl⟩
end
end DL

/-! DL3: subscripts, slices, calls, methods, dicts. -/
namespace DL
open PySem PySem.Spec L2
open PyProof.Rows hiding St

section
variable {X : Cx} {a b c e o : Expr} {es : List Expr} {ta tb tc : TED} {tr : TAD} {pos : Pos} {K : Frag}

/-! ### tuples put together -/
/-- t + u, a new tuple's object told -/
def rCatF (K : Frag) : R2 := fun x y H Q => ∃ a b xs ys, x = .ref a ∧ y = .ref b ∧ SqT K H a xs ∧ SqT K H b ys ∧ xs.length + ys.length ≤ sizeLine ∧
  (xs = [] → Q (.ref b) H) ∧ (xs ≠ [] → ys = [] → Q (.ref a) H) ∧ (xs ≠ [] → ys ≠ [] → ∀ p o, H p = none → o.dict = none → Q (.ref p) (upd H p (.frz o (.tup (xs ++ ys)))))
theorem op_catF : OpR X (binaryOp .Add) (rCatF X.K) := by
  intro pins s σ H x y v u Q I rx ry h
  obtain ⟨a, b, xs, ys, rfl, rfl, ha, hb, hz, q0, q1, q2⟩ := h
  cases rx
  cases ry
  obtain ⟨its, r1, p1, hz1⟩ := I.tuple ha
  obtain ⟨its2, r2, p2, hz2⟩ := I.tuple hb
  by_cases hx : xs = []
  · subst hx
    cases r1
    exact cat_tup0 p1 p2 ⟨.ref b, H, I, rfl, q0 rfl⟩
  · have hi : its ≠ [] := fun z => by subst z; cases r1; exact hx rfl
    refine HT.cat_tup p1 p2 hi (fun z => ?_) (fun z => ?_) (by rw [← r1.length, ← r2.length]; exact hz)
    · subst z
      cases r2
      exact ⟨.ref a, H, I, rfl, q1 hx rfl⟩
    · have hy : ys ≠ [] := fun e => by subst e; cases r2; exact z rfl
      refine ⟨.ref s.heap.objs.size, upd H s.heap.objs.size (.frz { cls := .type "tuple", data := .seq (its ++ its2).toArray } (.tup (xs ++ ys))), I.laid (t' := s.toks) (fun b u e => Heap.get?_push_of_some _ e) (Nat.le_refl _) ?_, rfl, q2 hx hy _ _ (I.hok.fresh (Nat.le_refl _)) rfl⟩
      exact ⟨Heap.get?_push_size _ rfl, by rw [List.length_append]; exact hz, its ++ its2, r1.append r2, ⟨_, Heap.get?_push_size _ rfl, rfl, _, rfl⟩⟩
theorem od_catT : OpD K (rCatF K) fCatT := fun x y d e H W Qd Q r i1 i2 h k => by
  obtain ⟨xs, ys, rfl, rfl, hz, g⟩ := h
  obtain ⟨p, us, rfl, h1, m1⟩ := i1
  obtain ⟨q, vs, rfl, h2, m2⟩ := i2
  refine ⟨p, q, us, vs, rfl, rfl, h1.sq, h2.sq, by rw [← m1.length, ← m2.length]; exact hz, fun z => ?_, fun z z2 => ?_, fun _ _ l o hl ho => ?_⟩
  · subst z
    have e0 : xs = [] := by
      have := m1.length
      cases xs with
      | nil => rfl
      | cons _ _ => simp at this
    subst e0
    exact k _ W _ H g (Tp.refl H) r ⟨q, vs, rfl, h2, m2⟩
  · subst z2
    have e0 : ys = [] := by
      have := m2.length
      cases ys with
      | nil => rfl
      | cons _ _ => simp at this
    subst e0
    rw [List.append_nil] at g
    exact k _ W _ H g (Tp.refl H) r ⟨p, us, rfl, h1, m1⟩
  · have t := Tp.new (o := .frz o (.tup (us ++ vs))) hl
    exact k _ W _ _ g t (r.new hl) ⟨l, _, rfl, TupF.new ho, (m1.append m2).mono t⟩
theorem d_catT (ha : PE X a (lowE X.K ta)) (hb : PE X b (lowE X.K tb)) : PE X (.BinOp a .Add b pos) (lowE X.K (dOp fCatT ta tb)) := d_op op_catF od_catT ha hb

/-! ### subscripts -/
def fIx : F2 := fun d e W Q => match d, e with
  | .tup ds, .int i => ∃ z, atI ds i = some z ∧ Q z W
  | .ref a, .int i => ∃ ds z, (W a = some (.lst ds) ∨ W a = some (.ro ds)) ∧ atI ds i = some z ∧ Q z W
  | .str s, .int i => ∃ c, s.length ≤ sizeLine ∧ atI s.cps.toList i = some c ∧ Q (.str ⟨#[c]⟩) W
  | _, _ => False
theorem ImL.atI {H : Hp} {ds : List D} {xs : List V} {i : Int} {d : D} (h : ImL K H ds xs) (e : atI ds i = some d) : ∃ x, L2.atI xs i = some x ∧ Im K H d x := by
  unfold L2.atI at e ⊢
  rw [← h.length]
  cases q : ixN ds.length i with
  | none => rw [q] at e; cases e
  | some j =>
    rw [q] at e
    obtain ⟨x, h1, h2⟩ := h.get (i := j) (d := d) e
    exact ⟨x, h1, h2⟩
theorem od_ix : OpD K (rIx K) fIx := fun x y d e H W Qd Q r i1 i2 h k => by
  cases d with
  | tup ds =>
    cases e with
    | int i =>
      obtain ⟨z, h1, q⟩ := h
      obtain ⟨p, xs, rfl, h2, m⟩ := i1
      obtain ⟨v, h3, h4⟩ := m.atI h1
      exact .inr (.inl ⟨p, xs, i, v, rfl, i2, h2.sq, h3, k _ W _ H q (Tp.refl H) r h4⟩)
    | _ => exact h.elim
  | ref a =>
    cases e with
    | int i =>
      obtain ⟨ds, z, h0, h1, q⟩ := h
      have hx : ∃ xs, SqL K H a xs ∧ ImL K H ds xs := by
        rcases h0 with h0 | h0
        · obtain ⟨xs, h2, m⟩ := r a _ h0
          exact ⟨xs, SqL.of h2, m⟩
        · obtain ⟨xs, h2, m⟩ := r a _ h0
          exact ⟨xs, .inl h2, m⟩
      obtain ⟨xs, h2, m⟩ := hx
      obtain ⟨v, h3, h4⟩ := m.atI h1
      exact .inl ⟨a, xs, i, v, i1, i2, h2, h3, k _ W _ H q (Tp.refl H) r h4⟩
    | _ => exact h.elim
  | str s =>
    cases e with
    | int i =>
      obtain ⟨c, hz, h1, q⟩ := h
      exact .inr (.inr ⟨s, i, c, i1, i2, hz, h1, k _ W _ H q (Tp.refl H) r rfl⟩)
    | _ => exact h.elim
  | _ => exact h.elim
theorem d_ix (ha : PE X a (lowE X.K ta)) (hb : PE X b (lowE X.K tb)) (hs : PlainIx b := by exact fun _ _ => rfl) : PE X (.Subscript a b pos) (lowE X.K (dOp fIx ta tb)) := (pe_ix ix_seq ha hb hs).wk fun _ _ _ h => low2 od_ix h

/-! ### slices -/
abbrev TOD := DSt → Wd → (Option Int → Wd → Prop) → Prop
def lowO (K : Frag) (t : TOD) : TO := fun σ H Q => ∃ ρ W Qd, Env K σ ρ H W ∧ t ρ W Qd ∧ ∀ b W' H', Qd b W' → Tp H H' → Ref K H' W' → Q b H'
theorem _root_.L2.PO.wk {X : Cx} {e : Option Expr} {t t' : TO} (h : PO X e t) (w : ∀ σ H Q, t' σ H Q → t σ H Q) : PO X e t' := ⟨fun pins s σ H Q I q => h.run pins s σ H Q I (w σ H Q q)⟩
def dNo : TOD := fun _ W Q => Q none W
def dPart (t : TED) : TOD := fun ρ W Q => t ρ W fun d W1 => ∃ i, d = .int i ∧ Q (some i) W1
theorem do_no : PO X none (lowO X.K dNo) := po_none.wk fun σ H Q ⟨ρ, W, Qd, E, q, k⟩ => k none W H q (Tp.refl H) E.rf
theorem do_some (h : PE X e (lowE X.K ta)) : PO X (some e) (lowO X.K (dPart ta)) := (po_some h).wk fun σ H Q ⟨ρ, W, Qd, E, q, k⟩ => ⟨ρ, W, _, E, q, fun d W1 v H1 q1 t1 r1 i1 => by
  obtain ⟨i, rfl, q1⟩ := q1
  exact ⟨i, i1, k _ W1 H1 q1 t1 r1⟩⟩
def cutD (xs : List D) (lo hi : Option Int) : List D := (xs.drop (HT.sIx xs.length 0 lo)).take (HT.sIx xs.length xs.length hi - HT.sIx xs.length 0 lo)
theorem ImL.cut {H : Hp} {ds : List D} {xs : List V} (lo hi : Option Int) (h : ImL K H ds xs) : ImL K H (cutD ds lo hi) (cutV xs lo hi) := by
  unfold cutD cutV
  rw [h.length]
  exact (h.drop _).take _
def fSl : D → Option Int → Option Int → Wd → DQ → Prop := fun d lo hi W Q => match d with
  | .tup ds => Q (.tup (cutD ds lo hi)) W
  | .str s => s.length ≤ sizeLine ∧ Q (.str (cutS s lo hi)) W
  | .ref a => ∃ ds, W a = some (.lst ds) ∧ ∀ p, W p = none → Q (.ref p) (wset W p (.lst (cutD ds lo hi)))
  | _ => False
def dSl (te : TED) (tl th : TOD) : TED := fun ρ W Q => te ρ W fun d W1 => tl ρ W1 fun lo W2 => th ρ W2 fun hi W3 => fSl d lo hi W3 Q
/-- t[lo:hi], a new tuple's object told; the whole of it is t itself -/
def rSlF (K : Frag) : V → Option Int → Option Int → Hp → VK → Prop := fun x lo hi H Q => ∃ a xs, x = .ref a ∧ SqT K H a xs ∧
  (HT.sIx xs.length 0 lo = 0 ∧ HT.sIx xs.length xs.length hi = xs.length → Q (.ref a) H) ∧ (¬ (HT.sIx xs.length 0 lo = 0 ∧ HT.sIx xs.length xs.length hi = xs.length) → ∀ p o, H p = none → o.dict = none → Q (.ref p) (upd H p (.frz o (.tup (cutV xs lo hi)))))
theorem sl_tupF : SlR X (rSlF X.K) := by
  intro pins s σ H x v vl vu lo hi sl Q I rx hs pl pu h
  obtain ⟨a, xs, rfl, hx, q1, q2⟩ := h
  cases rx
  obtain ⟨its, r, ht, hz⟩ := I.tuple hx
  have hlen : its.toArray.size = xs.length := by rw [List.size_toArray]; exact r.length.symm
  refine ⟨"tuple", _, PyProof.Rows.slot_tuple_getitem.lookup, ht.typeIs, ?_⟩
  by_cases hw : HT.sIx xs.length 0 lo = 0 ∧ HT.sIx xs.length xs.length hi = xs.length
  · exact getItem_tuple_whole ht hs pl pu (by rw [hlen]; exact hw) ⟨.ref a, H, I, rfl, q1 hw⟩
  · refine HT.getItem_tuple_cut ht hs pl pu (by rw [hlen]; exact hw) ?_ (by rw [hlen]; exact hz)
    rw [hlen]
    refine ⟨.ref s.heap.objs.size, _, I.laid (t' := s.toks) (o := .frz { cls := .type "tuple", data := .seq ((its.drop (HT.sIx xs.length 0 lo)).take (HT.sIx xs.length xs.length hi - HT.sIx xs.length 0 lo)).toArray } (.tup (cutV xs lo hi))) (fun b ob q => Heap.get?_push_of_some _ q) (Nat.le_refl _) ?_, rfl, q2 hw _ _ (I.hok.fresh (Nat.le_refl _)) rfl⟩
    exact ⟨Heap.get?_push_size _ rfl, Nat.le_trans (cutV_length xs lo hi) hz, _, (r.drop (HT.sIx xs.length 0 lo)).take (HT.sIx xs.length xs.length hi - HT.sIx xs.length 0 lo), IsTup.new _ _⟩
def rSlAny (K : Frag) : V → Option Int → Option Int → Hp → VK → Prop := fun x lo hi H Q => rSlF K x lo hi H Q ∨ rSlS x lo hi H Q ∨ rSlL K x lo hi H Q
theorem sl_any : SlR X (rSlAny X.K) := sl_tupF.or (sl_str.or sl_list)
theorem cut_whole {ds : List D} {lo hi : Option Int} (h : HT.sIx ds.length 0 lo = 0 ∧ HT.sIx ds.length ds.length hi = ds.length) : cutD ds lo hi = ds := by
  unfold cutD
  rw [h.1, h.2, List.drop_zero, Nat.sub_zero, List.take_length]
theorem d_slice {lo hi : Option Expr} {tl th : TOD} {p2 : Pos} (he : PE X e (lowE X.K ta)) (hl : PO X lo (lowO X.K tl)) (hu : PO X hi (lowO X.K th)) : PE X (.Subscript e (.Slice lo hi none p2) pos) (lowE X.K (dSl ta tl th)) :=
  (pe_slice sl_any he hl hu).wk fun σ H Q ⟨ρ, W, Qd, E, q, k⟩ => ⟨ρ, W, _, E, q, fun d W1 x H1 q1 t1 r1 i1 => ⟨ρ, W1, _, E.to t1 r1, q1, fun lo W2 H2 q2 t2 r2 => ⟨ρ, W2, _, E.to (t1.trans t2) r2, q2, fun hi W3 H3 q3 t3 r3 => by
    have T := (t1.trans t2).trans t3
    have i3 := i1.mono (t2.trans t3)
    cases d with
    | tup ds =>
      obtain ⟨p, xs, rfl, h2, m⟩ := i3
      refine .inl ⟨p, xs, rfl, h2.sq, fun z => ?_, fun _ l o hl ho => ?_⟩
      · rw [← m.length] at z
        have q3 : Qd (.tup (cutD ds lo hi)) W3 := q3
        rw [cut_whole z] at q3
        exact k _ W3 _ H3 q3 T r3 ⟨p, xs, rfl, h2, m⟩
      · have t := Tp.new (o := .frz o (.tup (cutV xs lo hi))) hl
        exact k _ W3 _ _ q3 (T.trans t) (r3.new hl) ⟨l, _, rfl, TupF.new ho, (m.cut lo hi).mono t⟩
    | str s =>
      obtain ⟨hz, q3⟩ := q3
      exact .inr (.inl ⟨s, i3, hz, k _ W3 _ H3 q3 T r3 rfl⟩)
    | ref a =>
      obtain ⟨ds, h2, q3⟩ := q3
      obtain ⟨xs, h4, m⟩ := r3 a _ h2
      refine .inr (.inr ⟨a, xs, i3, SqL.of h4, fun l hl => ?_⟩)
      have t := Tp.new (o := .lst (cutV xs lo hi)) hl
      exact k _ _ _ _ (q3 l (r3.free hl)) (T.trans t) (r3.laid hl ⟨_, upd_same, (m.cut lo hi).mono t⟩) rfl
    | _ => exact q3.elim⟩⟩⟩

/-! ### calls of built-ins -/
abbrev FC := List D → Wd → DQ → Prop
def dCB (f : FC) (t : TAD) : TED := fun ρ W Q => t ρ W fun ds W1 => f ds W1 Q
def CallD (K : Frag) (r : List V → Hp → VK → Prop) (f : FC) : Prop := ∀ (vs : List V) (ds : List D) (H : Hp) (W : Wd) (Qd : DQ) (Q : VK), Ref K H W → ImL K H ds vs → f ds W Qd → Low K H Qd Q → r vs H Q
theorem lowCB {r : List V → Hp → VK → Prop} {f : FC} (hd : CallD K r f) {σ : L2.St} {H : Hp} {Q : VK} (h : lowE K (dCB f tr) σ H Q) : tCB r (lowA K tr) σ H Q := by
  obtain ⟨ρ, W, Qd, E, q, k⟩ := h
  exact ⟨ρ, W, _, E, q, fun ds W1 vs H1 q1 t1 r1 i1 => hd vs ds H1 W1 Qd Q r1 i1 q1 (k.tp t1)⟩
theorem d_callB {id : String} {x : Str} {p : Pos} {r : List V → Hp → VK → Prop} {f : FC} (hc : CallR X (.builtin id) r) (hd : CallD X.K r f) (hm : X.mg x = none) (hv : bootBuiltins x = some (.builtin id)) (ha : PA X (e :: es) (lowA X.K tr)) (hg : Gl X x := by rfl) (hn : x ≠ "__name__" := by decide) (hdb : (x == ("__debug__" : Str)) = false := by decide)
    (he : starEach (e :: es) X.env = (false, eval e X.env) :: starEach es X.env := by rfl) (hpl : (backTo pos (starEach es X.env)).any (·.1) = false := by rfl) : PE X (.Call (.Name x p) (e :: es) [] pos) (lowE X.K (dCB f tr)) :=
  (pe_callB hc hg hm hv ha hn hdb he hpl).wk fun _ _ _ h => lowCB hd h
theorem d_callTy {T : String} {x : Str} {p : Pos} {r : List V → Hp → VK → Prop} {f : FC} (hc : CallR X (.type T) r) (hd : CallD X.K r f) (hm : X.mg x = none) (hv : bootBuiltins x = some (.type T)) (ha : PA X (e :: es) (lowA X.K tr)) (hg : Gl X x := by rfl) (hn : x ≠ "__name__" := by decide) (hdb : (x == ("__debug__" : Str)) = false := by decide)
    (he : starEach (e :: es) X.env = (false, eval e X.env) :: starEach es X.env := by rfl) (hpl : (backTo pos (starEach es X.env)).any (·.1) = false := by rfl) : PE X (.Call (.Name x p) (e :: es) [] pos) (lowE X.K (dCB f tr)) :=
  (pe_callTy hc hg hm hv ha hn hdb he hpl).wk fun _ _ _ h => lowCB hd h
theorem im1 {H : Hp} {d : D} {vs : List V} (h : ImL K H [d] vs) : ∃ v, vs = [v] ∧ Im K H d v := by
  obtain ⟨v, w, rfl, h1, h2⟩ := ImL.cons' h
  rw [ImL.nil' h2]
  exact ⟨v, rfl, h1⟩
theorem im2 {H : Hp} {d e : D} {vs : List V} (h : ImL K H [d, e] vs) : ∃ v w, vs = [v, w] ∧ Im K H d v ∧ Im K H e w := by
  obtain ⟨v, w, rfl, h1, h2⟩ := ImL.cons' h
  obtain ⟨u, rfl, h3⟩ := im1 h2
  exact ⟨v, u, rfl, h1, h3⟩
/-- a readable list -/
def LstAt (W : Wd) (a : Addr) (ds : List D) : Prop := W a = some (.lst ds) ∨ W a = some (.ro ds)
theorem LstAt.sq {H : Hp} {W : Wd} {a : Addr} {ds : List D} (r : Ref K H W) (h : LstAt W a ds) : ∃ xs, SqL K H a xs ∧ ImL K H ds xs := by
  rcases h with h | h
  · obtain ⟨xs, h1, h2⟩ := r a _ h
    exact ⟨xs, SqL.of h1, h2⟩
  · obtain ⟨xs, h1, h2⟩ := r a _ h
    exact ⟨xs, .inl h1, h2⟩
/-- len -/
def rLenA (K : Frag) : List V → Hp → VK → Prop := fun xs H Q => (∃ p ys, xs = [.ref p] ∧ (SqL K H p ys ∨ SqT K H p ys) ∧ Q (.int ys.length) H) ∨ (∃ z, xs = [.str z] ∧ z.length ≤ sizeLine ∧ Q (.int z.length) H) ∨ (∃ p kvs, xs = [.ref p] ∧ H p = some (.dK kvs) ∧ Q (.int kvs.length) H)
theorem call_lenA : CallR X (.builtin "len") (rLenA X.K) := call_len_seq.or (call_len_str.or call_lenD)
def fLen : FC := fun ds W Q => match ds with
  | [.tup xs] => Q (.int xs.length) W
  | [.str z] => z.length ≤ sizeLine ∧ Q (.int z.length) W
  | [.ref a] => (∃ xs, LstAt W a xs ∧ Q (.int xs.length) W) ∨ ∃ kvs, W a = some (.dk kvs) ∧ Q (.int kvs.length) W
  | _ => False
theorem cd_len : CallD K (rLenA K) fLen := fun vs ds H W Qd Q r i h k => by
  match ds, h with
  | [.tup xs], h =>
    obtain ⟨v, rfl, p, ys, rfl, h1, m⟩ := im1 i
    exact .inl ⟨p, ys, rfl, .inr h1.sq, k _ W _ H (show Qd (.int (xs.length : Nat)) W from h) (Tp.refl H) r (by rw [m.length]; rfl)⟩
  | [.str z], h =>
    obtain ⟨v, rfl, rfl⟩ := im1 i
    exact .inr (.inl ⟨z, rfl, h.1, k _ W _ H h.2 (Tp.refl H) r rfl⟩)
  | [.ref a], h =>
    obtain ⟨v, rfl, rfl⟩ := im1 i
    rcases h with ⟨xs, h1, q⟩ | ⟨kvs, h1, q⟩
    · obtain ⟨ys, h2, m⟩ := h1.sq r
      exact .inl ⟨a, ys, rfl, .inl h2, k _ W _ H q (Tp.refl H) r (by rw [m.length]; rfl)⟩
    · obtain ⟨ys, h2, m⟩ := r a _ h1
      have hl : kvs.length = ys.length := Paired.length m
      exact .inr (.inr ⟨a, ys, rfl, h2, k _ W _ H q (Tp.refl H) r (by rw [hl]; rfl)⟩)
theorem d_len {p : Pos} (hm : X.mg "len" = none) (ha : PA X (e :: es) (lowA X.K tr)) (hg : Gl X "len" := by rfl) (he : starEach (e :: es) X.env = (false, eval e X.env) :: starEach es X.env := by rfl) (hpl : (backTo pos (starEach es X.env)).any (·.1) = false := by rfl) :
    PE X (.Call (.Name "len" p) (e :: es) [] pos) (lowE X.K (dCB fLen tr)) := d_callB call_lenA cd_len hm PySem.boot_len ha hg (by decide) (by decide) he hpl
/-- isinstance with a built-in class -/
def tyD : D → Wd → String → Prop := fun d W t => match d with
  | .non => t = "NoneType" | .bl _ => t = "bool" | .int _ => t = "int" | .str _ => t = "str" | .tup _ => t = "tuple"
  | .ty _ => False
  | .ref a => (t = "list" ∧ ∃ ds, W a = some (.lst ds)) ∨ (t = "dict" ∧ ∃ ds, W a = some (.dk ds))
theorem tyD.ok {H : Hp} {W : Wd} {d : D} {v : V} {t : String} (r : Ref K H W) (i : Im K H d v) (h : tyD d W t) : TyX K H v (.type t) := by
  cases d with
  | non => cases (show v = .non from i); cases (show t = _ from h); exact .base .non
  | bl b => cases (show v = .bl b from i); cases (show t = _ from h); exact .base (.bl b)
  | int b => cases (show v = .int b from i); cases (show t = _ from h); exact .base (.int b)
  | str b => cases (show v = .str b from i); cases (show t = _ from h); exact .base (.str b)
  | tup ds =>
    cases (show t = _ from h)
    obtain ⟨a, xs, rfl, ⟨o, h1, _⟩, _⟩ := i
    exact .fTuple h1
  | ref a =>
    cases (show v = .ref a from i)
    rcases h with ⟨rfl, ds, h1⟩ | ⟨rfl, ds, h1⟩
    · obtain ⟨xs, h2, _⟩ := r a _ h1
      exact .base (.lst h2)
    · obtain ⟨xs, h2, _⟩ := r a _ h1
      exact .base (.dK h2)
  | ty n => exact h.elim
def fIsi : FC := fun ds W Q => ∃ d T t b, ds = [d, .ty T] ∧ tyD d W t ∧ kitB t T = some b ∧ Q (.bl b) W
theorem cd_isi : CallD K (rIsi K) fIsi := fun vs ds H W Qd Q r i h k => by
  obtain ⟨d, T, t, b, rfl, h1, h2, q⟩ := h
  obtain ⟨v, w, rfl, i1, i2⟩ := im2 i
  cases (show w = .ty T from i2)
  exact ⟨v, .ty T, .type t, .type T, b, rfl, .ty T, tyD.ok r i1 h1, kit_ty h2, k _ W _ H q (Tp.refl H) r rfl⟩
theorem d_isi {p : Pos} (hm : X.mg "isinstance" = none) (hv : bootBuiltins "isinstance" = some (.builtin "isinstance")) (ha : PA X (e :: es) (lowA X.K tr)) (hg : Gl X "isinstance" := by rfl) (he : starEach (e :: es) X.env = (false, eval e X.env) :: starEach es X.env := by rfl) (hpl : (backTo pos (starEach es X.env)).any (·.1) = false := by rfl) :
    PE X (.Call (.Name "isinstance" p) (e :: es) [] pos) (lowE X.K (dCB fIsi tr)) := d_callB call_isi cd_isi hm hv ha hg (by decide) (by decide) he hpl
/-- a built-in class by its name -/
theorem d_ty {T : String} {x : Str} {pos : Pos} (hm : X.mg x = none) (hv : bootBuiltins x = some (.type T)) (hg : Gl X x := by rfl) (hn : x ≠ "__name__" := by decide) (hd : (x == ("__debug__" : Str)) = false := by decide) : PE X (.Name x pos) (lowE X.K (dC (.ty T))) :=
  (pe_bltn hg hm hv (v := .ty T) rfl hn hd).wk fun σ H Q ⟨ρ, W, Qd, E, q, k⟩ => k _ W _ H q (Tp.refl H) E.rf rfl
/-- int(x) of an int or a truth -/
def rInt1 : List V → Hp → VK → Prop := fun xs H Q => (∃ i, xs = [.int i] ∧ Q (.int i) H) ∨ ∃ k, xs = [.bl k] ∧ Q (.int (b2i k)) H
def fInt1 : FC := fun ds W Q => match ds with
  | [.int i] => Q (.int i) W
  | [.bl k] => Q (.int (b2i k)) W
  | _ => False
theorem cd_int1 : CallD K rInt1 fInt1 := fun vs ds H W Qd Q r i h k => by
  match ds, h with
  | [.int n], h =>
    obtain ⟨v, rfl, rfl⟩ := im1 i
    exact .inl ⟨n, rfl, k _ W _ H h (Tp.refl H) r rfl⟩
  | [.bl n], h =>
    obtain ⟨v, rfl, rfl⟩ := im1 i
    exact .inr ⟨n, rfl, k _ W _ H h (Tp.refl H) r rfl⟩
/-- abs -/
def fAbs : FC := fun ds W Q => ∃ n, ds = [.int n] ∧ Q (.int (if n < 0 then -n else n)) W
/-- all, any, sum of lists -/
def fAll : FC := fun ds W Q => ∃ (a : Addr) (bs : List Bool), ds = [.ref a] ∧ LstAt W a (bs.map D.bl) ∧ Q (.bl (bs.all id)) W
theorem cd_all : CallD K (rAll K) fAll := fun vs ds H W Qd Q r i h k => by
  obtain ⟨a, bs, rfl, h1, q⟩ := h
  obtain ⟨v, rfl, rfl⟩ := im1 i
  obtain ⟨xs, h2, m⟩ := h1.sq r
  rw [m.bls'] at h2
  exact ⟨a, bs, rfl, h2, k _ W _ H q (Tp.refl H) r rfl⟩
def fAny : FC := fun ds W Q => ∃ (a : Addr) (bs : List Bool), ds = [.ref a] ∧ LstAt W a (bs.map D.bl) ∧ Q (.bl (bs.any id)) W
theorem cd_any : CallD K (rAny K) fAny := fun vs ds H W Qd Q r i h k => by
  obtain ⟨a, bs, rfl, h1, q⟩ := h
  obtain ⟨v, rfl, rfl⟩ := im1 i
  obtain ⟨xs, h2, m⟩ := h1.sq r
  rw [m.bls'] at h2
  exact ⟨a, bs, rfl, h2, k _ W _ H q (Tp.refl H) r rfl⟩
def fSum : FC := fun ds W Q => ∃ (a : Addr) (ns : List Int), ds = [.ref a] ∧ LstAt W a (ns.map D.int) ∧ Q (.int ns.sum) W
theorem cd_sum : CallD K (rSum K) fSum := fun vs ds H W Qd Q r i h k => by
  obtain ⟨a, bs, rfl, h1, q⟩ := h
  obtain ⟨v, rfl, rfl⟩ := im1 i
  obtain ⟨xs, h2, m⟩ := h1.sq r
  rw [m.ints'] at h2
  exact ⟨a, bs, rfl, h2, k _ W _ H q (Tp.refl H) r rfl⟩
/-- tuple(..) of a list or a tuple; a new tuple's object told -/
def rTupleOf (K : Frag) : List V → Hp → VK → Prop := fun xs H Q => ∃ p ys, xs = [.ref p] ∧ ((SqL K H p ys ∧ ∀ l o, H l = none → o.dict = none → Q (.ref l) (upd H l (.frz o (.tup ys)))) ∨ (SqT K H p ys ∧ Q (.ref p) H))
theorem call_tupleF : CallR X (.type "tuple") (rTupleOf X.K) := by
  intro pins s σ H xs us Q I r h
  obtain ⟨p, ys, rfl, h⟩ := h
  obtain ⟨u, rfl, rx⟩ := vals1 r
  cases rx
  rcases h with ⟨hq, q⟩ | ⟨hq, q⟩
  · obtain ⟨its, r', pl, hz⟩ := I.list hq
    have hlen := r'.length
    refine call_tuple_list pl.isList (fun h' kp => ?_) (by simp only [List.size_toArray] <;> omega)
    have I1 : L2.Inv X pins σ H { s with heap := h' } := I.kept (t' := s.toks) kp
    have I2 : L2.Inv X pins σ (upd H h'.objs.size (.frz { cls := .type "tuple", data := .seq its.toArray } (.tup ys))) { s with heap := h'.push { cls := .type "tuple", data := .seq its.toArray } } :=
      I1.laid (t' := s.toks) (fun b o e => Heap.get?_push_of_some _ e) (Nat.le_refl _) ⟨Heap.get?_push_size _ rfl, hz, its, r', IsTup.new _ _⟩
    exact ⟨.ref h'.objs.size, _, I2, rfl, q _ _ (I1.hok.fresh (Nat.le_refl _)) rfl⟩
  · obtain ⟨its, r', pl, hz⟩ := I.tuple hq
    exact call_tuple_same pl ⟨.ref p, H, I, rfl, q⟩
def fTuple : FC := fun ds W Q => match ds with
  | [.tup xs] => Q (.tup xs) W
  | [.ref a] => ∃ xs, LstAt W a xs ∧ Q (.tup xs) W
  | _ => False
theorem cd_tuple : CallD K (rTupleOf K) fTuple := fun vs ds H W Qd Q r i h k => by
  match ds, h with
  | [.tup xs], h =>
    obtain ⟨v, rfl, p, ys, rfl, h1, m⟩ := im1 i
    exact ⟨p, ys, rfl, .inr ⟨h1.sq, k _ W _ H h (Tp.refl H) r ⟨p, ys, rfl, h1, m⟩⟩⟩
  | [.ref a], h =>
    obtain ⟨v, rfl, rfl⟩ := im1 i
    obtain ⟨xs, h1, q⟩ := h
    obtain ⟨ys, h2, m⟩ := h1.sq r
    refine ⟨a, ys, rfl, .inl ⟨h2, fun l o hl ho => ?_⟩⟩
    have t := Tp.new (o := .frz o (.tup ys)) hl
    exact k _ W _ _ q t (r.new hl) ⟨l, ys, rfl, TupF.new ho, m.mono t⟩
/-- list(..) -/
def rListOf (K : Frag) : List V → Hp → VK → Prop := fun xs H Q => ∃ p ys, xs = [.ref p] ∧ (SqL K H p ys ∨ SqT K H p ys) ∧ ∀ l, H l = none → Q (.ref l) (upd H l (.lst ys))
def fList : FC := fun ds W Q => match ds with
  | [.tup xs] => ∀ p, W p = none → Q (.ref p) (wset W p (.lst xs))
  | [.ref a] => ∃ xs, LstAt W a xs ∧ ∀ p, W p = none → Q (.ref p) (wset W p (.lst xs))
  | _ => False
theorem cd_list : CallD K (rListOf K) fList := fun vs ds H W Qd Q r i h k => by
  match ds, h with
  | [.tup xs], h =>
    obtain ⟨v, rfl, p, ys, rfl, h1, m⟩ := im1 i
    refine ⟨p, ys, rfl, .inr h1.sq, fun l hl => ?_⟩
    have t := Tp.new (o := .lst ys) hl
    exact k _ _ _ _ (h l (r.free hl)) t (r.laid hl ⟨ys, upd_same, m.mono t⟩) rfl
  | [.ref a], h =>
    obtain ⟨v, rfl, rfl⟩ := im1 i
    obtain ⟨xs, h1, q⟩ := h
    obtain ⟨ys, h2, m⟩ := h1.sq r
    refine ⟨a, ys, rfl, .inl h2, fun l hl => ?_⟩
    have t := Tp.new (o := .lst ys) hl
    exact k _ _ _ _ (q l (r.free hl)) t (r.laid hl ⟨ys, upd_same, m.mono t⟩) rfl
end
end DL

/-! DL4: methods of lists, dicts, defs, statements. -/
namespace DL
open PySem PySem.Spec L2
open PyProof.Rows hiding St

section
variable {X : Cx} {a b c e o i : Expr} {es : List Expr} {ta tb tc to td ty : TED} {tr : TAD} {pos : Pos} {K : Frag}

/-! ### methods of a list that stands in W -/
abbrev FM := Addr → List D → Wd → DQ → Prop
def dML (f : FM) (to : TED) (t : TAD) : TED := fun ρ W Q => to ρ W fun d W1 => ∃ a, d = .ref a ∧ (∃ ds, W1 a = some (.lst ds)) ∧ t ρ W1 fun ds W2 => f a ds W2 Q
def MetD (K : Frag) (r : V → List V → Hp → VK → Prop) (f : FM) : Prop := ∀ (a : Addr) (vs : List V) (ds : List D) (H : Hp) (W : Wd) (Qd : DQ) (Q : VK), Ref K H W → ImL K H ds vs → f a ds W Qd → Low K H Qd Q → r (.ref a) vs H Q
theorem lowML {r : V → List V → Hp → VK → Prop} {f : FM} (hd : MetD K r f) {σ : L2.St} {H : Hp} {Q : VK} (h : lowE K (dML f to tr) σ H Q) : tBM K "list" r (lowE K to) (lowA K tr) σ H Q := by
  obtain ⟨ρ, W, Qd, E, q, k⟩ := h
  refine ⟨ρ, W, _, E, q, fun d W1 x H1 q1 t1 r1 i1 => ?_⟩
  obtain ⟨a, rfl, ⟨ds, h1⟩, q1⟩ := q1
  cases (show x = .ref a from i1)
  obtain ⟨xs, h2, _⟩ := r1 a _ h1
  exact ⟨.inl ⟨rfl, xs, SqL.of h2⟩, ρ, W1, _, E.to t1 r1, q1, fun ds W2 vs H2 q2 t2 r2 i2 => hd a vs ds H2 W2 Qd Q r2 i2 q2 (k.tp (t1.trans t2))⟩
theorem lowML0 {r : V → List V → Hp → VK → Prop} {f : FM} (hd : MetD K r f) {σ : L2.St} {H : Hp} {Q : VK} (h : lowE K (dML f to dNil) σ H Q) : tBM0 K "list" r (lowE K to) σ H Q := by
  obtain ⟨ρ, W, Qd, E, q, k⟩ := h
  refine ⟨ρ, W, _, E, q, fun d W1 x H1 q1 t1 r1 i1 => ?_⟩
  obtain ⟨a, rfl, ⟨ds, h1⟩, q1⟩ := q1
  cases (show x = .ref a from i1)
  obtain ⟨xs, h2, _⟩ := r1 a _ h1
  exact ⟨.inl ⟨rfl, xs, SqL.of h2⟩, hd a [] [] H1 W1 Qd Q r1 rfl q1 (k.tp t1)⟩
def fAppend : FM := fun a ds W Q => ∃ x xs, ds = [x] ∧ W a = some (.lst xs) ∧ xs.length < sizeLine ∧ Q .non (wset W a (.lst (xs ++ [x])))
theorem md_append : MetD K rAppend fAppend := fun a vs ds H W Qd Q r i h k => by
  obtain ⟨x, xs, rfl, h1, hz, q⟩ := h
  obtain ⟨v, rfl, i1⟩ := im1 i
  obtain ⟨ys, h2, m⟩ := r a _ h1
  exact ⟨a, ys, v, rfl, rfl, h2, by rw [← m.length]; exact hz, k _ _ _ _ q (tp_lst h2) (r.setL h2 (m.snoc i1)) rfl⟩
theorem d_append {apos cpos : Pos} (ho : PE X o (lowE X.K to)) (ha : PA X (e :: es) (lowA X.K tr)) (hbase : attributeBase o "append" X.env (eval o X.env) = eval o X.env := by rfl)
    (hfew : ((backTo cpos (starEach (e :: es) X.env)).all (fun x => !x.1) && (backToKw cpos (keywordEach [] X.env)).all (fun x => x.1.isSome)
      && decide ((e :: es).length + ([] : List Keyword).length + (if ([] : List Keyword).isEmpty then 0 else 1) < 30)) = true := by rfl)
    (hline : (apos.endLine == cpos.line) = true := by rfl) (hs : starEach (e :: es) X.env = (false, eval e X.env) :: starEach es X.env := by rfl) (hplain : (backTo cpos (starEach es X.env)).any (·.1) = false := by rfl) :
    PE X (.Call (.Attribute o "append" apos) (e :: es) [] cpos) (lowE X.K (dML fAppend to tr)) :=
  (pe_bm PySem.F.plainAttrs_list PySem.F.slot_list_append PySem.F.type_list_append mt_append ho ha hbase hfew hline hs hplain).wk fun _ _ _ h => lowML md_append h
def fExtend : FM := fun a ds W Q => ∃ b xs ys, ds = [.ref b] ∧ W a = some (.lst xs) ∧ W b = some (.lst ys) ∧ xs.length + ys.length ≤ sizeLine ∧ Q .non (wset W a (.lst (xs ++ ys)))
theorem md_extend : MetD K rExtend fExtend := fun a vs ds H W Qd Q r i h k => by
  obtain ⟨b, xs, zs, rfl, h1, h3, hz, q⟩ := h
  obtain ⟨v, rfl, i1⟩ := im1 i
  cases (show v = .ref b from i1)
  obtain ⟨ys, h2, m⟩ := r a _ h1
  obtain ⟨us, h4, m2⟩ := r b _ h3
  exact ⟨a, b, ys, us, rfl, rfl, h2, h4, by rw [← m.length, ← m2.length]; exact hz, k _ _ _ _ q (tp_lst h2) (r.setL h2 (m.append m2)) rfl⟩
theorem d_extend {apos cpos : Pos} (ho : PE X o (lowE X.K to)) (ha : PA X (e :: es) (lowA X.K tr)) (hbase : attributeBase o "extend" X.env (eval o X.env) = eval o X.env := by rfl)
    (hfew : ((backTo cpos (starEach (e :: es) X.env)).all (fun x => !x.1) && (backToKw cpos (keywordEach [] X.env)).all (fun x => x.1.isSome)
      && decide ((e :: es).length + ([] : List Keyword).length + (if ([] : List Keyword).isEmpty then 0 else 1) < 30)) = true := by rfl)
    (hline : (apos.endLine == cpos.line) = true := by rfl) (hs : starEach (e :: es) X.env = (false, eval e X.env) :: starEach es X.env := by rfl) (hplain : (backTo cpos (starEach es X.env)).any (·.1) = false := by rfl) :
    PE X (.Call (.Attribute o "extend" apos) (e :: es) [] cpos) (lowE X.K (dML fExtend to tr)) :=
  (pe_bm PySem.F.plainAttrs_list PySem.F.slot_list_extend PySem.F.type_list_extend mt_extend ho ha hbase hfew hline hs hplain).wk fun _ _ _ h => lowML md_extend h
def fPop : FM := fun a ds W Q => ∃ xs x, ds = [] ∧ W a = some (.lst xs) ∧ xs[xs.length - 1]? = some x ∧ Q x (wset W a (.lst xs.dropLast))
theorem md_pop : MetD K rPop fPop := fun a vs ds H W Qd Q r i h k => by
  obtain ⟨xs, x, rfl, h1, h3, q⟩ := h
  rw [ImL.nil' i]
  obtain ⟨ys, h2, m⟩ := r a _ h1
  obtain ⟨v, h4, i1⟩ := m.get h3
  rw [m.length] at h4
  exact ⟨a, ys, v, rfl, rfl, h2, h4, k _ _ _ _ q (tp_lst h2) (r.setL h2 m.dropLast) (i1.mono (tp_lst h2))⟩
theorem d_pop {apos cpos : Pos} (ho : PE X o (lowE X.K to)) (hbase : attributeBase o "pop" X.env (eval o X.env) = eval o X.env := by rfl) (hline : (apos.endLine == cpos.line) = true := by rfl) :
    PE X (.Call (.Attribute o "pop" apos) [] [] cpos) (lowE X.K (dML fPop to dNil)) :=
  (pe_bm0 PySem.F.plainAttrs_list PySem.F.slot_list_pop PySem.F.type_list_pop mt_pop ho hbase hline).wk fun _ _ _ h => lowML0 md_pop h
def fPopAt : FM := fun a ds W Q => ∃ (xs : List D) (x : D) (j : Nat), ds = [.int (j : Int)] ∧ W a = some (.lst xs) ∧ xs[j]? = some x ∧ Q x (wset W a (.lst (xs.eraseIdx j)))
theorem md_popAt {X : Cx} {pins : List (Addr × Obj)} {s : Shared} {σ : L2.St} {H : Hp} {v : Value} {vs : List V} {us : List Value} {Q : VK} {a : Addr} {ds : List D} {W : Wd} {Qd : DQ} (I : Inv X pins σ H s) (rv : RelV (.ref a) v) (rvs : Vals vs us) (r : Ref X.K H W) (i : ImL X.K H ds vs) (h : fPopAt a ds W Qd) (k : Low X.K H Qd Q) :
    wpAny (model X.prog X.w) X.A (call (.builtin "list.pop") (v :: us)) (EP X pins σ Q) X.xe s := by
  obtain ⟨xs, x, j, rfl, h1, h3, q⟩ := h
  obtain ⟨w, rfl, i1⟩ := im1 i
  cases (show w = .int (j : Int) from i1)
  obtain ⟨ys, h2, m⟩ := r a _ h1
  obtain ⟨u, h4, i2⟩ := m.get h3
  obtain ⟨hj, _⟩ := List.getElem?_eq_some_iff.mp h4
  have hz : ys.length ≤ sizeLine := (I.hok a _ h2).1
  have hs := sizeLine_eq
  exact mt_popAt pins s σ H (.ref a) [.int (j : Int)] v us Q I rv rvs ⟨a, ys, (j : Int), j, u, rfl, rfl, h2, by omega, by omega, by
    have e : atI ys (j : Int) = some u := atI_nat h4
    obtain ⟨j', e1, e2, e3, _, _⟩ := atI_get e
    have : seqIndex? (j : Int) ys.length = some (j : Int).toNat := PySem.StrLaws.seqIndex_nonneg (by omega) (by omega)
    rw [this]; simp, h4, k _ _ _ _ q (tp_lst h2) (r.setL h2 (m.eraseIdx j)) (i2.mono (tp_lst h2))⟩
def rPopAt' (K : Frag) (Pd : Addr → List D → Wd → DQ → Prop) : V → List V → Hp → VK → Prop := fun x vs H Q => ∃ a ds W Qd, x = .ref a ∧ Ref K H W ∧ ImL K H ds vs ∧ Pd a ds W Qd ∧ Low K H Qd Q
theorem mt_popAt' : MtR X "list.pop" (rPopAt' X.K fPopAt) := by
  intro pins s σ H x xs v us Q I rx rxs h
  obtain ⟨a, ds, W, Qd, rfl, r, i, q, k⟩ := h
  exact md_popAt I rx rxs r i q k
theorem d_popAt {apos cpos : Pos} (ho : PE X o (lowE X.K to)) (ha : PA X (e :: es) (lowA X.K tr)) (hbase : attributeBase o "pop" X.env (eval o X.env) = eval o X.env := by rfl)
    (hfew : ((backTo cpos (starEach (e :: es) X.env)).all (fun x => !x.1) && (backToKw cpos (keywordEach [] X.env)).all (fun x => x.1.isSome)
      && decide ((e :: es).length + ([] : List Keyword).length + (if ([] : List Keyword).isEmpty then 0 else 1) < 30)) = true := by rfl)
    (hline : (apos.endLine == cpos.line) = true := by rfl) (hs : starEach (e :: es) X.env = (false, eval e X.env) :: starEach es X.env := by rfl) (hplain : (backTo cpos (starEach es X.env)).any (·.1) = false := by rfl) :
    PE X (.Call (.Attribute o "pop" apos) (e :: es) [] cpos) (lowE X.K (dML fPopAt to tr)) :=
  (pe_bm PySem.F.plainAttrs_list PySem.F.slot_list_pop PySem.F.type_list_pop mt_popAt' ho ha hbase hfew hline hs hplain).wk fun _ _ _ h => lowML (fun a vs ds H W Qd Q r i q k => ⟨a, ds, W, Qd, rfl, r, i, q, k⟩) h
/-- n.bit_length() -/
def dBits (to : TED) : TED := fun ρ W Q => to ρ W fun d W1 => ∃ n, d = .int n ∧ Q (.int (Builtin.Int.intBits n : Nat)) W1
theorem d_bits {apos pos : Pos} (ho : PE X o (lowE X.K to)) (hbase : attributeBase o "bit_length" X.env (eval o X.env) = eval o X.env := by rfl) (hline : (apos.endLine == pos.line) = true := by rfl) :
    PE X (.Call (.Attribute o "bit_length" apos) [] [] pos) (lowE X.K (dBits to)) := (pe_bits ho hbase hline).wk fun σ H Q ⟨ρ, W, Qd, E, q, k⟩ => ⟨ρ, W, _, E, q, fun d W1 x H1 q1 t1 r1 i1 => by
  obtain ⟨n, rfl, q1⟩ := q1
  exact ⟨n, i1, k _ W1 _ H1 q1 t1 r1 rfl⟩⟩

/-! ### dicts -/
def kD : Key → D
  | .inl n => .int n
  | .inr x => .str x
theorem im_kD {H : Hp} {k : Key} {v : V} (h : Im K H (kD k) v) : v = kV k := by
  cases k with
  | inl n => exact h
  | inr x => exact h
theorem kD_im {H : Hp} (k : Key) : Im K H (kD k) (kV k) := by
  cases k with
  | inl n => rfl
  | inr x => rfl
theorem imL_kD {H : Hp} : ∀ {ks : List Key} {vs : List V}, ImL K H (ks.map kD) vs → vs = ks.map kV
  | [], _, h => h
  | k :: ks, vs, h => by
    obtain ⟨v, w, rfl, h1, h2⟩ := ImL.cons' h
    rw [im_kD h1, imL_kD h2]
    rfl
section
variable {κ : Type} [DecidableEq κ]
def valD (kvs : List (κ × D)) (k : κ) : Option D := (kvs.find? fun kv => decide (kv.1 = k)).map (·.2)
def putD (kvs : List (κ × D)) (k : κ) (v : D) : List (κ × D) := if (kvs.any fun kv => decide (kv.1 = k)) = true then kvs.map (fun kv => if kv.1 = k then (kv.1, v) else kv) else kvs ++ [(k, v)]
def dropD (kvs : List (κ × D)) (k : κ) : List (κ × D) := kvs.filter fun kv => decide (kv.1 ≠ k)
theorem valD_nil {k : κ} : valD ([] : List (κ × D)) k = none := rfl
theorem valD_cons {p : κ × D} {r : List (κ × D)} {k : κ} : valD (p :: r) k = if p.1 = k then some p.2 else valD r k := by
  unfold valD
  rw [List.find?_cons]
  by_cases h : p.1 = k
  · simp [h]
  · simp [h]
def ImO (K : Frag) (H : Hp) : Option D → Option V → Prop
  | some d, some v => Im K H d v
  | none, none => True
  | _, _ => False
theorem KVm.val {H : Hp} {kvs : List (κ × D)} {vs : List (κ × V)} (m : KVm K H kvs vs) (k : κ) : ImO K H (valD kvs k) (valV vs k) := by
  unfold KVm at m
  induction m with
  | nil => exact True.intro
  | @cons p q ps qs h t ih =>
    rw [valD_cons]
    by_cases e : p.1 = k
    · rw [if_pos e, valV_pos (by rw [← h.1]; exact e)]
      exact h.2
    · rw [if_neg e, valV_neg (by rw [← h.1]; exact e)]
      exact ih
theorem KVm.any {H : Hp} {kvs : List (κ × D)} {vs : List (κ × V)} (m : KVm K H kvs vs) (k : κ) : (kvs.any fun kv => decide (kv.1 = k)) = (vs.any fun kv => decide (kv.1 = k)) := by
  unfold KVm at m
  induction m with
  | nil => rfl
  | @cons p q ps qs h t ih => rw [List.any_cons, List.any_cons, ih, h.1]
theorem KVm.append {H : Hp} {kvs us : List (κ × D)} {vs ws : List (κ × V)} (m : KVm K H kvs vs) (n : KVm K H us ws) : KVm K H (kvs ++ us) (vs ++ ws) := by
  unfold KVm at m
  induction m with
  | nil => exact n
  | cons h t ih => exact Paired.cons h ih
theorem KVm.put {H : Hp} {kvs : List (κ × D)} {vs : List (κ × V)} {d : D} {v : V} (m : KVm K H kvs vs) (k : κ) (i : Im K H d v) : KVm K H (putD kvs k d) (putK vs k v) := by
  unfold putD putK
  rw [m.any k]
  split
  · unfold KVm at m
    induction m with
    | nil => exact Paired.nil
    | @cons p q ps qs h t ih =>
      rename_i hc
      rw [List.map_cons, List.map_cons]
      have hh : (fun (p : κ × D) (q : κ × V) => p.1 = q.1 ∧ Im K H p.2 q.2) (if p.1 = k then (p.1, d) else p) (if q.1 = k then (q.1, v) else q) := by
        by_cases e : p.1 = k
        · rw [if_pos e, if_pos (by rw [← h.1]; exact e)]
          exact ⟨h.1, i⟩
        · rw [if_neg e, if_neg (by rw [← h.1]; exact e)]
          exact h
      by_cases hq : (qs.any fun kv => decide (kv.1 = k)) = true
      · exact Paired.cons hh (ih hq)
      · refine Paired.cons hh ?_
        have hn : ∀ z ∈ qs, z.1 ≠ k := fun z hz e => hq (List.any_eq_true.mpr ⟨z, hz, decide_eq_true e⟩)
        clear ih hc hh h hq
        induction t with
        | nil => exact Paired.nil
        | @cons p' q' ps' qs' h' t' ih' =>
          rw [List.map_cons, List.map_cons]
          have n1 : q'.1 ≠ k := hn q' (by simp)
          rw [if_neg (by rw [h'.1]; exact n1), if_neg n1]
          exact Paired.cons h' (ih' fun z hz => hn z (by simp [hz]))
  · exact m.append (Paired.cons ⟨rfl, i⟩ Paired.nil)
theorem KVm.drop {H : Hp} {kvs : List (κ × D)} {vs : List (κ × V)} (m : KVm K H kvs vs) (k : κ) : KVm K H (dropD kvs k) (dropK vs k) := by
  unfold KVm at m
  induction m with
  | nil => exact Paired.nil
  | @cons p q ps qs h t ih =>
    unfold dropD dropK at ih ⊢
    by_cases e : p.1 = k
    · rw [List.filter_cons, List.filter_cons, if_neg (by simp [e]), if_neg (by simp [← h.1, e])]
      exact ih
    · rw [List.filter_cons, List.filter_cons, if_pos (by simp [e]), if_pos (by simp [← h.1, e])]
      exact Paired.cons h ih
end
/-- what stands at a key -/
def GetD (W : Wd) (a : Addr) (e : D) (o : Option D) : Prop := ∃ kvs k, W a = some (.dk kvs) ∧ e = kD k ∧ o = valD kvs k
theorem GetD.k {W : Wd} {a : Addr} {kvs : List (Key × D)} (k : Key) (h : W a = some (.dk kvs)) : GetD W a (kD k) (valD kvs k) := ⟨kvs, k, h, rfl, rfl⟩
theorem GetD.ok {H : Hp} {W : Wd} {a : Addr} {e : D} {y : V} {o : Option D} (r : Ref K H W) (i : Im K H e y) (g : GetD W a e o) : ∃ u, DGet H a y u ∧ ImO K H o u := by
  obtain ⟨kvs, k, h, rfl, rfl⟩ := g
  obtain ⟨vs, h1, m⟩ := r a _ h
  rw [im_kD i]
  exact ⟨_, DGet.k h1, m.val k⟩
def PutD (W : Wd) (a : Addr) (e d : D) (W' : Wd) : Prop := ∃ kvs k, W a = some (.dk kvs) ∧ e = kD k ∧ kvs.length < sizeLine ∧ W' = wset W a (.dk (putD kvs k d))
theorem KVm.len {κ : Type} {H : Hp} {kvs : List (κ × D)} {vs : List (κ × V)} (m : KVm K H kvs vs) : kvs.length = vs.length := Paired.length m
theorem tp_dk {H : Hp} {a : Addr} {xs ys : List (Key × V)} (h : H a = some (.dK xs)) : Tp H (upd H a (.dK ys)) := Tp.mut h fun _ _ z => nomatch z
theorem PutD.ok {H : Hp} {W W' : Wd} {a : Addr} {e d : D} {y v : V} (r : Ref K H W) (i : Im K H e y) (j : Im K H d v) (g : PutD W a e d W') : ∃ H', DPut H a y v H' ∧ Tp H H' ∧ Ref K H' W' := by
  obtain ⟨kvs, k, h, rfl, hz, rfl⟩ := g
  obtain ⟨vs, h1, m⟩ := r a _ h
  rw [im_kD i]
  exact ⟨_, DPut.k h1 (by rw [← m.len]; exact hz), tp_dk h1, r.mut (tp_dk h1) ⟨_, upd_same, (m.put k j).mono (tp_dk h1)⟩⟩
def dDGet (td ty : TED) : TED := fun ρ W Q => td ρ W fun x W1 => ty ρ W1 fun y W2 => ∃ a d, x = .ref a ∧ GetD W2 a y (some d) ∧ Q d W2
theorem d_dget (hu : X.A.units + 1 < cLine) (ho : PE X o (lowE X.K td)) (hi : PE X i (lowE X.K ty)) (hs : NoSl i := by exact fun _ _ => rfl) : PE X (.Subscript o i pos) (lowE X.K (dDGet td ty)) :=
  (pe_dget hu ho hi hs).wk fun σ H Q ⟨ρ, W, Qd, E, q, k⟩ => ⟨ρ, W, _, E, q, fun d W1 x H1 q1 t1 r1 i1 => ⟨ρ, W1, _, E.to t1 r1, q1, fun e W2 y H2 q2 t2 r2 i2 => by
    obtain ⟨a, v, rfl, g, q2⟩ := q2
    obtain ⟨u, g2, im⟩ := g.ok r2 i2
    cases u with
    | none => exact im.elim
    | some u => exact ⟨a, u, i1, g2, k _ W2 _ H2 q2 (t1.trans t2) r2 im⟩⟩⟩
def dDIn (neg : Bool) (ty td : TED) : TED := fun ρ W Q => ty ρ W fun y W1 => td ρ W1 fun x W2 => ∃ a o, x = .ref a ∧ GetD W2 a y o ∧ Q (.bl (if neg then !o.isSome else o.isSome)) W2
theorem ImO.some {H : Hp} {o : Option D} {u : Option V} (h : ImO K H o u) : o.isSome = u.isSome := by
  cases o <;> cases u <;> first | rfl | exact h.elim
theorem lowDIn {σ : L2.St} {H : Hp} {Q : VK} (h : lowE K (dDIn false ty td) σ H Q) : tDIn (lowE K ty) (lowE K td) σ H Q := by
  obtain ⟨ρ, W, Qd, E, q, k⟩ := h
  exact ⟨ρ, W, _, E, q, fun d W1 x H1 q1 t1 r1 i1 => ⟨ρ, W1, _, E.to t1 r1, q1, fun e W2 y H2 q2 t2 r2 i2 => by
    obtain ⟨a, v, rfl, g, q2⟩ := q2
    obtain ⟨u, g2, im⟩ := g.ok r2 (i1.mono t2)
    exact ⟨a, u, i2, g2, k (.bl u.isSome) W2 (.bl u.isSome) H2 (by simpa [im.some] using q2) (t1.trans t2) r2 rfl⟩⟩⟩
theorem lowDNotIn {σ : L2.St} {H : Hp} {Q : VK} (h : lowE K (dDIn true ty td) σ H Q) : tDNotIn (lowE K ty) (lowE K td) σ H Q := by
  obtain ⟨ρ, W, Qd, E, q, k⟩ := h
  exact ⟨ρ, W, _, E, q, fun d W1 x H1 q1 t1 r1 i1 => ⟨ρ, W1, _, E.to t1 r1, q1, fun e W2 y H2 q2 t2 r2 i2 => by
    obtain ⟨a, v, rfl, g, q2⟩ := q2
    obtain ⟨u, g2, im⟩ := g.ok r2 (i1.mono t2)
    exact ⟨a, u, i2, g2, k (.bl (!u.isSome)) W2 (.bl (!u.isSome)) H2 (by simpa [im.some] using q2) (t1.trans t2) r2 rfl⟩⟩⟩
theorem d_din (hu : X.A.units + 1 < cLine) (hi : PE X i (lowE X.K ty)) (ho : PE X o (lowE X.K td)) (hm : behindInMarks .In o = false := by rfl) : PE X (.Compare i [.In] [o] pos) (lowE X.K (dDIn false ty td)) := (pe_cmp (pc_din hu hi ho) hm).wk fun _ _ _ h => lowDIn h
theorem d_dnotin (hu : X.A.units + 1 < cLine) (hi : PE X i (lowE X.K ty)) (ho : PE X o (lowE X.K td)) (hm : behindInMarks .NotIn o = false := by rfl) : PE X (.Compare i [.NotIn] [o] pos) (lowE X.K (dDIn true ty td)) := (pe_cmp (pc_dnotin hu hi ho) hm).wk fun _ _ _ h => lowDNotIn h
theorem d_dinT (hu : X.A.units + 1 < cLine) (hi : PE X i (lowE X.K ty)) (ho : PE X o (lowE X.K td)) (hm : behindInMarks .In o = false := by rfl) : PT X (.Compare i [.In] [o] pos) (lowT X.K (dTest (dDIn false ty td))) := (pt_cmp (pc_din hu hi ho) hm).wk fun _ _ _ h => lowTest (fun _ _ _ q => lowDIn q) h
theorem d_dnotinT (hu : X.A.units + 1 < cLine) (hi : PE X i (lowE X.K ty)) (ho : PE X o (lowE X.K td)) (hm : behindInMarks .NotIn o = false := by rfl) : PT X (.Compare i [.NotIn] [o] pos) (lowT X.K (dTest (dDIn true ty td))) := (pt_cmp (pc_dnotin hu hi ho) hm).wk fun _ _ _ h => lowTest (fun _ _ _ q => lowDNotIn q) h
/-- {} -/
def dNewK : TED := fun _ W Q => ∀ p, W p = none → Q (.ref p) (wset W p (.dk []))
theorem d_newK : PE X (.Dict [] [] pos) (lowE X.K dNewK) := pe_dnewK.wk fun σ H Q ⟨ρ, W, Qd, E, q, k⟩ p hp => k _ _ _ _ (q p (E.rf.free hp)) (Tp.new hp) (E.rf.laid hp ⟨[], upd_same, Paired.nil⟩) rfl
/-- d.pop(k), the key there -/
def dDPop (td ty : TED) : TED := fun ρ W Q => td ρ W fun x W1 => ∃ a, x = .ref a ∧ (∃ us, W1 a = some (.dk us)) ∧ ty ρ W1 fun y W2 => ∃ kvs k d, W2 a = some (.dk kvs) ∧ y = kD k ∧ valD kvs k = some d ∧ Q d (wset W2 a (.dk (dropD kvs k)))
theorem d_dpop {apos cpos : Pos} (ho : PE X o (lowE X.K td)) (he : PE X e (lowE X.K ty)) (hb : attributeBase o "pop" X.env (eval o X.env) = eval o X.env := by rfl)
    (hf : ((backTo cpos (starEach [e] X.env)).all (fun x => !x.1) && (backToKw cpos (keywordEach [] X.env)).all (fun x => x.1.isSome)
    && decide (([e] : List Expr).length + ([] : List Keyword).length + (if ([] : List Keyword).isEmpty then 0 else 1) < 30)) = true := by rfl)
    (hl : (apos.endLine == cpos.line) = true := by rfl) (ht : backTo cpos (starEach [e] X.env) = [(false, eval e X.env)] := by rfl) :
    PE X (.Call (.Attribute o "pop" apos) [e] [] cpos) (lowE X.K (dDPop td ty)) :=
  (pe_dpop1 ho he ⟨hb, hf, hl, ht⟩).wk fun σ H Q ⟨ρ, W, Qd, E, q, k⟩ => ⟨ρ, W, _, E, q, fun d W1 x H1 q1 t1 r1 i1 => by
    obtain ⟨a, rfl, ⟨us, h1⟩, q1⟩ := q1
    obtain ⟨vs, h2, _⟩ := r1 a _ h1
    refine ⟨a, i1, .inl ⟨vs, .inl h2⟩, ρ, W1, _, E.to t1 r1, q1, fun e W2 y H2 q2 t2 r2 i2 => ?_⟩
    obtain ⟨kvs, kk, d, h3, rfl, h4, q2⟩ := q2
    obtain ⟨ws, h5, m⟩ := r2 a _ h3
    have mv := m.val kk
    rw [h4] at mv
    cases hv : valV ws kk with
    | none => rw [hv] at mv; exact mv.elim
    | some v =>
      rw [hv] at mv
      exact ⟨ws, kk, v, h5, im_kD i2, hv, k _ _ _ _ q2 ((t1.trans t2).trans (tp_dk h5)) (r2.mut (tp_dk h5) ⟨_, upd_same, (m.drop kk).mono (tp_dk h5)⟩) (Im.mono (tp_dk h5) mv)⟩⟩
end
end DL

/-! DL5: defs and their calls, statements, loops, comprehensions. -/
namespace DL
open PySem PySem.Spec L2 RZ
open PyProof.Rows hiding St

/-! ### the promise of a def over data -/
abbrev SpD := List D → Wd → DQ → Prop
def lowSp (K : Frag) (sp : SpD) : Sp := fun vs H Q _ => ∃ ds W R, ImL K H ds vs ∧ Ref K H W ∧ sp ds W R ∧ Low K H R Q
/-- a def of the text, called by its name -/
structure Fn (P : Program) (w : World) (K : Frag) (mg : Str → Option Value) (base : Heap) (k : Nat) (x : Str) (sp : SpD) : Prop where
  ex : ∃ (f : Addr) (fd : FuncData) (ps : List Str), FnOk P w K mg base CX0 k f fd ps (lowSp K sp) ∧ mg x = some (.ref f) ∧ PySem.W.keepIn K (.ref f) = true ∧ Binds K fd ps []
def dCall (sp : SpD) (t : TAD) : TED := fun ρ W Q => t ρ W fun ds W1 => sp ds W1 Q
section
variable {P : Program} {w : World} {K : Frag} {mg : Str → Option Value} {base : Heap} {k : Nat} {x : Str} {sp : SpD}
theorem Fn.mono {j : Nat} (F : Fn P w K mg base k x sp) (h : k ≤ j) : Fn P w K mg base j x sp := by
  obtain ⟨f, fd, ps, h1, h2, h3, h4⟩ := F.ex
  exact ⟨f, fd, ps, h1.mono h, h2, h3, h4⟩
theorem Fn.imp {sp' : SpD} (F : Fn P w K mg base k x sp) (h : ∀ ds W R, sp' ds W R → sp ds W R) : Fn P w K mg base k x sp' := by
  obtain ⟨f, fd, ps, h1, h2, h3, h4⟩ := F.ex
  exact ⟨f, fd, ps, h1.imp fun vs H Q E ⟨ds, W, R, i, r, q, kk⟩ => ⟨ds, W, R, i, r, h _ _ _ q, kk⟩, h2, h3, h4⟩
/-- the slots at a def's start -/
def startD (N : List Str) (ds : List D) : DSt := ds.map some ++ List.replicate (N.length - ds.length) none
theorem sl_start {H : Hp} (N : List Str) {ds : List D} {vs : List V} (i : ImL K H ds vs) : Sl K (L2.start N vs) (startD N ds) H := by
  unfold L2.start startD
  refine ⟨by simp [i.length], fun j d h => ?_⟩
  by_cases hj : j < ds.length
  · rw [List.getElem?_append_left (by simpa using hj), List.getElem?_map] at h
    cases q : ds[j]? with
    | none => rw [q] at h; cases h
    | some e =>
      rw [q] at h
      have h : e = d := by simpa using h
      subst h
      obtain ⟨v, h1, h2⟩ := i.get q
      exact ⟨v, by rw [List.getElem?_append_left (by rw [List.length_map, ← i.length]; exact hj), List.getElem?_map, h1]; rfl, h2⟩
  · rw [List.getElem?_append_right (by simpa using hj)] at h
    have := List.mem_of_getElem? h
    rw [List.mem_replicate] at this
    cases this.2
/-- what is wanted behind a def's body: the end may hold more than is promised -/
def EndR (R : DQ) : DQ := fun d W' => ∃ W'', Sub W'' W' ∧ R d W''
def endsOf (R : DQ) : EndsD := { nx := fun _ W' => EndR R .non W', rt := EndR R }
theorem fn_mk {qual : Str} {st : Stmt} {f : Addr} {fd : FuncData} {N ps : List Str} (F : Fun K x qual st f fd) (S : FnScope N ps (defScope st)) (g : mg x = some (.ref f)) (b : Binds K fd ps []) (len : ∀ ds W R, sp ds W R → ds.length = ps.length)
    (body : ∀ (cdv : Value) (A : Around) (outer : List PySem.Env) (s : Shared) (H : Hp) (E : XK), Room k (A.deeper (envOfC qual (defScope st) s.heap.objs.size f cdv)) →
      ∃ t, PSs (cxOf CX0 P w K mg base N qual (defScope st) f cdv A outer s H E).nox (defBody st) (lowS K t) ∧ ∀ ds W R, sp ds W R → t (endsOf R) (startD N ds) W) : Fn P w K mg base (k + 1) x sp := by
  refine ⟨f, fd, ps, F.ok S (fun vs H Q E ⟨ds, W, R, i, r, h, _⟩ => by rw [← i.length]; exact len ds W R h) (fun cdv A outer s H vs Q E hr h => ?_), g, F.kp, b⟩
  obtain ⟨ds, W, R, i, r, h, kk⟩ := h
  obtain ⟨t, h1, h2⟩ := body cdv A outer s H E hr
  have fin : Low K H (EndR R) Q := fun d W' v H' q t1 r1 i1 => by
    obtain ⟨W'', s2, q⟩ := q
    exact kk d W'' v H' q t1 (r1.sub s2) i1
  exact ⟨_, h1, startD N ds, W, endsOf R, ⟨sl_start N i, r⟩, h2 ds W R h, fun ρ' W' σ' H' q t1 e1 => fin .non W' .non H' q t1 e1.rf rfl, fin, fun _ _ _ _ q => q.elim, fun _ _ _ _ q => q.elim⟩
end
section
variable {X : Cx} {a b c e o i : Expr} {es : List Expr} {ta tb tc to td ty te : TED} {tr : TAD} {pos : Pos} {K : Frag} {k : Nat} {x : Str} {sp : SpD} {p : Pos}
theorem lowCall {σ : L2.St} {H : Hp} {Q : VK} (h : lowE K (dCall sp tr) σ H Q) : tCall (lowSp K sp) [] E0 (lowA K tr) σ H Q := by
  obtain ⟨ρ, W, Qd, E, q, kk⟩ := h
  refine ⟨ρ, W, _, E, q, fun ds W1 vs H1 q1 t1 r1 i1 => ?_⟩
  show lowSp K sp (vs ++ []) H1 Q E0
  rw [List.append_nil]
  exact ⟨ds, W1, Qd, i1, r1, q1, kk.tp t1⟩
theorem d_call (F : Fn X.prog X.w X.K X.mg X.base k x sp) (hr : Room k X.A) (ha : PA X (e :: es) (lowA X.K tr)) (hg : Gl X x := by rfl) (hdb : (x == ("__debug__" : Str)) = false := by decide) (he : starEach (e :: es) X.env = (false, eval e X.env) :: starEach es X.env := by rfl) (hpl : (backTo pos (starEach es X.env)).any (·.1) = false := by rfl) :
    PE X (.Call (.Name x p) (e :: es) [] pos) (lowE X.K (dCall sp tr)) := by
  obtain ⟨f, fd, ps, h1, h2, h3, h4⟩ := F.ex
  exact (pe_call h1 hr hg h2 h3 h4 .nil pass0 ha hdb he hpl).wk fun _ _ _ h => lowCall h
theorem d_call0 (F : Fn X.prog X.w X.K X.mg X.base k x sp) (hr : Room k X.A) (hg : Gl X x := by rfl) (hdb : (x == ("__debug__" : Str)) = false := by decide) : PE X (.Call (.Name x p) [] [] pos) (lowE X.K (dCall sp dNil)) := by
  obtain ⟨f, fd, ps, h1, h2, h3, h4⟩ := F.ex
  exact (pe_call0 h1 hr hg h2 h3 h4 .nil pass0 hdb).wk fun σ H Q ⟨ρ, W, Qd, E, q, kk⟩ => ⟨[], W, Qd, rfl, E.rf, q, kk⟩

/-! ### targets -/
abbrev TGD := D → DSt → Wd → (DSt → Wd → Prop) → Prop
abbrev TGsD := List D → DSt → Wd → (DSt → Wd → Prop) → Prop
/-- an item as it comes: data, or a new pair that is not told -/
def ImX (K : Frag) (H : Hp) (d : D) (v : V) : Prop := ∃ ds a xs, d = .tup ds ∧ v = .ref a ∧ SqT K H a xs ∧ ImL K H ds xs
theorem Im.toX {K : Frag} {H : Hp} {ds : List D} {v : V} (h : Im K H (.tup ds) v) : ImX K H (.tup ds) v := let ⟨a, xs, e, t, m⟩ := h; ⟨ds, a, xs, rfl, e, t.sq, m⟩
def Itm (b : Bool) (K : Frag) (H : Hp) (d : D) (v : V) : Prop := if b = true then Im K H d v else ImX K H d v
def lowG (K : Frag) (b : Bool) (vs : Option (List Nat)) (t : TGD) : TG := fun v σ H Q => ∃ d ρ W Qd, Itm b K H d v ∧ Env K σ ρ H W ∧ t d ρ W Qd ∧ ∀ ρ' W' σ' H', Qd ρ' W' → Tp H H' → Env K σ' ρ' H' W' → (∀ l, vs = some l → wipe σ' l = wipe σ l ∧ wipeD ρ' l = wipeD ρ l) → Q σ' H'
def lowGs (K : Frag) (vs : Option (List Nat)) (t : TGsD) : TGs := fun us σ H Q => ∃ ds ρ W Qd, ImL K H ds us ∧ Env K σ ρ H W ∧ t ds ρ W Qd ∧ ∀ ρ' W' σ' H', Qd ρ' W' → Tp H H' → Env K σ' ρ' H' W' → (∀ l, vs = some l → wipe σ' l = wipe σ l ∧ wipeD ρ' l = wipeD ρ l) → Q σ' H'
theorem _root_.L2.PG.wk {e : Expr} {t t' : TG} (h : PG X e t) (w : ∀ v σ H Q, t' v σ H Q → t v σ H Q) : PG X e t' := ⟨fun pins s σ H v u Q I r q => h.run pins s σ H v u Q I r (w v σ H Q q)⟩
theorem _root_.L2.PGs.wk {e : List Expr} {t t' : TGs} (h : PGs X e t) (w : ∀ v σ H Q, t' v σ H Q → t v σ H Q) : PGs X e t' := ⟨fun pins s σ H v u Q I r q => h.run pins s σ H v u Q I r (w v σ H Q q)⟩
theorem wipe_get {σ : L2.St} : ∀ {vs : List Nat} {j : Nat}, (wipe σ vs)[j]? = if j ∈ vs ∧ j < σ.length then some none else σ[j]?
  | [], j => by simp [wipe]
  | v :: vs, j => by
    unfold wipe
    by_cases h : v = j
    · subst h
      by_cases hl : v < σ.length
      · rw [List.getElem?_set_self (by rw [wipe_length]; exact hl), if_pos ⟨by simp, hl⟩]
      · rw [if_neg (fun z => hl z.2), List.getElem?_eq_none (by simp [wipe_length]; omega), List.getElem?_eq_none (by omega)]
    · rw [List.getElem?_set_ne h, wipe_get]
      simp only [List.mem_cons]
      by_cases h2 : j ∈ vs ∧ j < σ.length
      · rw [if_pos h2, if_pos ⟨.inr h2.1, h2.2⟩]
      · rw [if_neg h2, if_neg (fun z => h2 ⟨z.1.resolve_left (fun q => h q.symm), z.2⟩)]
theorem wipe_set {σ : L2.St} {vs : List Nat} {i : Nat} {v : Option V} (h : i ∈ vs) : wipe (σ.set i v) vs = wipe σ vs := by
  apply List.ext_getElem?
  intro j
  rw [wipe_get, wipe_get, List.length_set]
  by_cases hj : j ∈ vs ∧ j < σ.length
  · rw [if_pos hj, if_pos hj]
  · rw [if_neg hj, if_neg hj]
    by_cases e : i = j
    · subst e
      have : ¬ i < σ.length := fun z => hj ⟨h, z⟩
      rw [List.getElem?_eq_none (by simp; omega), List.getElem?_eq_none (by omega)]
    · rw [List.getElem?_set_ne e]
theorem wipe_wipe {σ : L2.St} {vs : List Nat} : wipe (wipe σ vs) vs = wipe σ vs := by
  apply List.ext_getElem?
  intro j
  rw [wipe_get, wipe_get, wipe_length]
  split <;> rfl
theorem wipeD_get {σ : DSt} : ∀ {vs : List Nat} {j : Nat}, (wipeD σ vs)[j]? = if j ∈ vs ∧ j < σ.length then some none else σ[j]?
  | [], j => by simp [wipeD]
  | v :: vs, j => by
    unfold wipeD
    by_cases h : v = j
    · subst h
      by_cases hl : v < σ.length
      · rw [List.getElem?_set_self (by rw [wipeD_length]; exact hl), if_pos ⟨by simp, hl⟩]
      · rw [if_neg (fun z => hl z.2), List.getElem?_eq_none (by simp [wipeD_length]; omega), List.getElem?_eq_none (by omega)]
    · rw [List.getElem?_set_ne h, wipeD_get]
      simp only [List.mem_cons]
      by_cases h2 : j ∈ vs ∧ j < σ.length
      · rw [if_pos h2, if_pos ⟨.inr h2.1, h2.2⟩]
      · rw [if_neg h2, if_neg (fun z => h2 ⟨z.1.resolve_left (fun q => h q.symm), z.2⟩)]
theorem wipeD_set {σ : DSt} {vs : List Nat} {i : Nat} {v : Option D} (h : i ∈ vs) : wipeD (σ.set i v) vs = wipeD σ vs := by
  apply List.ext_getElem?
  intro j
  rw [wipeD_get, wipeD_get, List.length_set]
  by_cases hj : j ∈ vs ∧ j < σ.length
  · rw [if_pos hj, if_pos hj]
  · rw [if_neg hj, if_neg hj]
    by_cases e : i = j
    · subst e
      have : ¬ i < σ.length := fun z => hj ⟨h, z⟩
      rw [List.getElem?_eq_none (by simp; omega), List.getElem?_eq_none (by omega)]
    · rw [List.getElem?_set_ne e]
/-- x; vs: the slots that are told to be changed (a comprehension's own names) -/
def gN (i : Nat) : TGD := fun d ρ W Q => Q (ρ.set i (some d)) W
theorem g_name {vs : Option (List Nat)} {i : Nat} {x : Str} (hN : X.N.Nodup) (hi : X.N[i]? = some x) (hx : Loc X.env.scope x) (hv : ∀ l, vs = some l → i ∈ l) (hf : X.fn x = true ∨ X.env.scope.names.lookup x = some .local := by first | exact .inl rfl | exact .inr rfl | assumption) : PG X (.Name x pos) (lowG X.K true vs (gN i)) :=
  (pg_name hN hi hx hf).wk fun v σ H Q ⟨d, ρ, W, Qd, im, E, q, kk⟩ => kk _ W _ H q (Tp.refl H) ⟨E.sl.set i im, E.rf⟩ fun l hl => ⟨wipe_set (hv l hl), wipeD_set (hv l hl)⟩
def gsN : TGsD := fun ds ρ W Q => ds = [] ∧ Q ρ W
def gsC (t : TGD) (u : TGsD) : TGsD := fun ds ρ W Q => ∃ d r, ds = d :: r ∧ t d ρ W fun ρ' W' => u r ρ' W' Q
theorem gs_nil {vs : Option (List Nat)} : PGs X [] (lowGs X.K vs gsN) := pgs_nil.wk fun us σ H Q ⟨ds, ρ, W, Qd, im, E, q, kk⟩ => by
  obtain ⟨rfl, q⟩ := q
  exact ⟨ImL.nil' im, kk ρ W σ H q (Tp.refl H) E fun l _ => ⟨rfl, rfl⟩⟩
theorem gs_cons {vs : Option (List Nat)} {t : TGD} {u : TGsD} (h1 : PG X e (lowG X.K true vs t)) (h2 : PGs X es (lowGs X.K vs u))
    (hs : (assignEach (e :: es) X.env).map (·.2) = assign e X.env :: (assignEach es X.env).map (·.2) := by rfl) : PGs X (e :: es) (lowGs X.K vs (gsC t u)) :=
  (pgs_cons h1 h2 hs).wk fun us σ H Q ⟨ds, ρ, W, Qd, im, E, q, kk⟩ => by
    obtain ⟨d, r, rfl, q⟩ := q
    obtain ⟨v, vr, rfl, i1, i2⟩ := ImL.cons' im
    exact ⟨v, vr, rfl, d, ρ, W, _, i1, E, q, fun ρ1 W1 σ1 H1 q1 t1 e1 w1 => ⟨r, ρ1, W1, _, i2.mono t1, e1, q1, fun ρ2 W2 σ2 H2 q2 t2 e2 w2 => kk ρ2 W2 σ2 H2 q2 (t1.trans t2) e2 fun l hl => ⟨(w2 l hl).1.trans (w1 l hl).1, (w2 l hl).2.trans (w1 l hl).2⟩⟩⟩
def gT (n : Nat) (t : TGsD) : TGD := fun d ρ W Q => ∃ ds, d = .tup ds ∧ ds.length = n ∧ t ds ρ W Q
theorem g_tup {b : Bool} {vs : Option (List Nat)} {k : Nat} {t : TGsD} {n : Nat} (hc : X.calm = true) (h : PGs X es (lowGs X.K vs t))
    (hn : (assignEach es X.env).length = n := by rfl) (hst : (assignEach es X.env).findIdx? (·.1) = none := by rfl) : PG X (.Tuple es k pos) (lowG X.K b vs (gT n t)) :=
  (pg_tup hc h hn hst).wk fun v σ H Q ⟨d, ρ, W, Qd, im, E, q, kk⟩ => by
    obtain ⟨ds, rfl, hl, q⟩ := q
    have im2 : ImX X.K H (.tup ds) v := by
      cases b with
      | true => exact Im.toX im
      | false => exact im
    obtain ⟨ds', a, xs, e, rfl, h1, m⟩ := im2
    cases e
    exact ⟨a, xs, rfl, h1, by rw [← m.length]; exact hl, ds, ρ, W, Qd, m, E, q, kk⟩
/-- l[j] = v, l a list in W -/
def gIx (to ti : TED) : TGD := fun d ρ W Q => to ρ W fun o W1 => ti ρ W1 fun i W2 => ∃ a n j ds, o = .ref a ∧ i = .int n ∧ W2 a = some (.lst ds) ∧ ixN ds.length n = some j ∧ Q ρ (wset W2 a (.lst (ds.set j d)))
theorem g_ix {to ti : TED} (ho : PE X o (lowE X.K to)) (hi : PE X i (lowE X.K ti)) (ha : ∀ v, assign (.Subscript o i pos) X.env v = (do
      let ov ← holding [v] (eval o X.env)
      let iv ← holding [v, ov] (eval i X.env)
      standAt pos
      holding [v, ov, iv] (setItem ov iv v)
      release [v, ov, iv] []) := by intro _; rfl) : PG X (.Subscript o i pos) (lowG X.K true none (gIx to ti)) :=
  (pg_sub ho hi set_list ha).wk fun v σ H Q ⟨d, ρ, W, Qd, im, E, q, kk⟩ => ⟨ρ, W, _, E, q, fun od W1 ov H1 q1 t1 r1 i1 => ⟨ρ, W1, _, E.to t1 r1, q1, fun id W2 iv H2 q2 t2 r2 i2 => by
    obtain ⟨a, n, j, ds, rfl, rfl, h1, h2, q2⟩ := q2
    obtain ⟨xs, h3, m⟩ := r2 a _ h1
    refine ⟨a, xs, n, j, i1, i2, h3, by rw [← m.length]; exact h2, ?_⟩
    exact kk _ _ _ _ q2 ((t1.trans t2).trans (tp_lst h3)) (E.to ((t1.trans t2).trans (tp_lst h3)) (r2.setL h3 (m.set j (im.mono (t1.trans t2))))) fun l hl => nomatch hl⟩⟩

/-! ### statements -/
variable {st : Stmt} {rest : List Stmt} {t u : TSD}
theorem lowS_of {DD : EndsD} {D : Ends} {ρ : DSt} {W : Wd} {σ : L2.St} {H : Hp} (E : Env K σ ρ H W) (q : t DD ρ W) (h1 : ∀ ρ' W' σ' H', DD.nx ρ' W' → Tp H H' → Env K σ' ρ' H' W' → D.nx σ' H') (h2 : Low K H DD.rt D.rt)
    (h3 : ∀ ρ' W' σ' H', DD.bk ρ' W' → Tp H H' → Env K σ' ρ' H' W' → D.bk σ' H') (h4 : ∀ ρ' W' σ' H', DD.ct ρ' W' → Tp H H' → Env K σ' ρ' H' W' → D.ct σ' H') : lowS K t D σ H := ⟨ρ, W, DD, E, q, h1, h2, h3, h4⟩
def dNext : TSD := fun D ρ W => D.nx ρ W
def dSeq (t u : TSD) : TSD := fun D ρ W => t { D with nx := u D } ρ W
theorem s_nil : PSs X [] (lowS X.K dNext) := pss_nil.wk fun D σ H ⟨ρ, W, DD, E, q, h1, h2, h3, h4⟩ => h1 ρ W σ H q (Tp.refl H) E
theorem s_cons (h1 : PS X st (lowS X.K t)) (h2 : PSs X rest (lowS X.K u)) : PSs X (st :: rest) (lowS X.K (dSeq t u)) := (pss_cons h1 h2).wk fun D σ H ⟨ρ, W, DD, E, q, g1, g2, g3, g4⟩ =>
  ⟨ρ, W, _, E, q, fun ρ1 W1 σ1 H1 q1 t1 e1 => ⟨ρ1, W1, DD, e1, q1, fun ρ2 W2 σ2 H2 q2 t2 e2 => g1 ρ2 W2 σ2 H2 q2 (t1.trans t2) e2, g2.tp t1, fun ρ2 W2 σ2 H2 q2 t2 e2 => g3 ρ2 W2 σ2 H2 q2 (t1.trans t2) e2, fun ρ2 W2 σ2 H2 q2 t2 e2 => g4 ρ2 W2 σ2 H2 q2 (t1.trans t2) e2⟩, g2, g3, g4⟩
theorem s_one (h1 : PS X st (lowS X.K t)) : PSs X [st] (lowS X.K t) := pss_one h1
def dBreak : TSD := fun D ρ W => D.bk ρ W
def dCont : TSD := fun D ρ W => D.ct ρ W
theorem s_pass : PS X (.Pass pos) (lowS X.K dNext) := ps_pass.wk fun D σ H ⟨ρ, W, DD, E, q, h1, h2, h3, h4⟩ => h1 ρ W σ H q (Tp.refl H) E
theorem s_break : PS X (.Break pos) (lowS X.K dBreak) := ps_break.wk fun D σ H ⟨ρ, W, DD, E, q, h1, h2, h3, h4⟩ => h3 ρ W σ H q (Tp.refl H) E
theorem s_continue : PS X (.Continue pos) (lowS X.K dCont) := ps_continue.wk fun D σ H ⟨ρ, W, DD, E, q, h1, h2, h3, h4⟩ => h4 ρ W σ H q (Tp.refl H) E
theorem s_doc {x j pos pos'} : PS X (.Expr (.Constant (.str x) j pos) pos') (lowS X.K dNext) := ps_doc.wk fun D σ H ⟨ρ, W, DD, E, q, h1, h2, h3, h4⟩ => h1 ρ W σ H q (Tp.refl H) E
def dDrop (te : TED) : TSD := fun D ρ W => te ρ W fun _ W1 => D.nx ρ W1
theorem s_expr (he : PE X e (lowE X.K te)) (hs : swapsWith e none pos.line X.env = pure false := by rfl) : PS X (.Expr e pos) (lowS X.K (dDrop te)) := (ps_expr he hs).wk fun D σ H ⟨ρ, W, DD, E, q, h1, h2, h3, h4⟩ =>
  ⟨ρ, W, _, E, q, fun d W1 v H1 q1 t1 r1 i1 => h1 ρ W1 σ H1 q1 t1 (E.to t1 r1)⟩
def dRet (te : TED) : TSD := fun D ρ W => te ρ W D.rt
theorem s_ret (he : PE X e (lowE X.K te)) : PS X (.Return (some e) pos) (lowS X.K (dRet te)) := (ps_ret he).wk fun D σ H ⟨ρ, W, DD, E, q, h1, h2, h3, h4⟩ => ⟨ρ, W, _, E, q, h2⟩
def dRetN : TSD := fun D _ W => D.rt .non W
theorem s_retN : PS X (.Return none pos) (lowS X.K dRetN) := ps_retN.wk fun D σ H ⟨ρ, W, DD, E, q, h1, h2, h3, h4⟩ => h2 _ W _ H q (Tp.refl H) E.rf rfl
def dIfS (c : TTD) (t u : TSD) : TSD := fun D ρ W => c ρ W fun b W1 => if b = true then t D ρ W1 else u D ρ W1
theorem s_if {c : Expr} {a b : List Stmt} {tc : TTD} (hc : PT X c (lowT X.K tc)) (ha : PSs X a (lowS X.K t)) (hb : PSs X b (lowS X.K u)) : PS X (.If c a b pos) (lowS X.K (dIfS tc t u)) := (ps_if hc ha hb).wk fun D σ H ⟨ρ, W, DD, E, q, g1, g2, g3, g4⟩ =>
  ⟨ρ, W, _, E, q, fun b W1 H1 q1 t1 r1 => by
    cases b with
    | true => exact iteT ⟨ρ, W1, DD, E.to t1 r1, by simpa using q1, fun ρ2 W2 σ2 H2 q2 t2 e2 => g1 ρ2 W2 σ2 H2 q2 (t1.trans t2) e2, g2.tp t1, fun ρ2 W2 σ2 H2 q2 t2 e2 => g3 ρ2 W2 σ2 H2 q2 (t1.trans t2) e2, fun ρ2 W2 σ2 H2 q2 t2 e2 => g4 ρ2 W2 σ2 H2 q2 (t1.trans t2) e2⟩
    | false => exact iteF ⟨ρ, W1, DD, E.to t1 r1, by simpa using q1, fun ρ2 W2 σ2 H2 q2 t2 e2 => g1 ρ2 W2 σ2 H2 q2 (t1.trans t2) e2, g2.tp t1, fun ρ2 W2 σ2 H2 q2 t2 e2 => g3 ρ2 W2 σ2 H2 q2 (t1.trans t2) e2, fun ρ2 W2 σ2 H2 q2 t2 e2 => g4 ρ2 W2 σ2 H2 q2 (t1.trans t2) e2⟩⟩
def dNever : TSD := fun _ _ _ => False
theorem s_never : PS X st (lowS X.K dNever) := ps_never.wk fun D σ H ⟨ρ, W, DD, E, q, h1, h2, h3, h4⟩ => q.elim
theorem ss_never {sts : List Stmt} : PSs X sts (lowS X.K dNever) := pss_never.wk fun D σ H ⟨ρ, W, DD, E, q, h1, h2, h3, h4⟩ => q.elim
def dAsg (te : TED) (g : TGD) : TSD := fun D ρ W => te ρ W fun d W1 => g d ρ W1 D.nx
theorem s_asg {tg e : Expr} {g : TGD} (he : PE X e (lowE X.K te)) (hg : PG X tg (lowG X.K true none g)) (hs : swapsWithSole [tg] e pos.line X.env = pure false := by rfl) (hw : swappedStores [tg] e X.env = pure none := by rfl)
    (h1 : (assignEach [tg] X.env).map (·.2) = [assign tg X.env] := by rfl) : PS X (.Assign [tg] e pos) (lowS X.K (dAsg te g)) := (ps_asg he hg hs hw h1).wk fun D σ H ⟨ρ, W, DD, E, q, g1, g2, g3, g4⟩ =>
  ⟨ρ, W, _, E, q, fun d W1 v H1 q1 t1 r1 i1 => ⟨d, ρ, W1, _, i1, E.to t1 r1, q1, fun ρ2 W2 σ2 H2 q2 t2 e2 _ => g1 ρ2 W2 σ2 H2 q2 (t1.trans t2) e2⟩⟩
theorem s_set {i : Nat} {x : Str} {e : Expr} {pos' : Pos} (hN : X.N.Nodup) (hi : X.N[i]? = some x) (hx : Loc X.env.scope x) (he : PE X e (lowE X.K te)) (hs : swapsWith e (some (.Name x pos')) pos.line X.env = pure false := by rfl) (hf : X.fn x = true ∨ X.env.scope.names.lookup x = some .local := by first | exact .inl rfl | exact .inr rfl | assumption) :
    PS X (.Assign [.Name x pos'] e pos) (lowS X.K (dAsg te (gN i))) := (ps_set hN hi hx he hs hf).wk fun D σ H ⟨ρ, W, DD, E, q, g1, g2, g3, g4⟩ =>
  ⟨ρ, W, _, E, q, fun d W1 v H1 q1 t1 r1 i1 => g1 _ W1 _ H1 q1 t1 ⟨(E.to t1 r1).sl.set i i1, r1⟩⟩
/-- d[k] = v -/
def dDPut (td ty tv : TED) : TSD := fun D ρ W => tv ρ W fun v W1 => td ρ W1 fun x W2 => ty ρ W2 fun y W3 => ∃ a W4, x = .ref a ∧ PutD W3 a y v W4 ∧ D.nx ρ W4
theorem s_dput {value : Expr} {tv : TED} {pos' : Pos} (hu : X.A.units + 1 < cLine) (ho : PE X o (lowE X.K td)) (hi : PE X i (lowE X.K ty)) (hv : PE X value (lowE X.K tv)) (hs : swapsWith value (some (.Subscript o i pos')) pos.line X.env = pure false := by rfl) :
    PS X (.Assign [.Subscript o i pos'] value pos) (lowS X.K (dDPut td ty tv)) := (ps_dput hu ho hi hv hs).wk fun D σ H ⟨ρ, W, DD, E, q, g1, g2, g3, g4⟩ =>
  ⟨ρ, W, _, E, q, fun d W1 v H1 q1 t1 r1 i1 => ⟨ρ, W1, _, E.to t1 r1, q1, fun xd W2 x H2 q2 t2 r2 i2 => ⟨ρ, W2, _, E.to (t1.trans t2) r2, q2, fun yd W3 y H3 q3 t3 r3 i3 => by
    obtain ⟨a, W4, rfl, g, q3⟩ := q3
    obtain ⟨H4, h1, h2, h3⟩ := g.ok r3 i3 (i1.mono (t2.trans t3))
    have T := ((t1.trans t2).trans t3).trans h2
    exact ⟨a, H4, i2.mono t3, h1, g1 _ W4 _ H4 q3 T (E.to T h3)⟩⟩⟩⟩
/-- x += e, ints -/
def dAug (i : Nat) (te : TED) (f : F2) : TSD := fun D ρ W => ∃ d, ρ[i]? = some (some d) ∧ te ρ W fun e W1 => f d e W1 fun z W2 => D.nx (ρ.set i (some z)) W2
theorem s_aug {i : Nat} {x : Str} {e : Expr} {op : Operator} {r : R2} {f : F2} {pos' : Pos} (hN : X.N.Nodup) (hi : X.N[i]? = some x) (hx : Loc X.env.scope x) (he : PE X e (lowE X.K te)) (ho : OpR X (inplaceOp op) r) (hd : OpD X.K r f) (hf : X.fn x = true ∨ X.env.scope.names.lookup x = some .local := by first | exact .inl rfl | exact .inr rfl | assumption) :
    PS X (.AugAssign (.Name x pos') op e pos) (lowS X.K (dAug i te f)) := (ps_aug (ti := r) hN hi hx he (fun pins s σ H x y v u Q I rx ry h => ho pins s σ H x y v u Q I rx ry h) hf).wk fun D σ H ⟨ρ, W, DD, E, q, g1, g2, g3, g4⟩ => by
  obtain ⟨d, hd1, q⟩ := q
  obtain ⟨v, h1, h2⟩ := E.sl.2 i d hd1
  exact ⟨v, h1, ρ, W, _, E, q, fun e W1 y H1 q1 t1 r1 i1 => hd v y d e H1 W1 _ _ r1 (h2.mono t1) i1 q1 fun z W2 zv H2 q2 t2 r2 i2 => g1 _ W2 _ H2 q2 (t1.trans t2) ⟨(E.sl.mono (t1.trans t2)).set i i2, r2⟩⟩
def dWhile (c : TTD) (tb : TSD) : TSD := fun D ρ W => ∃ I : Nat → DSt → Wd → Prop, (∃ m, I m ρ W) ∧ ∀ m ρ W, I m ρ W → c ρ W fun b W1 => if b = true then tb { D with nx := fun ρ' W' => ∃ m', m' < m ∧ I m' ρ' W', ct := fun ρ' W' => ∃ m', m' < m ∧ I m' ρ' W', bk := D.nx } ρ W1 else D.nx ρ W1
theorem s_while {c : Expr} {body : List Stmt} {tc : TTD} (hp : PassesOwn (model X.prog X.w) X.A X.env X.xe) (hc : PT X c (lowT X.K tc)) (hb : PSs X body (lowS X.K t)) : PS X (.While c body [] pos) (lowS X.K (dWhile tc t)) := (ps_while hp hc hb).wk fun D σ H ⟨ρ, W, DD, E, q, g1, g2, g3, g4⟩ => by
  obtain ⟨I, ⟨m, h0⟩, hs⟩ := q
  refine ⟨fun m σ' H' => Tp H H' ∧ ∃ ρ' W', Env X.K σ' ρ' H' W' ∧ I m ρ' W', ⟨m, Tp.refl H, ρ, W, E, h0⟩, ?_⟩
  rintro m σ1 H1 ⟨t1, ρ1, W1, E1, h1⟩
  refine ⟨ρ1, W1, _, E1, hs m ρ1 W1 h1, fun b W2 H2 q2 t2 r2 => ?_⟩
  cases b with
  | true =>
    refine iteT ⟨_, fun σ' H' n => n, ρ1, W2, { DD with nx := fun ρ' W' => ∃ m', m' < m ∧ I m' ρ' W', ct := fun ρ' W' => ∃ m', m' < m ∧ I m' ρ' W', bk := DD.nx }, E1.to t2 r2, by simpa using q2, fun ρ3 W3 σ3 H3 q3 t3 e3 => ?_, g2.tp (t1.trans t2), fun ρ3 W3 σ3 H3 q3 t3 e3 => g1 ρ3 W3 σ3 H3 q3 ((t1.trans t2).trans t3) e3, fun ρ3 W3 σ3 H3 q3 t3 e3 => ?_⟩
    · obtain ⟨m', hm, q3⟩ := q3
      exact ⟨m', hm, (t1.trans t2).trans t3, ρ3, W3, e3, q3⟩
    · obtain ⟨m', hm, q3⟩ := q3
      exact ⟨m', hm, (t1.trans t2).trans t3, ρ3, W3, e3, q3⟩
  | false => exact iteF (g1 ρ1 W2 σ1 H2 (by simpa using q2) (t1.trans t2) (E1.to t2 r2))

/-! ### what is walked -/
abbrev TID := DSt → Wd → (List D → (Wd → Prop) → Wd → Prop) → Prop
structure Src (b : Bool) (K : Frag) (H1 : Hp) (J : It) (items : List D) (stay : Wd → Prop) : Prop where
  go : ∀ i H W, i < items.length → Tp H1 H → Ref K H W → stay W → J.go i H
  stop : ∀ H W, Tp H1 H → Ref K H W → stay W → J.stop items.length H
  yld : ∀ i H x H' W, i < items.length → Tp H1 H → Ref K H W → stay W → J.yld i H x H' → ∃ d, items[i]? = some d ∧ Tp H H' ∧ (∀ W', Ref K H W' → Ref K H' W') ∧ Itm b K H' d x
def lowI (K : Frag) (b : Bool) (t : TID) : TI := fun σ H R => ∃ ρ W S, Env K σ ρ H W ∧ t ρ W S ∧ ∀ items stay W' J H', S items stay W' → Tp H H' → Ref K H' W' → Src b K H' J items stay → R J H'
theorem _root_.L2.PI.wk {tg e : Expr} {t t' : TI} (h : PI X tg e t) (w : ∀ σ H R, t' σ H R → t σ H R) : PI X tg e t' := ⟨fun pins s σ H R I q => h.run pins s σ H R I (w σ H R q)⟩
theorem _root_.L2.PI.or {tg e : Expr} {t t' : TI} (h : PI X tg e t) (h' : PI X tg e t') : PI X tg e (fun σ H R => t σ H R ∨ t' σ H R) := ⟨fun pins s σ H R I q => by
  rcases q with q | q
  · exact h.run pins s σ H R I q
  · exact h'.run pins s σ H R I q⟩
theorem src_tup {H : Hp} {a : Addr} {xs : List V} {ds : List D} (h : TupF H a xs) (m : ImL K H ds xs) : Src true K H (Itt K a) ds (fun _ => True) where
  go := fun i H' W hi t r _ => by
    have hx : i < xs.length := by rw [← m.length]; exact hi
    exact ⟨xs, xs[i], (h.mono t).sq, List.getElem?_eq_getElem hx⟩
  stop := fun H' W t r _ => ⟨xs, (h.mono t).sq, by rw [m.length]; exact Nat.le_refl _⟩
  yld := fun i H' x H2 W hi t r _ y => by
    obtain ⟨rfl, y⟩ := y
    obtain ⟨d, h1, h2⟩ := m.get' (y xs (h.mono t).sq)
    exact ⟨d, h1, Tp.refl _, fun _ q => q, h2.mono t⟩
theorem src_lst {H : Hp} {a : Addr} {ds : List D} : Src true K H (Itl K a) ds (fun W => LstAt W a ds) where
  go := fun i H' W hi t r s => by
    obtain ⟨xs, h1, m⟩ := s.sq r
    have hx : i < xs.length := by rw [← m.length]; exact hi
    exact ⟨xs, xs[i], h1, List.getElem?_eq_getElem hx⟩
  stop := fun H' W t r s => by
    obtain ⟨xs, h1, m⟩ := s.sq r
    exact ⟨xs, h1, by rw [m.length]; exact Nat.le_refl _⟩
  yld := fun i H' x H2 W hi t r s y => by
    obtain ⟨rfl, y⟩ := y
    obtain ⟨xs, h1, m⟩ := s.sq r
    obtain ⟨d, h2, h3⟩ := m.get' (y xs h1)
    exact ⟨d, h2, Tp.refl _, fun _ q => q, h3⟩
/-- a list or a tuple -/
def iSeq (te : TED) : TID := fun ρ W S => te ρ W fun d W1 => match d with
  | .tup ds => S ds (fun _ => True) W1
  | .ref a => ∃ ds, LstAt W1 a ds ∧ S ds (fun W => LstAt W a ds) W1
  | _ => False
theorem i_seq {tg e : Expr} (he : PE X e (lowE X.K te)) : PI X tg e (lowI X.K true (iSeq te)) := by
  refine ⟨fun pins s σ H R I h => ?_⟩
  obtain ⟨ρ, W, S, E, q, kk⟩ := h
  refine thn (he.run pins s σ H (fun x H1 => (∃ a, x = .ref a ∧ (∃ xs, SqL X.K H1 a xs) ∧ R (Itl X.K a) H1) ∨ ∃ a, x = .ref a ∧ (∃ xs, SqT X.K H1 a xs) ∧ R (Itt X.K a) H1) I ⟨ρ, W, _, E, q, fun d W1 v H1 q1 t1 r1 i1 => ?_⟩) fun v s1 ⟨x, H1, I1, r1, q1⟩ => ?_
  · cases d with
    | tup ds =>
      obtain ⟨a, xs, rfl, h1, m⟩ := i1
      exact .inr ⟨a, rfl, ⟨xs, h1.sq⟩, kk ds _ W1 _ H1 q1 t1 r1 (src_tup h1 m)⟩
    | ref a =>
      obtain ⟨ds, h1, q1⟩ := q1
      cases (show v = .ref a from i1)
      obtain ⟨xs, h2, m⟩ := h1.sq r1
      exact .inl ⟨a, rfl, ⟨xs, h2⟩, kk ds _ W1 _ H1 q1 t1 r1 src_lst⟩
    | _ => exact q1.elim
  · -- the iterator of what came out: both rules walk the value alone
    rcases q1 with ⟨a, rfl, ⟨xs, hq⟩, q⟩ | ⟨a, rfl, ⟨xs, hq⟩, q⟩
    · cases r1
      obtain ⟨its, rv, p, hz⟩ := I1.list hq
      refine wpAny_pyIter_list p.isList ?_
      refine ⟨s1.heap.objs.size, [s1.heap.objs.size], _, _, H1, rfl, I1.kept (t' := s1.toks) fun b o e => Heap.get?_push_of_some _ e, turn_list a _, ⟨_, Heap.get?_push_size _ rfl, rfl, rfl⟩, fun b hb => ?_, q⟩
      have e : b = s1.heap.objs.size := by simpa using hb
      subst e
      exact I1.fpOk (Nat.le_refl _) (I1.hok.fresh (Nat.le_refl _))
    · cases r1
      obtain ⟨its, rv, p, hz⟩ := I1.tuple hq
      refine wpAny_pyIter_tuple (show s1.heap.IsTuple a its.toArray from p) ?_
      refine ⟨s1.heap.objs.size, [s1.heap.objs.size], _, _, H1, rfl, I1.kept (t' := s1.toks) fun b o e => Heap.get?_push_of_some _ e, turn_tuple a _, ⟨_, Heap.get?_push_size _ rfl, rfl, rfl⟩, fun b hb => ?_, q⟩
      have e : b = s1.heap.objs.size := by simpa using hb
      subst e
      exact I1.fpOk (Nat.le_refl _) (I1.hok.fresh (Nat.le_refl _))
/-- range(n) -/
def rngD (lo : Int) (n : Nat) : List D := (List.range n).map fun (i : Nat) => .int (lo + (i : Int))
def iRg1 (ta : TAD) : TID := fun ρ W S => ta ρ W fun ds W1 => ∃ j : Int, ds = [.int j] ∧ -(2 ^ 62) ≤ j ∧ j < 2 ^ 62 ∧ S (rngD 0 j.toNat) (fun _ => True) W1
theorem src_rng {H : Hp} {lo : Int} {n : Nat} : Src true K H (Itr lo n) (rngD lo n) (fun _ => True) where
  go := fun i H' W hi t r _ => show i < n by simpa [rngD] using hi
  stop := fun H' W t r _ => show n ≤ (rngD lo n).length by simp [rngD]
  yld := fun i H' x H2 W hi t r _ y => by
    obtain ⟨rfl, rfl⟩ := y
    have hi : i < n := by simpa [rngD] using hi
    exact ⟨.int (lo + i), by simp [rngD, hi], Tp.refl _, fun _ q => q, rfl⟩
theorem i_rng1 {tg a : Expr} (hm : X.mg "range" = none) (ha : PA X [a] (lowA X.K tr)) (hg : Gl X "range" := by rfl) (hs : starEach [a] X.env = [(false, eval a X.env)] := by rfl) : PI X tg (.Call (.Name "range" p) [a] [] pos) (lowI X.K true (iRg1 tr)) :=
  (pi_range1 hg hm ha hs).wk fun σ H R ⟨ρ, W, S, E, q, kk⟩ => ⟨ρ, W, _, E, q, fun ds W1 vs H1 q1 t1 r1 i1 => by
    obtain ⟨j, rfl, h1, h2, q1⟩ := q1
    obtain ⟨v, rfl, rfl⟩ := im1 i1
    exact ⟨j, rfl, h1, h2, kk _ _ W1 _ H1 q1 t1 r1 src_rng⟩⟩
/-- zip of two tuples -/
def zipD (ds es : List D) : List D := List.zipWith (fun a b => .tup [a, b]) ds es
def iZipT (ta : TAD) : TID := fun ρ W S => ta ρ W fun vs W1 => ∃ ds es, vs = [.tup ds, .tup es] ∧ S (zipD ds es) (fun _ => True) W1
theorem src_zipT {H : Hp} {a b : Addr} {xs ys : List V} {ds es : List D} (h : TupF H a xs) (h2 : TupF H b ys) (m : ImL K H ds xs) (m2 : ImL K H es ys) : Src false K H (ItzT K a b) (zipD ds es) (fun _ => True) where
  go := fun i H' W hi t r _ => by
    have hi : i < ds.length ∧ i < es.length := by
      have := hi
      simp only [zipD, List.length_zipWith] at this
      omega
    have h3 : i < xs.length := by rw [← m.length]; exact hi.1
    have h4 : i < ys.length := by rw [← m2.length]; exact hi.2
    exact ⟨xs, ys, xs[i], ys[i], (h.mono t).sq, (h2.mono t).sq, List.getElem?_eq_getElem h3, List.getElem?_eq_getElem h4⟩
  stop := fun H' W t r _ => ⟨xs, ys, (h.mono t).sq, (h2.mono t).sq, by
    rw [← m.length, ← m2.length]
    simp only [zipD, List.length_zipWith]
    omega⟩
  yld := fun i H' x H2 W hi t r _ y => by
    obtain ⟨T, u, v, rfl, hT, rfl, y1, y2⟩ := y
    have n := Tp.new (o := .tup [u, v]) hT
    obtain ⟨d, e1, i1⟩ := m.get' (y1 xs (h.mono t).sq)
    obtain ⟨e, e2, i2⟩ := m2.get' (y2 ys (h2.mono t).sq)
    refine ⟨.tup [d, e], ?_, n, fun W' q => q.new hT, [d, e], T, [u, v], rfl, rfl, SqT.of upd_same, ImL.cons (i1.mono (t.trans n)) (ImL.cons (i2.mono (t.trans n)) ImL.nil)⟩
    simp [zipD, List.getElem?_zipWith, e1, e2]
theorem i_zipT {a b : Expr} {elts : List Expr} {kk : Nat} {tpos : Pos} (hm : X.mg "zip" = none) (ha : PA X [a, b] (lowA X.K tr)) (hg : Gl X "zip" := by rfl) (hs : starEach [a, b] X.env = (false, eval a X.env) :: starEach [b] X.env := by rfl) (hpl : (backTo pos (starEach [b] X.env)).any (·.1) = false := by rfl) :
    PI X (.Tuple elts kk tpos) (.Call (.Name "zip" p) [a, b] [] pos) (lowI X.K false (iZipT tr)) :=
  (pi_zipA hg hm ha hs hpl).wk fun σ H R ⟨ρ, W, S, E, q, kk⟩ => ⟨ρ, W, _, E, q, fun vs W1 us H1 q1 t1 r1 i1 => by
    obtain ⟨ds, es, rfl, q1⟩ := q1
    obtain ⟨v, w, rfl, ⟨p1, xs, rfl, h1, m1⟩, p2, ys, rfl, h2, m2⟩ := im2 i1
    exact ⟨p1, p2, xs, ys, rfl, .inr ⟨h1.sq, h2.sq, kk _ _ W1 _ H1 q1 t1 r1 (src_zipT h1 h2 m1 m2)⟩⟩⟩

/-! ### for -/
def loopD (g : TGD) (tb : TSD) (DD : EndsD) (stay : Wd → Prop) : List D → DSt → Wd → Prop
  | [], ρ, W => stay W ∧ DD.nx ρ W
  | x :: xs, ρ, W => stay W ∧ g x ρ W fun ρ2 W2 => tb { DD with nx := loopD g tb DD stay xs, ct := loopD g tb DD stay xs, bk := DD.nx } ρ2 W2
def dFor (it : TID) (g : TGD) (tb : TSD) : TSD := fun DD ρ W => it ρ W fun items stay W1 => loopD g tb DD stay items ρ W1
theorem s_for {b : Bool} {tg iter : Expr} {body : List Stmt} {it : TID} {g : TGD} {tb : TSD} (hp : PassesOwn (model X.prog X.w) X.A X.env X.xe) (hc : X.calm = true) (hi : PI X tg iter (lowI X.K b it)) (hg : PG X tg (lowG X.K b none g)) (hb : PSs X body (lowS X.K tb))
    (hs : ∀ x, foldedSetIterable iter X.env x = pure x := by intro _; rfl) : PS X (.For tg iter body [] pos) (lowS X.K (dFor it g tb)) := (ps_for hp hc hi hg hb hs).wk fun D σ H ⟨ρ, W, DD, E, q, g1, g2, g3, g4⟩ => by
  refine ⟨ρ, W, _, E, q, fun items stay W1 J H1 q1 t1 r1 src => ?_⟩
  refine ⟨fun i m σ' H' => m = items.length - i ∧ i ≤ items.length ∧ Tp H1 H' ∧ ∃ ρ' W', Env X.K σ' ρ' H' W' ∧ loopD g tb DD stay (items.drop i) ρ' W', ⟨items.length, by simp, Nat.zero_le _, Tp.refl _, ρ, W1, E.to t1 r1, by simpa using q1⟩, ?_⟩
  rintro i m σ2 H2 ⟨rfl, hi, t2, ρ2, W2, e2, q2⟩
  by_cases hlt : i < items.length
  · rw [List.drop_eq_getElem_cons hlt] at q2
    obtain ⟨hst, q2⟩ := q2
    refine .inr ⟨src.go i H2 W2 hlt t2 e2.rf hst, fun σ' H' => Tp H1 H' ∧ ∃ ρ' W', Env X.K σ' ρ' H' W' ∧ loopD g tb DD stay (items.drop (i + 1)) ρ' W', fun σ' H' n => ⟨items.length - (i + 1), by omega, rfl, hlt, n⟩, fun x H3 y => ?_⟩
    obtain ⟨d, hd, t3, rk, im⟩ := src.yld i H2 x H3 W2 hlt t2 e2.rf hst y
    rw [List.getElem?_eq_getElem hlt] at hd
    cases hd
    refine ⟨_, ρ2, W2, _, im, e2.to t3 (rk _ e2.rf), q2, fun ρ4 W4 σ4 H4 q4 t4 e4 _ => ?_⟩
    have T := (t2.trans t3).trans t4
    exact ⟨ρ4, W4, { DD with nx := loopD g tb DD stay (items.drop (i + 1)), ct := loopD g tb DD stay (items.drop (i + 1)), bk := DD.nx }, e4, q4, fun ρ5 W5 σ5 H5 q5 t5 e5 => ⟨T.trans t5, ρ5, W5, e5, q5⟩, g2.tp (t1.trans T), fun ρ5 W5 σ5 H5 q5 t5 e5 => g1 ρ5 W5 σ5 H5 q5 (t1.trans (T.trans t5)) e5, fun ρ5 W5 σ5 H5 q5 t5 e5 => ⟨T.trans t5, ρ5, W5, e5, q5⟩⟩
  · have e : i = items.length := by omega
    subst e
    rw [List.drop_length] at q2
    exact .inl ⟨src.stop H2 W2 t2 e2.rf q2.1, g1 ρ2 W2 σ2 H2 q2.2 (t1.trans t2) e2⟩

/-! ### list comprehensions -/
def compD (g : TGD) (tt : TTD) (te : TED) (ρ0 : DSt) (L : Addr) (Q : Wd → Prop) (stay : Wd → Prop) : List D → List D → Wd → Prop
  | [], acc, W => stay W ∧ Q W
  | x :: xs, acc, W => stay W ∧ g x ρ0 W fun ρ2 W2 => tt ρ2 W2 fun b W3 =>
      if b = true then te ρ2 W3 fun y W4 => W4 L = some (.lst acc) ∧ acc.length < sizeLine ∧ compD g tt te ρ0 L Q stay xs (acc ++ [y]) (wset W4 L (.lst (acc ++ [y])))
      else compD g tt te ρ0 L Q stay xs acc W3
def dLc (it : TID) (g : TGD) (tt : TTD) (te : TED) (vs : List Nat) : TED := fun ρ W Q => it ρ W fun items stay W1 => ∀ L, W1 L = none → compD g tt te (wipeD ρ vs) L (Q (.ref L)) stay items [] (wset W1 L (.lst []))
def dYes : TTD := fun _ W Q => Q true W
theorem ts_nil : PTs X [] (lowT X.K dYes) := ⟨fun pins s σ H Q I ⟨ρ, W, Qd, E, q, kk⟩ => pts_nil.run pins s σ H Q I (kk true W H q (Tp.refl H) E.rf)⟩
theorem ts_one {c : Expr} {t : TTD} (h : PT X c (lowT X.K t)) : PTs X [c] (lowT X.K t) := pts_one h
theorem lowLc {b : Bool} {it : TID} {g : TGD} {tt : TTD} {vs : List Nat} {σ : L2.St} {H : Hp} {Q : VK} (h : lowE K (dLc it g tt te vs) σ H Q) : tLc (lowI K b it) (lowG K b (some vs) g) (lowT K tt) (lowE K te) vs σ H Q := by
  obtain ⟨ρ, W, Qd, E, q, kk⟩ := h
  refine ⟨ρ, W, _, E, q, fun items stay W1 J H1 q1 t1 r1 src L hL => ?_⟩
  have q1 := q1 L (r1.free hL)
  have r2 : Ref K (upd H1 L (.lst [])) (wset W1 L (.lst [])) := r1.laid hL ⟨[], upd_same, rfl⟩
  have tn : Tp H1 (upd H1 L (.lst [])) := Tp.new hL
  refine ⟨fun i m H' => m = items.length - i ∧ i ≤ items.length ∧ Tp H1 H' ∧ ∃ acc W', Ref K H' W' ∧ compD g tt te (wipeD ρ vs) L (Qd (.ref L)) stay (items.drop i) acc W', ⟨items.length, by simp, Nat.zero_le _, tn, [], _, r2, by simpa using q1⟩, ?_⟩
  rintro i m H2 ⟨rfl, hi, t2, acc, W2, rf2, q2⟩
  by_cases hlt : i < items.length
  · rw [List.drop_eq_getElem_cons hlt] at q2
    obtain ⟨hst, q2⟩ := q2
    refine .inr ⟨src.go i H2 W2 hlt t2 rf2 hst, fun H' => Tp H1 H' ∧ ∃ acc W', Ref K H' W' ∧ compD g tt te (wipeD ρ vs) L (Qd (.ref L)) stay (items.drop (i + 1)) acc W', fun H' n => ⟨items.length - (i + 1), by omega, rfl, hlt, n⟩, fun x H3 y => ?_⟩
    obtain ⟨d, hd, t3, rk, im⟩ := src.yld i H2 x H3 W2 hlt t2 rf2 hst y
    rw [List.getElem?_eq_getElem hlt] at hd
    cases hd
    have E3 : Env K (wipe σ vs) (wipeD ρ vs) H3 W2 := ⟨((E.sl.mono (t1.trans (t2.trans t3))).wipe vs), rk _ rf2⟩
    refine ⟨_, _, W2, _, im, E3, q2, fun ρ4 W4 σ4 H4 q4 t4 e4 w4 => ⟨(w4 vs rfl).1.trans wipe_wipe, ?_⟩⟩
    have T := (t2.trans t3).trans t4
    refine ⟨ρ4, W4, _, e4, q4, fun b W5 H5 q5 t5 r5 => ?_⟩
    cases b with
    | false => exact iteF ⟨T.trans t5, acc, W5, r5, by simpa using q5⟩
    | true =>
      refine iteT ⟨ρ4, W5, _, e4.to t5 r5, by simpa using q5, fun yd W6 yv H6 q6 t6 r6 i6 => ?_⟩
      obtain ⟨h1, h2, q6⟩ := q6
      obtain ⟨xs, h3, m⟩ := r6 L _ h1
      refine ⟨xs, h3, by rw [← m.length]; exact h2, (T.trans t5).trans (t6.trans (tp_lst h3)), _, _, r6.setL h3 (m.snoc i6), q6⟩
  · have e : i = items.length := by omega
    subst e
    rw [List.drop_length] at q2
    exact .inl ⟨src.stop H2 W2 t2 rf2 q2.1, kk _ W2 _ H2 q2.2 (t1.trans t2) rf2 rfl⟩
theorem d_lc {b : Bool} {elt tg iter : Expr} {ifs : List Expr} {scope : Scope} {own : List (Str × Nat)} {it : TID} {g : TGD} {tt : TTD} (hc : X.calm = true) (hN : X.N.Nodup) (hi : PI X tg iter (lowI X.K b it)) (ok : BlkOk X.N X.env.scope scope own)
    (hg : ∀ (s : Shared) (H : Hp) (C : Addr) (cl : List (Str × Addr)) (fp : List Addr), PG (X.blk s H scope (compEnvC scope cl C X.env) fp) tg (lowG X.K b (some (own.map (·.2))) g))
    (ht : ∀ (s : Shared) (H : Hp) (C : Addr) (cl : List (Str × Addr)) (fp : List Addr), PTs (X.blk s H scope (compEnvC scope cl C X.env) fp) ifs (lowT X.K tt))
    (he : ∀ (s : Shared) (H : Hp) (C : Addr) (cl : List (Str × Addr)) (fp : List Addr), PE (X.blk s H scope (compEnvC scope cl C X.env) fp) elt (lowE X.K te)) (hs : ∀ x, foldedSetIterable iter X.env x = pure x := by intro _; rfl) :
    PE X (.ListComp elt [⟨tg, iter, ifs, 0⟩] scope pos) (lowE X.K (dLc it g tt te (own.map (·.2)))) := (pe_lc hc hN hi ok hg ht he hs).wk fun _ _ _ h => lowLc h
theorem s_setLc {b : Bool} {i : Nat} {y : Str} {py : Pos} {elt tg iter : Expr} {ifs : List Expr} {scope : Scope} {own : List (Str × Nat)} {spos : Pos} {it : TID} {g : TGD} {tt : TTD} (hc : X.calm = true) (hN : X.N.Nodup) (hy : X.N[i]? = some y) (hyl : X.env.scope.names.lookup y = some .local)
    (hsw : swapsWith (.ListComp elt [⟨tg, iter, ifs, 0⟩] scope pos) (some (.Name y py)) spos.line X.env = pure true) (hi : PI X tg iter (lowI X.K b it)) (ok : BlkOk X.N X.env.scope scope own)
    (hg : ∀ (s : Shared) (H : Hp) (C : Addr) (cl : List (Str × Addr)) (fp : List Addr), PG (X.blk s H scope (compEnvC scope cl C X.env) fp) tg (lowG X.K b (some (own.map (·.2))) g))
    (ht : ∀ (s : Shared) (H : Hp) (C : Addr) (cl : List (Str × Addr)) (fp : List Addr), PTs (X.blk s H scope (compEnvC scope cl C X.env) fp) ifs (lowT X.K tt))
    (he : ∀ (s : Shared) (H : Hp) (C : Addr) (cl : List (Str × Addr)) (fp : List Addr), PE (X.blk s H scope (compEnvC scope cl C X.env) fp) elt (lowE X.K te)) (hs : ∀ x, foldedSetIterable iter X.env x = pure x := by intro _; rfl) :
    PS X (.Assign [.Name y py] (.ListComp elt [⟨tg, iter, ifs, 0⟩] scope pos) spos) (lowS X.K (dAsg (dLc it g tt te (own.map (·.2))) (gN i))) := (ps_setLc hc hN hy hyl hsw hi ok hg ht he hs).wk fun D σ H ⟨ρ, W, DD, E, q, g1, g2, g3, g4⟩ =>
  lowLc ⟨ρ, W, _, E, q, fun d W1 v H1 q1 t1 r1 i1 => g1 _ W1 _ H1 q1 t1 ⟨(E.to t1 r1).sl.set i i1, r1⟩⟩
end
end DL

/-! DL6: l[i] += e, in over data, sorted of data, dict(pairs), t[::-1]. -/
namespace DL
open PySem PySem.Spec L2 RZ
open PyProof.Rows hiding St

section
variable {X : Cx} {a b c e o i : Expr} {es : List Expr} {ta tb tc to ti te : TED} {tr : TAD} {pos : Pos} {K : Frag}

/-! ### l[i] += e -/
def rGetL (K : Frag) : V → V → Hp → VK → Prop := fun x y H Q => ∃ p xs j v, x = .ref p ∧ y = .int ((j : Nat) : Int) ∧ SqL K H p xs ∧ xs[j]? = some v ∧ Q v H
theorem get_list : PGet X (rGetL X.K) := by
  intro pins s σ H x y ov iv Q I rx ry h
  obtain ⟨p, xs, j, v, rfl, rfl, hq, hv, q⟩ := h
  cases rx
  obtain ⟨t, rfl⟩ := ry
  obtain ⟨its, r, pl, hz⟩ := I.list hq
  obtain ⟨w, ew, rw'⟩ := r.get hv
  obtain ⟨hj, _⟩ := List.getElem?_eq_some_iff.mp ew
  have hl := r.length
  have hn := line63
  exact wpAny_getItem_list (x := w) pl.isList (by omega) (by omega) (by simpa using ew) ⟨v, H, I, rw', q⟩
def dAugIx (f : F2) (to ti te : TED) : TSD := fun DD ρ W => to ρ W fun o W1 => ti ρ W1 fun i W2 => ∃ (a : Addr) (j : Nat) (ds : List D) (d : D), o = .ref a ∧ i = .int (j : Int) ∧ W2 a = some (.lst ds) ∧ ds[j]? = some d ∧
  te ρ W2 fun e W3 => f d e W3 fun z W4 => ∃ ds', W4 a = some (.lst ds') ∧ j < ds'.length ∧ DD.nx ρ (wset W4 a (.lst (ds'.set j z)))
theorem s_augIx {op : Operator} {r : R2} {f : F2} {tpos : Pos} (ho : PE X o (lowE X.K to)) (hi : PE X i (lowE X.K ti)) (he : PE X e (lowE X.K te)) (hop : OpR X (inplaceOp op) r) (hd : OpD X.K r f)
    (ha : ∀ ov iv new, augStore i ov iv new = (do holding [new, ov, iv] (setItem ov iv new); release [new, ov, iv] []; pure .next) := by intros; rfl) : PS X (.AugAssign (.Subscript o i tpos) op e pos) (lowS X.K (dAugIx f to ti te)) :=
  (ps_augS (tget := rGetL X.K) (tip := r) (tset := rSetL) ho hi get_list he (fun pins s σ H x y v u Q I r1 r2 h => hop pins s σ H x y v u Q I r1 r2 h) set_list ha).wk fun D σ H ⟨ρ, W, DD, E, q, g1, g2, g3, g4⟩ =>
  ⟨ρ, W, _, E, q, fun od W1 ov H1 q1 t1 r1 i1 => ⟨ρ, W1, _, E.to t1 r1, q1, fun id W2 iv H2 q2 t2 r2 i2 => by
    obtain ⟨a, j, ds, d, rfl, rfl, h1, h2, q2⟩ := q2
    obtain ⟨xs, h3, m⟩ := r2 a _ h1
    obtain ⟨v, h4, i4⟩ := m.get h2
    refine ⟨a, xs, j, v, i1, i2, SqL.of h3, h4, ρ, W2, _, E.to (t1.trans t2) r2, q2, fun ed W3 ev H3 q3 t3 r3 i3 => ?_⟩
    refine hd v ev d ed H3 W3 _ _ r3 (i4.mono t3) i3 q3 fun z W4 zv H4 q4 t4 r4 i5 => ?_
    obtain ⟨ds', h5, h6, q4⟩ := q4
    obtain ⟨ys, h7, m2⟩ := r4 a _ h5
    have hj : j < ys.length := by rw [← m2.length]; exact h6
    have T := (((t1.trans t2).trans t3).trans t4).trans (tp_lst (ys := ys.set j zv) h7)
    refine ⟨a, ys, (j : Int), j, i1, i2, h7, ?_, g1 _ _ _ _ q4 T (E.to T (r4.setL h7 (m2.set j i5)))⟩
    unfold ixN
    rw [if_pos (Int.natCast_nonneg j), if_pos (by omega)]
    simp⟩⟩

/-! ### in, not in: items of any depth -/
def fIn (neg : Bool) : F2 := fun d e W Q => ∃ p ps, pyd d = some p ∧ SeqAt.shaped p = true ∧ ((∃ es, e = .tup es ∧ pydL es = some ps) ∨ ∃ a es, e = .ref a ∧ LstAt W a es ∧ pydL es = some ps) ∧ PyData.canLayAll0 ps = true ∧ Q (.bl (if neg then !(ps.any fun z => PyData.eqv z p) else ps.any fun z => PyData.eqv z p)) W
def rInA (K : Frag) (neg : Bool) : R2 := fun x y H Q => ∃ p ps, Dp K H x p ∧ SeqAt.shaped p = true ∧ (Dp K H y (.tuple ps) ∨ Dp K H y (.list ps)) ∧ PyData.canLayAll0 ps = true ∧ Q (.bl (if neg then !(ps.any fun z => PyData.eqv z p) else ps.any fun z => PyData.eqv z p)) H
theorem op_inA (hu : X.A.units + 65 < cLine) : OpR X (compareOp .In) (rInA X.K false) := by
  intro pins s σ H x y v u Q I rx ry h
  obtain ⟨d, ds, hd, sd, he, se, q⟩ := h
  obtain ⟨as, r1⟩ := Dp.reads I d x v hd rx
  rcases he with he | he
  · obtain ⟨bs, r2⟩ := Dp.reads I (.tuple ds) y u he ry
    exact SeqAt.in_tuple_reads r2 r1 se (SeqAt.canLay_of_shaped sd) (room_in_shaped sd hu) ⟨.bl _, H, I, rfl, q⟩
  · obtain ⟨bs, r2⟩ := Dp.reads I (.list ds) y u he ry
    exact SeqAt.in_list_reads r2 r1 se (SeqAt.canLay_of_shaped sd) (room_in_shaped sd hu) ⟨.bl _, H, I, rfl, q⟩
theorem op_notInA (hu : X.A.units + 65 < cLine) : OpR X (compareOp .NotIn) (rInA X.K true) := by
  intro pins s σ H x y v u Q I rx ry h
  obtain ⟨d, ds, hd, sd, he, se, q⟩ := h
  obtain ⟨as, r1⟩ := Dp.reads I d x v hd rx
  rcases he with he | he
  · obtain ⟨bs, r2⟩ := Dp.reads I (.tuple ds) y u he ry
    exact SeqAt.notIn_tuple_reads r2 r1 se (SeqAt.canLay_of_shaped sd) (room_in_shaped sd hu) ⟨.bl _, H, I, rfl, q⟩
  · obtain ⟨bs, r2⟩ := Dp.reads I (.list ds) y u he ry
    exact SeqAt.notIn_list_reads r2 r1 se (SeqAt.canLay_of_shaped sd) (room_in_shaped sd hu) ⟨.bl _, H, I, rfl, q⟩
theorem od_in {neg : Bool} : OpD K (rInA K neg) (fIn neg) := fun x y d e H W Qd Q r i1 i2 h k => by
  obtain ⟨p, ps, h1, h2, h3, h4, q⟩ := h
  refine ⟨p, ps, i1.dp h1, h2, ?_, h4, k _ W _ H q (Tp.refl H) r rfl⟩
  rcases h3 with ⟨es, rfl, h5⟩ | ⟨a, es, rfl, h5, h6⟩
  · exact .inl (i2.dp (by simp only [pyd, h5]; rfl))
  · cases (show y = .ref a from i2)
    obtain ⟨xs, h7, m⟩ := h5.sq r
    exact .inr (.lst h7 (m.dp h6))

/-! ### t[::-1] of a tuple -/
theorem sliceApplied_rev {prog : Program} {w : World} {A : Around} {E : Value → Shared → Prop} {s : Shared} {sl : Addr} {vs : Value} {n : Nat} {Q : Int × Int × Nat → Shared → Prop} (hs : s.heap.IsSliceOf sl .none .none vs) (ps : IsPart vs (some (-1)))
    (h : Q ((n : Int) - 1, -1, n) s) : wpAny (model prog w) A (Builtin.Slice.sliceApplied (.ref sl) (pure (n : Int))) Q E s := by
  obtain ⟨os, hos, hcs, hds⟩ := id hs
  unfold Builtin.Slice.sliceApplied Builtin.Slice.sliceFields
  refine wpAny_bind (wpAny_bind (wpAny_field hos hds (x := .none) rfl (wpAny_bind (wpAny_field hos hds (x := .none) rfl (wpAny_bind (wpAny_field hos hds (x := vs) rfl (wpAny_pure ?_)))))))
  refine wpAny_bind (HT.slicePart_ ps ?_)
  show wpAny _ _ (if ((-1 : Int) == 0) = true then _ else _) _ _ s
  rw [if_neg (by decide)]
  refine wpAny_bind (HT.slicePart_ .none (wpAny_bind (HT.slicePart_ .none (wpAny_bind (wpAny_pure ?_)))))
  show wpAny _ _ (match Builtin.Slice.sliceAdjust none none (-1) (n : Int) with | (lo, hi) => pure (lo, (-1 : Int), Builtin.Slice.slicePlaces lo hi (-1))) _ _ s
  have e1 : Builtin.Slice.sliceAdjust none none (-1) (n : Int) = ((n : Int) - 1, -1) := by
    unfold Builtin.Slice.sliceAdjust
    simp
  rw [e1]
  show wpAny _ _ (pure ((n : Int) - 1, (-1 : Int), Builtin.Slice.slicePlaces ((n : Int) - 1) (-1) (-1))) _ _ s
  have e2 : Builtin.Slice.slicePlaces ((n : Int) - 1) (-1) (-1) = n := by
    unfold Builtin.Slice.slicePlaces
    rw [if_neg (by decide)]
    by_cases h0 : n = 0
    · subst h0; rfl
    · rw [if_pos (by omega)]
      have e3 : (- -1 : Int) = 1 := rfl
      have : ((n : Int) - 1 - -1 - 1) / (- -1) + 1 = (n : Int) := by rw [e3, Int.ediv_one]; omega
      rw [this]
      simp
  rw [e2]
  exact wpAny_pure h
theorem filterMap_all {α β : Type} {f : α → Option β} {g : α → β} : ∀ {l : List α}, (∀ k ∈ l, f k = some (g k)) → l.filterMap f = l.map g
  | [], _ => rfl
  | a :: l, h => by
    rw [List.filterMap_cons, h a (by simp), List.map_cons, filterMap_all fun k hk => h k (by simp [hk])]
theorem pick_rev (xs : Array Value) : ((List.range xs.size).filterMap fun (k : Nat) => xs[((xs.size : Int) - 1 + (k : Int) * (-1)).toNat]?) = xs.toList.reverse := by
  rw [filterMap_all (g := fun k => xs.toList.getD (xs.size - 1 - k) Value.none) (fun k hk => by
    have hk : k < xs.size := List.mem_range.mp hk
    have e2 : ((xs.size : Int) - 1 + (k : Int) * (-1)).toNat = xs.size - 1 - k := by omega
    have h3 : xs.size - 1 - k < xs.size := by omega
    rw [e2, Array.getElem?_eq_getElem h3]
    simp [List.getD, h3])]
  apply List.ext_getElem
  · simp
  · intro j h1 h2
    have hj : j < xs.size := by simpa using h1
    have h3 : xs.size - 1 - j < xs.size := by omega
    simp [List.getD, h3]
theorem getItem_tuple_rev {prog : Program} {w : World} {A : Around} {E : Value → Shared → Prop} {s : Shared} {t sl : Addr} {items : Array Value} {vs : Value} {Q : Value → Shared → Prop} (ht : IsTup s.heap t items) (hs : s.heap.IsSliceOf sl .none .none vs) (ps : IsPart vs (some (-1)))
    (h : Q (.ref s.heap.objs.size) { s with heap := s.heap.push { cls := .type "tuple", data := .seq items.toList.reverse.toArray } })
    (hsz : items.size ≤ sizeLine) : wpAny (model prog w) A (getItem (.ref t) (.ref sl)) Q E s := by
  have htake : sizeOk (.seq items.toList.reverse.toArray) := by
    show items.toList.reverse.toArray.size ≤ sizeLine
    simpa using hsz
  obtain ⟨os, hos, hcs, hds⟩ := id hs
  have hTs : s.TypeIs (.ref sl) "slice" := ⟨os, hos, hcs⟩
  unfold getItem
  try with_reducible refine wpAny_holding ?_
  first | refine wpAny_bind (wpAny_pure ?_) | skip
  refine wpAny_bind (wpAny_sequenceKey ht.typeIs (by decide) ?_)
  refine wpAny_bind (wpAny_callSpecial?_slot (name := Str.ofString "__getitem__") ht.typeIs PyProof.Rows.slot_tuple_getitem
    (wpAny_call_entry PyProof.Rows.slot_tuple_getitem ht.typeIs entry_tuple_getitem ?_ (args_tuple_getitem _ _)))
  show wpAny _ _ (Builtin.Tuple.tupleItemsOf (.ref t) >>= _) _ _ s
  refine wpAny_bind (tupleItemsOf_ ht ?_)
  refine wpAny_bind (wpAny_typeOf hTs ?_)
  rw [if_pos (by decide)]
  refine wpAny_bind (sliceApplied_rev hs ps ?_)
  have hno : ¬ (((((items.size : Int) - 1 : Int) == 0 && (-1 : Int) == 1 && items.size == items.size) = true)) := by
    intro q
    rw [Bool.and_eq_true, Bool.and_eq_true] at q
    exact absurd q.1.2 (by decide)
  show wpAny _ _ (if (((items.size : Int) - 1 : Int) == 0 && (-1 : Int) == 1 && items.size == items.size) = true then _ else _) _ _ s
  rw [if_neg hno, pick_rev]
  first
    | exact wpAny_bind (m := Builtin.Tuple.tupleExact _) (wpAny_newObj_type (wpAny_pure ⟨_, rfl, wpAny_pure h⟩) htake)
    | exact wpAny_bind (m := Builtin.Tuple.tupleExact _) (wpAny_newObj_type (wpAny_bind (wpAny_pure (wpAny_pure ⟨_, rfl, wpAny_pure h⟩))) htake)
    | exact wpAny_bind (wpAny_bind (m := Builtin.Tuple.tupleExact _) (wpAny_newObj_type (wpAny_pure (wpAny_pure ⟨_, rfl, wpAny_pure h⟩)) htake))
    | exact wpAny_bind (wpAny_bind (m := Builtin.Tuple.tupleExact _) (wpAny_newObj_type (wpAny_pure ⟨_, rfl, wpAny_pure h⟩) htake))
def tRevT (K : Frag) (te : TE) : TE := fun σ H Q => te σ H fun x H1 => ∃ a xs, x = .ref a ∧ SqT K H1 a xs ∧ ∀ p o, H1 p = none → o.dict = none → Q (.ref p) (upd H1 p (.frz o (.tup xs.reverse)))
theorem pe_revT {e : Expr} {te : TE} {k : Nat} {p1 p2 p3 pos : Pos} (he : PE X e te) : PE X (.Subscript e (.Slice none none (some (.UnaryOp .USub (.Constant (.int 1) k p1) p2)) p3) pos) (tRevT X.K te) := by
  refine ⟨fun pins s σ H Q I h => ?_⟩
  refine PyProof.Rows.Subscript_ (thn (he.run pins s σ H _ I h) fun v s1 ⟨x, H1, I1, r1, q1⟩ => ?_)
  obtain ⟨a, xs, ex, hx, q⟩ := q1
  subst ex
  cases r1
  have hst : PO X (some (.UnaryOp .USub (.Constant (.int 1) k p1) p2)) (tPart (tUn (rU fun i => .int (-i)) (tC (.int 1)))) := po_some (pe_un un_neg pe_int)
  refine wpAny_Slice (thn (po_none.run pins s1 σ H1 (fun o H2 => o = none ∧ H2 = H1) I1 ⟨rfl, rfl⟩) fun vl s2 ⟨l, H2, I2, pl, el, e2⟩ => ?_)
  subst el e2
  refine thn (po_none.run pins s2 σ H2 (fun o H3 => o = none ∧ H3 = H2) I2 ⟨rfl, rfl⟩) fun vu s3 ⟨u, H3, I3, pu, eu, e3⟩ => ?_
  subst eu e3
  refine thn (hst.run pins s3 σ H3 (fun o H4 => o = some (-1) ∧ H4 = H3) I3 ⟨1, rfl, -1, rfl, rfl, rfl⟩) fun vs s4 ⟨o, H4, I4, ps, eo, e4⟩ => ?_
  subst eo e4
  have I5 : L2.Inv X pins σ H4 { s4 with heap := s4.heap.push { cls := .type "slice", data := .fields #[vl, vu, vs] } } := I4.kept (t' := s4.toks) fun b ob q => Heap.get?_push_of_some _ q
  obtain ⟨its, r, ht, hz⟩ := I5.tuple hx
  have hlen := r.length
  cases pl
  cases pu
  show wpAny (model X.prog X.w) X.A (subscriptTail e (.Slice none none (some (.UnaryOp .USub (.Constant (.int 1) k p1) p2)) p3) (.ref a) (.ref s4.heap.objs.size)) (EP X pins σ Q) X.xe { s4 with heap := s4.heap.push { cls := .type "slice", data := .fields #[.none, .none, vs] } }
  refine PyProof.Rows.tail_any (ops := [.ref a, .ref s4.heap.objs.size]) ht.typeIs (PyProof.Rows.slot_tuple_getitem.lookup) ?_ (by with_unfolding_all rfl)
  refine getItem_tuple_rev ht (Heap.IsSliceOf.new _ .none .none vs) ps ?_ (by rw [List.size_toArray]; omega)
  refine ⟨.ref _, _, I5.laid (t' := s4.toks) (o := .frz { cls := .type "tuple", data := .seq its.reverse.toArray } (.tup xs.reverse)) (fun b ob q => Heap.get?_push_of_some _ q) (Nat.le_refl _) ?_, rfl, q _ _ (I5.hok.fresh (Nat.le_refl _)) rfl⟩
  exact ⟨Heap.get?_push_size _ rfl, by rw [List.length_reverse]; exact hz, _, r.reverse, IsTup.new _ _⟩
def dRev (te : TED) : TED := fun ρ W Q => te ρ W fun d W1 => ∃ ds, d = .tup ds ∧ Q (.tup ds.reverse) W1
theorem d_rev {k : Nat} {p1 p2 p3 : Pos} (he : PE X e (lowE X.K te)) : PE X (.Subscript e (.Slice none none (some (.UnaryOp .USub (.Constant (.int 1) k p1) p2)) p3) pos) (lowE X.K (dRev te)) :=
  (pe_revT he).wk fun σ H Q ⟨ρ, W, Qd, E, q, kk⟩ => ⟨ρ, W, _, E, q, fun d W1 v H1 q1 t1 r1 i1 => by
    obtain ⟨ds, rfl, q1⟩ := q1
    obtain ⟨a, xs, rfl, h1, m⟩ := i1
    refine ⟨a, xs, rfl, h1.sq, fun p o hp ho => ?_⟩
    have t := Tp.new (o := .frz o (.tup xs.reverse)) hp
    exact kk _ W1 _ _ q1 (t1.trans t) (r1.new hp) ⟨p, _, rfl, TupF.new ho, m.reverse.mono t⟩⟩
end
end DL

/-! DL7: sorted of data (a list, a tuple, a dict), dict(tuple of pairs). -/
namespace DL
open PySem PySem.Spec L2 RZ
open PyProof.Rows hiding St

section
variable {prog : Program} {w : World} {A : Around} {E : Value → Shared → Prop} {s : Shared}
theorem sorted_via {β : Type} (Col : List Value → Prop) {bs : List β} {enc : β → PyData} {R : Value → β → Prop} {r : Addr} {Q : Value → Shared → Prop}
    (hcol : ∀ (R' : List Value → Shared → Prop) (E' : Value → Shared → Prop), (∀ (vs : List Value) (h' : Heap) (tk : Nat), Col vs → (∀ b o, s.heap.get? b = some o → h'.get? b = some o) → R' vs { s with heap := h', toks := tk }) → wpAny (model prog w) A.in1 (collect (.ref r)) R' E' s)
    (ee : ∀ vs, Col vs → PySem.W.EachIs R vs bs ∧ PySem.W.EachIs (fun v b => ∃ as, Reads s.heap v (enc b) as) vs bs) (hal : PySem.W.AllAlike (bs.map enc)) (hk : PySem.W.Sortable (bs.map enc)) (hL : bs.length ≤ sizeLine) (hu : ∀ b, b ∈ bs → A.units + 2 + (enc b).depth < cLine)
    (h : ∀ (out : List Value) (h1 h' : Heap) (tk : Nat) (n : Nat), out.length = bs.length → PySem.W.EachIs R out (bs.mergeSort (PySem.W.dataLe false enc)) → (∀ b o, s.heap.get? b = some o → h1.get? b = some o) → (∀ b o, h1.get? b = some o → h'.get? b = some o) → h'.get? h1.objs.size = some (seqObj "list" out.toArray n) → Q (.ref h1.objs.size) { s with heap := h', toks := tk }) :
    wpAny (model prog w) A (call (.builtin "sorted") [.ref r]) Q E s := by
  refine Calls.call_function_entry PyProof.Rows.kind_sorted PyProof.Rows.plain_sorted PyProof.Rows.entry_sorted (PyProof.Rows.args_sorted1 _) ?_
  unfold Builtin.«sorted»
  refine wpAny_bind (m := checkCount "sorted" 1 1 _) (wpAny_pure ?_)
  refine wpAny_bind (hcol _ _ fun vs h1 tk hcv hk1 => ?_)
  obtain ⟨e, er⟩ := ee vs hcv
  have hlen : vs.length ≤ sizeLine := by rw [e.length]; exact hL
  refine wpAny_bind (wpAny_newList ?_ hlen)
  have hoL : (h1.push (seqObj "list" vs.toArray 0)).get? h1.objs.size = some (seqObj "list" vs.toArray 0) := Heap.get?_push_size _ rfl
  have old0 : ∀ b o, h1.get? b = some o → b ≠ h1.objs.size ∧ (h1.push (seqObj "list" vs.toArray 0)).get? b = some o := fun b o q =>
    ⟨Nat.ne_of_lt (Heap.lt_size q), Heap.get?_push_of_some _ q⟩
  have old : ∀ b o, s.heap.get? b = some o → b ≠ h1.objs.size ∧ (h1.push (seqObj "list" vs.toArray 0)).get? b = some o := fun b o q =>
    ⟨Nat.ne_of_lt (Heap.lt_size (hk1 b o q)), Heap.get?_push_of_some _ (hk1 b o q)⟩
  show wpAny _ _ _ _ _ { s with heap := h1.push (seqObj "list" vs.toArray 0), toks := tk }
  have er' : PySem.W.EachIs (fun v b => ∃ as, Reads (PySem.W.sortingHeap (h1.push (seqObj "list" vs.toArray 0)) h1.objs.size vs) v (enc b) as) vs bs := er.mono fun _ _ ⟨as, q⟩ =>
    ⟨as, PyProof.Rows.Reads.keeps (fun b o z => PySem.W.sortingHeap_old (old b o z).1 (old b o z).2) q⟩
  refine wpAny_bind (wpAny_holding (wpAny_call_entry PyProof.Rows.slot_list_sort ⟨_, hoL, rfl⟩ PyProof.Rows.entry_list_sort
    (PySem.W.list_sort_vals (s := { s with heap := h1.push (seqObj "list" vs.toArray 0), toks := tk }) (κ := PySem.W.dataKind (PySem.W.sortingHeap (h1.push (seqObj "list" vs.toArray 0)) h1.objs.size vs) (bs.map enc)) hoL
      (PySem.W.SortsAt.data (s := { s with heap := PySem.W.sortingHeap (h1.push (seqObj "list" vs.toArray 0)) h1.objs.size vs, toks := tk }) (PySem.W.each_map (R := fun v d => ∃ as, Reads (PySem.W.sortingHeap (h1.push (seqObj "list" vs.toArray 0)) h1.objs.size vs) v d as) enc er') hal hk (PySem.W.bound_map hu)) hlen ⟨.none, rfl, ?_⟩) (PyProof.Rows.args_list_sort _)))
  obtain ⟨n, hn⟩ := PyProof.Rows.sortedHeap_at (vs := vs) (out := (PySem.W.sortVals (PySem.W.dataKind (PySem.W.sortingHeap (h1.push (seqObj "list" vs.toArray 0)) h1.objs.size vs) (bs.map enc)) false vs vs).toArray) hoL
  refine wpAny_pure ⟨_, rfl, h _ h1 _ tk n (by rw [PySem.W.sortVals_length false rfl]; exact e.length) (PySem.W.sortVals_data false e er' hal) hk1 (fun b o q => ?_) hn⟩
  obtain ⟨o1, o2⟩ := old0 b o q
  rw [PyProof.Rows.sortedHeap_old o1 (Heap.lt_size o2)]
  exact o2
theorem collect_tup {l : Addr} {vs : List Value} {R' : List Value → Shared → Prop} (hl : IsTup s.heap l vs.toArray) (hsz : vs.length ≤ sizeLine)
    (h : ∀ (h' : Heap) (tk : Nat), (∀ b o, s.heap.get? b = some o → h'.get? b = some o) → R' vs { s with heap := h', toks := tk }) :
    wpAny (model prog w) A (collect (.ref l)) R' E s := by
  obtain ⟨o, ho, hc, n, hd⟩ := id hl
  unfold collect
  refine wpAny_bind (wpAny_runValue (codeAny_builtin PyProof.Rows.entry_proto_collect' ?_))
  show wpAny _ _ (do again (.builtin "list.__iadd__" ⟨[← newList [], .ref l], []⟩)) _ _ s
  refine wpAny_bind (wpAny_newList (wpAny_pure ⟨Code.quiet_builtin _ (by decide +kernel), codeAny_builtin PyProof.Rows.entry_list_iadd' ?_⟩))
  show wpAny _ _ (Builtin.List.listExtendWith (.ref s.heap.objs.size) (.ref l) (.ref s.heap.objs.size)) _ _ { s with heap := s.heap.push (seqObj "list" #[] 0) }
  unfold Builtin.List.listExtendWith
  have ho' : (s.heap.push (seqObj "list" #[] 0)).get? l = some o := Heap.get?_push_of_some _ ho
  refine wpAny_bind (wpAny_typeOf (T := "tuple") ⟨o, ho', hc⟩ ?_)
  have ht : (Value.type "tuple" == Value.type "tuple") = true := by rfl
  rw [if_pos (by rw [ht]; simp)]
  refine wpAny_bind (listItems_at ho' hd ?_)
  refine wpAny_bind (listItems_at (xs := #[]) (n := 0) (Heap.get?_push_size _ rfl) rfl ?_)
  rw [if_neg (by simp)]
  refine wpAny_bind (listUpdate_at (xs := #[]) (n := 0) (Heap.get?_push_size _ rfl) rfl ?_ (Nat.zero_le _) (by show (#[] ++ vs.toArray).size ≤ sizeLine + 1; simp only [Array.size_append, List.size_toArray, List.length_nil]; omega))
  refine wpAny_pure ?_
  show wpAny (model prog w) A (do
      let o ← load s.heap.objs.size
      match o.data with
      | .seq xs _ => pure xs.toList
      | _ => unsupported "internal:collect") R' E { s with heap := (s.heap.push (seqObj "list" #[] 0)).update s.heap.objs.size (Obj.mapSeq (· ++ vs.toArray)) }
  refine wpAny_bind (wpAny_load (get?_update_seq (Heap.get?_push_size _ rfl) _) ?_)
  show wpAny _ _ (pure ((#[] : Array Value) ++ vs.toArray).toList) R' E _
  rw [show ((#[] : Array Value) ++ vs.toArray).toList = vs by simp]
  refine wpAny_pure (h _ s.toks fun b ob q => ?_)
  rw [Heap.get?_update_ne _ _ _ _ (Nat.ne_of_lt (Heap.lt_size q))]
  exact Heap.get?_push_of_some _ q
end
section
variable {X : Cx} {K : Frag}
/-- what each value is: its data, the data's place in the layer -/
theorem each_of : ∀ {h : Heap} {us : List Value} {xs : List V} {ds : List D} {ps : List PyData} {as : List Addr} {H : Hp}, Vals xs us → ImL K H ds xs → pydL ds = some ps → ReadsAll h us ps as →
    PySem.W.EachIs (fun u (b : D × PyData) => (∃ x, L2.RelV x u ∧ Im K H b.1 x) ∧ ∃ as, Reads h u b.2 as) us (ds.zip ps)
  | h, us, xs, [], ps, as, H, rv, m, e, r => by
    cases ImL.nil' m
    cases rv
    simp only [pydL] at e; cases e
    exact .nil
  | h, us, xs, d :: ds, ps, as, H, rv, m, e, r => by
    obtain ⟨v, vs, rfl, m1, m2⟩ := ImL.cons' m
    cases rv with
    | cons r1 r2 =>
      simp only [pydL] at e
      cases q1 : pyd d with
      | none => rw [q1] at e; cases e
      | some p =>
        cases q2 : pydL ds with
        | none => rw [q1, q2] at e; cases e
        | some qs =>
          rw [q1, q2] at e
          cases e
          cases r with
          | cons a1 a2 => exact .cons ⟨⟨v, r1, m1⟩, _, a1⟩ (each_of r2 m2 q2 a2)
theorem each_back {H : Hp} : ∀ {us : List Value} {bs : List (D × PyData)}, PySem.W.EachIs (fun u (b : D × PyData) => (∃ x, L2.RelV x u ∧ Im K H b.1 x)) us bs → ∃ xs, Vals xs us ∧ ImL K H (bs.map (·.1)) xs
  | _, _, .nil => ⟨[], .nil, rfl⟩
  | _, _, .cons ⟨x, h1, h2⟩ t => by
    obtain ⟨xs, h3, h4⟩ := each_back t
    exact ⟨x :: xs, .cons h1 h3, ImL.cons h2 h4⟩
theorem pydL_len : ∀ {ds : List D} {ps : List PyData}, pydL ds = some ps → ps.length = ds.length
  | [], ps, e => by simp only [pydL] at e; cases e; rfl
  | d :: ds, ps, e => by
    simp only [pydL] at e
    cases q1 : pyd d with
    | none => rw [q1] at e; cases e
    | some p =>
      cases q2 : pydL ds with
      | none => rw [q1, q2] at e; cases e
      | some qs =>
        rw [q1, q2] at e
        cases e
        rw [List.length_cons, List.length_cons, pydL_len q2]
theorem zip_fst {ds : List D} {ps : List PyData} (h : ps.length = ds.length) : (ds.zip ps).map (·.1) = ds := by
  rw [List.map_fst_zip]; omega
theorem zip_snd {ds : List D} {ps : List PyData} (h : ps.length = ds.length) : (ds.zip ps).map (·.2) = ps := by
  rw [List.map_snd_zip]; omega
/-- sorted(..) of a list or a tuple of data; of a dict its keys -/
def SrtOut (ds : List D) (ps : List PyData) : List D := ((ds.zip ps).mergeSort (PySem.W.dataLe false (·.2))).map (·.1)
def fSorted : FC := fun vs W Q => ∃ ds ps, ((∃ xs, vs = [.tup xs] ∧ ds = xs) ∨ (∃ a, vs = [.ref a] ∧ LstAt W a ds) ∨ ∃ a kvs, vs = [.ref a] ∧ W a = some (.dk kvs) ∧ ds = kvs.map fun kv => kD kv.1) ∧ pydL ds = some ps ∧ PySem.W.AllAlike ps ∧ PySem.W.Sortable ps ∧ (∀ p ∈ ps, SeqAt.shaped p = true) ∧
  ∀ r, W r = none → Q (.ref r) (wset W r (.lst (SrtOut ds ps)))
def rSortedD (K : Frag) : List V → Hp → VK → Prop := fun vs H Q => ∃ ds W Qd, ImL K H ds vs ∧ Ref K H W ∧ fSorted ds W Qd ∧ Low K H Qd Q
theorem key_im {H : Hp} {k : Key} {v : Value} (h : keyIs k v = true) : ∃ x, L2.RelV x v ∧ Im K H (kD k) x := ⟨kV k, relV_key h, kD_im k⟩
theorem cr_sortedD (hc : X.calm = true) (hu : X.A.units + 70 < cLine) : CallR X (.builtin "sorted") (rSortedD X.K) := by
  intro pins s σ H vs us Q I r h
  obtain ⟨args, W, Qd, im, rf, ⟨ds, ps, hsrc, hp, hal, hk, hsh, q⟩, kk⟩ := h
  have hlen := pydL_len hp
  -- what follows once the items are collected
  have go : ∀ (a : Addr) (Col : List Value → Prop), us = [.ref a] → (∀ its, Col its → ∃ xs as, Vals xs its ∧ ImL X.K H ds xs ∧ ReadsAll s.heap its ps as) → ds.length ≤ sizeLine →
      (∀ (R' : List Value → Shared → Prop) (E' : Value → Shared → Prop), (∀ (vs : List Value) (h' : Heap) (tk : Nat), Col vs → (∀ b o, s.heap.get? b = some o → h'.get? b = some o) → R' vs { s with heap := h', toks := tk }) → wpAny (model X.prog X.w) X.A.in1 (collect (.ref a)) R' E' s) →
      wpAny (model X.prog X.w) X.A (call (.builtin "sorted") us) (EP X pins σ Q) X.xe s := by
    intro a Col e hC hz hcol
    subst e
    have e1 : (ds.zip ps).map (·.2) = ps := zip_snd hlen
    have hl2 : (ds.zip ps).length ≤ sizeLine := by
      rw [List.length_zip, hlen]
      omega
    refine sorted_via Col (enc := fun b : D × PyData => b.2) (R := fun u b => ∃ x, L2.RelV x u ∧ Im X.K H b.1 x) hcol (fun its hi => by
      obtain ⟨xs, as, rv, m, rd⟩ := hC its hi
      have each := each_of rv m hp rd
      exact ⟨each.mono fun _ _ z => z.1, each.mono fun _ _ z => z.2⟩) (by rw [e1]; exact hal) (by rw [e1]; exact hk) hl2 (fun b hb => ?_) fun out h1 h' tk n hol heach k1 k2 hn => ?_
    · have : b.2 ∈ ps := by rw [← e1]; exact List.mem_map.mpr ⟨b, hb, rfl⟩
      have := SeqAt.depth_of_shaped (hsh _ this)
      omega
    · obtain ⟨ys, v1, m1⟩ := each_back heach
      have I1 : L2.Inv X pins σ H { s with heap := h1, toks := tk } := I.kept k1
      have hf := I1.hok.fresh (Nat.le_refl _)
      have t := Tp.new (o := .lst ys) hf
      have hys : ys.length ≤ sizeLine := by rw [v1.length, hol]; exact hl2
      refine ⟨.ref h1.objs.size, upd H h1.objs.size (.lst ys), I1.laid (t' := tk) k2 (Nat.le_refl _) ⟨hys, out, n, v1, hn⟩, rfl, ?_⟩
      exact kk _ _ _ _ (q _ (rf.free hf)) t (rf.laid hf ⟨ys, upd_same, m1.mono t⟩) rfl
  rcases hsrc with ⟨xs, rfl, rfl⟩ | ⟨a, rfl, h1⟩ | ⟨a, kvs, rfl, h1, rfl⟩
  · obtain ⟨v, rfl, p, ys, rfl, h2, m⟩ := im1 im
    obtain ⟨u, rfl, rx⟩ := vals1 r
    cases rx
    obtain ⟨its, rv, tp, hz⟩ := I.tuple h2.sq
    obtain ⟨as, rd⟩ := Dp.readsAll I ps ys its (m.dp hp) rv
    exact go p (fun vs => vs = its) rfl (fun _ e => by subst e; exact ⟨ys, as, rv, m, rd⟩) (by rw [m.length]; exact hz) fun R' E' k => collect_tup tp (by rw [← rv.length]; exact hz) fun h' tk => k its h' tk rfl
  · obtain ⟨v, rfl, rfl⟩ := im1 im
    obtain ⟨u, rfl, rx⟩ := vals1 r
    cases rx
    obtain ⟨ys, h2, m⟩ := h1.sq rf
    obtain ⟨its, rv, tp, hz⟩ := I.list h2
    obtain ⟨as, rd⟩ := Dp.readsAll I ps ys its (m.dp hp) rv
    refine go a (fun vs => vs = its) rfl (fun _ e => by subst e; exact ⟨ys, as, rv, m, rd⟩) (by rw [m.length]; exact hz) fun R' E' k => PyProof.Rows.collect_list tp.isList ?_ (by rw [← rv.length]; exact hz)
    refine k its _ s.toks rfl fun b ob q => ?_
    rw [Heap.get?_update_ne _ _ _ _ (Nat.ne_of_lt (Heap.lt_size q))]
    exact Heap.get?_push_of_some _ q
  · obtain ⟨v, rfl, rfl⟩ := im1 im
    obtain ⟨u, rfl, rx⟩ := vals1 r
    cases rx
    obtain ⟨ws, h2, m⟩ := rf a _ h1
    obtain ⟨z, lo, vs, rel, dd⟩ := dk_rd I.hok (.inl h2)
    obtain ⟨ep, hat⟩ := dd.dictAt
    have hkeys : vs.map (·.1) = ws.map (·.1) := rel.keys.symm
    have hmk : kvs.map (·.1) = ws.map (·.1) := by
      unfold KVm at m
      clear h1 h2 rel hat dd hkeys hp hsh hal hk q kk hlen z go
      induction m with
      | nil => rfl
      | cons h t ih => rw [List.map_cons, List.map_cons, h.1, ih]
    have hz : ws.length ≤ sizeLine := z
    have hlw : vs.length = ws.length := by
      have := congrArg List.length hkeys
      simpa using this
    have hlk : kvs.length = ws.length := by
      have := congrArg List.length hmk
      simpa using this
    refine go a (fun its => its.length = kvs.length ∧ ∀ (j : Nat) (v : Value), its[j]? = some v → ∃ k, (kvs.map (·.1))[j]? = some k ∧ keyIs k v = true) rfl (fun its hi => ?_) (by simpa [hlk] using hz) fun R' E' k =>
      PySem.W.kdu_collect (A := X.A.in1) (PySem.W.kdl_dict (knd := mixKind X.prog X.w) (kvs := vs) (ep := ep) lo) (I.ok.hd hc) hat (by rw [hlw]; exact hz) fun h' tk acc hk' hacc => k acc.toList h' tk ⟨by rw [Array.length_toList, hacc.1, hlw, hlk], fun j v e => ?_⟩ hk'
    · obtain ⟨hi1, hi2⟩ := hi
      have hx : ∃ xs, Vals xs its ∧ ImL X.K H (kvs.map fun kv => kD kv.1) xs := by
        have key : ∀ (ks : List Key) (its : List Value), its.length = ks.length → (∀ (j : Nat) (v : Value), its[j]? = some v → ∃ k, ks[j]? = some k ∧ keyIs k v = true) → ∃ xs, Vals xs its ∧ ImL X.K H (ks.map kD) xs := by
          intro ks
          induction ks with
          | nil =>
            intro its hl _
            cases its with
            | nil => exact ⟨[], .nil, rfl⟩
            | cons _ _ => simp at hl
          | cons k ks ih =>
            intro its hl hj
            cases its with
            | nil => simp at hl
            | cons u us =>
              obtain ⟨k', e1, e2⟩ := hj 0 u rfl
              cases (show k = k' from Option.some.inj e1)
              obtain ⟨x, r1, i1⟩ := key_im (K := X.K) (H := H) e2
              obtain ⟨xs, r2, i2⟩ := ih us (by simpa using hl) fun j v e => by
                obtain ⟨k2, q1, q2⟩ := hj (j + 1) v (by simpa using e)
                exact ⟨k2, by simpa using q1, q2⟩
              exact ⟨x :: xs, .cons r1 r2, ImL.cons i1 i2⟩
        obtain ⟨xs, r1, i1⟩ := key (kvs.map (·.1)) its (by simpa using hi1) hi2
        exact ⟨xs, r1, by rw [List.map_map] at i1; exact i1⟩
      obtain ⟨xs, rv, mm⟩ := hx
      obtain ⟨as, rd⟩ := Dp.readsAll I ps xs its (mm.dp hp) rv
      exact ⟨xs, as, rv, mm, rd⟩
    · obtain ⟨k2, x, e1, e2⟩ := hacc.2 j v (by rw [← Array.getElem?_toList]; exact e)
      refine ⟨k2, ?_, e2⟩
      rw [hmk, ← hkeys, List.getElem?_map, e1]
      rfl
theorem cd_sorted : CallD K (rSortedD K) fSorted := fun vs ds H W Qd Q r i h k => ⟨ds, W, Qd, i, r, h, k⟩
theorem d_sorted {e : Expr} {es : List Expr} {tr : TAD} {p pos : Pos} (hc : X.calm = true) (hu : X.A.units + 70 < cLine) (hm : X.mg "sorted" = none) (hv : bootBuiltins "sorted" = some (.builtin "sorted")) (ha : PA X (e :: es) (lowA X.K tr)) (hg : Gl X "sorted" := by rfl) (he : starEach (e :: es) X.env = (false, eval e X.env) :: starEach es X.env := by rfl) (hpl : (backTo pos (starEach es X.env)).any (·.1) = false := by rfl) :
    PE X (.Call (.Name "sorted" p) (e :: es) [] pos) (lowE X.K (dCB fSorted tr)) := d_callB (cr_sortedD hc hu) cd_sorted hm hv ha hg (by decide) (by decide) he hpl
/-- dict(t), t a tuple of pairs -/
def mergeD (kvs more : List (Key × D)) : List (Key × D) := more.foldl (fun acc kv => putD acc kv.1 kv.2) kvs
theorem KVm.merge {H : Hp} : ∀ {more : List (Key × D)} {rs : List (Key × V)} {kvs : List (Key × D)} {vs : List (Key × V)}, KVm K H more rs → KVm K H kvs vs → KVm K H (mergeD kvs more) (mergeK vs rs) := by
  intro more rs kvs vs r
  unfold KVm at r
  induction r generalizing kvs vs with
  | nil => intro q; exact q
  | @cons p q ps qs h t ih =>
    intro m
    unfold mergeD mergeK at ih ⊢
    rw [List.foldl_cons, List.foldl_cons]
    refine ih ?_
    rw [← h.1]
    exact m.put p.1 h.2
def fDictT : FC := fun vs W Q => ∃ kvs : List (Key × D), vs = [.tup (kvs.map fun kv => .tup [kD kv.1, kv.2])] ∧ ∀ p, W p = none → Q (.ref p) (wset W p (.dk (mergeD [] kvs)))
def rDictT (K : Frag) : List V → Hp → VK → Prop := fun vs H Q => ∃ ds W Qd, ImL K H ds vs ∧ Ref K H W ∧ fDictT ds W Qd ∧ Low K H Qd Q
theorem cr_dictT (hc : X.calm = true) : CallR X (.type "dict") (rDictT X.K) := by
  intro pins s σ H vs us Q I r h
  obtain ⟨args, W, Qd, im, rf, ⟨kvs, rfl, q⟩, kk⟩ := h
  obtain ⟨v, rfl, a, xs, rfl, h1, m⟩ := im1 im
  obtain ⟨u, rfl, rx⟩ := vals1 r
  cases rx
  -- the pairs as they stand
  have key : ∀ (kvs : List (Key × D)) (xs : List V), ImL X.K H (kvs.map fun kv => D.tup [kD kv.1, kv.2]) xs → ∃ (ps : List Addr) (ws : List (Key × V)), xs = ps.map V.ref ∧ KVm X.K H kvs ws ∧ Paired (fun p kv => SqT X.K H p [kV kv.1, kv.2]) ps ws := by
    intro kvs
    induction kvs with
    | nil => intro xs m; exact ⟨[], [], ImL.nil' m, Paired.nil, Paired.nil⟩
    | cons kv kvs ih =>
      intro xs m
      obtain ⟨v, vs, rfl, m1, m2⟩ := ImL.cons' m
      obtain ⟨b, ys, rfl, hb, m3⟩ := m1
      obtain ⟨x, y, rfl, i1, i2⟩ := im2 m3
      obtain ⟨ps, ws, e1, e2, e3⟩ := ih vs m2
      rw [im_kD i1] at hb
      exact ⟨b :: ps, (kv.1, y) :: ws, by rw [e1]; rfl, Paired.cons ⟨rfl, i2⟩ e2, Paired.cons hb.sq e3⟩
  obtain ⟨ps, ws, rfl, mk, hp⟩ := key kvs xs m
  obtain ⟨ob, h1, hob⟩ := h1
  obtain ⟨hg, hts, its, rv, o, ho, hc2, n, hd⟩ := I.hok a _ h1
  rw [hg] at ho
  cases ho
  have ei := refs_at rv
  subst ei
  obtain ⟨prs, rel, hl, hpr⟩ := pairs_of I hp
  have build : ∀ (prs : List (Key × Value)) (ps : List Addr), prs.length = ps.length → (∀ (j : Nat) (q' : Key × Value), prs[j]? = some q' → ∃ (b : Addr) (u : Value), ps[j]? = some b ∧ IsTup s.heap b #[u, q'.2] ∧ keyIs q'.1 u = true) →
      ∃ vps : List (Value × Value), vps.length = prs.length ∧ ∀ (j : Nat) (k v : Value), vps[j]? = some (k, v) → ∃ (kk : Key) (b : Addr), prs[j]? = some (kk, v) ∧ keyIs kk k = true ∧ ps[j]? = some b ∧ IsTup s.heap b #[k, v] := by
    intro prs
    induction prs with
    | nil => intro ps _ _; exact ⟨[], rfl, fun j k v e => by simp at e⟩
    | cons q prs ih =>
      intro ps hl hj
      cases ps with
      | nil => simp at hl
      | cons b ps =>
        obtain ⟨b', u, e1, e2, e3⟩ := hj 0 q rfl
        cases (show b = b' from Option.some.inj e1)
        obtain ⟨vps, l1, h2⟩ := ih ps (by simpa using hl) fun j q' e => by
          obtain ⟨b2, u2, z1, z2, z3⟩ := hj (j + 1) q' (by simpa using e)
          exact ⟨b2, u2, by simpa using z1, z2, z3⟩
        refine ⟨(u, q.2) :: vps, by simp [l1], fun j k v e => ?_⟩
        cases j with
        | zero =>
          cases (show (u, q.2) = (k, v) from Option.some.inj e)
          exact ⟨q.1, b, rfl, e3, rfl, e2⟩
        | succ j =>
          obtain ⟨kk, b2, z1, z2, z3, z4⟩ := h2 j k v (by simpa using e)
          exact ⟨kk, b2, by simpa using z1, z2, by simpa using z3, z4⟩
  obtain ⟨vps, hvl, hv⟩ := build prs ps hl hpr
  have hzp : ps.length ≤ sizeLine := by rw [List.length_map] at hts; exact hts
  have hmk : (s.heap.objs.size == sysModules) = false := beq_eq_false_iff_ne.mpr (Nat.ne_of_gt I.big)
  refine call_dict_pairs (knd := mixKind X.prog X.w) (kvs := prs) (PairArg.tuple a (ps.map Value.ref).toArray (fun j => ps.getD j 0) vps) (I.ok.hd hc) ⟨⟨ob, n, hg, hc2, hob, hd⟩, ?_, fun j k v e => ?_⟩ ⟨hvl.symm, fun i key v hr => ?_⟩ (by rw [hvl, hl]; exact hzp) fun h' tk hd' kp => ?_
  · simp [hvl, hl]
  · obtain ⟨kk, b, e1, e2, e3, e4⟩ := hv j k v e
    have eg : ps.getD j 0 = b := by rw [List.getD_eq_getElem?_getD, e3]; rfl
    refine ⟨by simp [List.getElem?_map, e3], ?_⟩
    show PairAt s.heap (ps.getD j 0) k v
    rw [eg]
    exact .inl e4
  · obtain ⟨kk, b, e1, e2, e3, e4⟩ := hv i key v hr
    exact ⟨kk, e1, e2⟩
  · have hf := I.hok.fresh (Nat.le_refl _)
    have hlen : (mergeK [] ws).length ≤ sizeLine := by
      refine Nat.le_trans (length_mergeK ws []) ?_
      rw [List.length_nil, Nat.zero_add, rel.length, hl]
      exact hzp
    have t := Tp.new (o := .dK (mergeK [] ws)) hf
    refine ⟨.ref s.heap.objs.size, upd H s.heap.objs.size (.dK (mergeK [] ws)), I.laid (t' := tk) (fun b o e => kp b o (by simp) e) (Nat.le_refl _) ⟨hlen, hmk, merged [] prs, KV.merge rel .nil, hd'⟩, rfl, ?_⟩
    exact kk _ _ _ _ (q _ (rf.free hf)) t (rf.laid hf ⟨_, upd_same, (KVm.merge mk Paired.nil).mono t⟩) rfl
theorem cd_dictT : CallD K (rDictT K) fDictT := fun vs ds H W Qd Q r i h k => ⟨ds, W, Qd, i, r, h, k⟩
theorem d_dictT {e : Expr} {es : List Expr} {tr : TAD} {p pos : Pos} (hc : X.calm = true) (hm : X.mg "dict" = none) (hv : bootBuiltins "dict" = some (.type "dict")) (ha : PA X (e :: es) (lowA X.K tr)) (hg : Gl X "dict" := by rfl) (he : starEach (e :: es) X.env = (false, eval e X.env) :: starEach es X.env := by rfl) (hpl : (backTo pos (starEach es X.env)).any (·.1) = false := by rfl) :
    PE X (.Call (.Name "dict" p) (e :: es) [] pos) (lowE X.K (dCB fDictT tr)) := d_callTy (cr_dictT hc) cd_dictT hm hv ha hg (by decide) (by decide) he hpl
end
end DL

/-! DL8: dicts whose keys are tuples, at any depth. -/
namespace DL
open PySem PySem.Spec L2 RZ
open PyProof.Rows hiding St

mutual
def nkey : D → Option NestedKey
  | .non => some .none
  | .bl b => some (.num (if b = true then 1 else 0))
  | .int i => some (.num i)
  | .str x => some (.text x)
  | .tup ds => (nkeyL ds).map .tup
  | .ref _ => none
  | .ty _ => none
def nkeyL : List D → Option (List NestedKey)
  | [] => some []
  | d :: ds => match nkey d, nkeyL ds with
    | some p, some ps => some (p :: ps)
    | _, _ => none
end
section
variable {P : Program} {w : World} {K : Frag} {H : Hp} {h : Heap}
mutual
theorem Im.nested (ok : HOk P w H h) : ∀ {d : D} {v : V} {u : Value} {k : NestedKey}, Im K H d v → L2.RelV v u → nkey d = some k → NestedIs h k u
  | .non, v, u, k, i, r, e => by
    cases (show v = .non from i); cases r; simp only [nkey] at e; cases e; exact .none
  | .bl b, v, u, k, i, r, e => by
    cases (show v = .bl b from i); cases r; simp only [nkey] at e; cases e; exact .bool rfl
  | .int b, v, u, k, i, r, e => by
    cases (show v = .int b from i); obtain ⟨t, rfl⟩ := r; simp only [nkey] at e; cases e; exact .int b t
  | .str b, v, u, k, i, r, e => by
    cases (show v = .str b from i); obtain ⟨t, rfl⟩ := r; simp only [nkey] at e; cases e; exact .text b t
  | .ref _, _, _, _, _, _, e => by simp only [nkey] at e; cases e
  | .ty _, _, _, _, _, _, e => by simp only [nkey] at e; cases e
  | .tup ds, v, u, k, i, r, e => by
    obtain ⟨a, xs, rfl, ⟨ob, h1, _⟩, m⟩ := i
    cases r
    simp only [nkey] at e
    cases q : nkeyL ds with
    | none => rw [q] at e; cases e
    | some ks =>
      rw [q] at e
      cases e
      obtain ⟨_, _, its, rv, o, ho, hc, n, hd⟩ := ok a _ h1
      exact .tup ho hc hd (ImL.nested ok m rv q)
theorem ImL.nested (ok : HOk P w H h) : ∀ {ds : List D} {vs : List V} {us : List Value} {ks : List NestedKey}, ImL K H ds vs → Vals vs us → nkeyL ds = some ks → NestedAll h ks us
  | [], vs, us, ks, i, r, e => by
    cases ImL.nil' i; cases r; simp only [nkeyL] at e; cases e; exact .nil
  | d :: ds, vs, us, ks, i, r, e => by
    obtain ⟨v, vs, rfl, m1, m2⟩ := ImL.cons' i
    cases r with
    | cons r1 r2 =>
      simp only [nkeyL] at e
      cases q1 : nkey d with
      | none => rw [q1] at e; cases e
      | some p =>
        cases q2 : nkeyL ds with
        | none => rw [q1, q2] at e; cases e
        | some qs =>
          rw [q1, q2] at e
          cases e
          exact .cons (Im.nested ok m1 r1 q1) (ImL.nested ok m2 r2 q2)
end
end
/-- a tuple that may be a key -/
def NKey (d : D) (k : NestedKey) : Prop := ∃ ds, d = .tup ds ∧ nkey d = some k ∧ k.depth ≤ 8
def valN (kvs : List (NestedKey × D × D)) (k : NestedKey) : Option D := (kvs.find? fun x => decide (x.1 = k)).map (·.2.2)
def putN (kvs : List (NestedKey × D × D)) (k : NestedKey) (e d : D) : List (NestedKey × D × D) := if (valN kvs k).isSome then kvs.map (fun x => if x.1 = k then (x.1, x.2.1, d) else x) else kvs ++ [(k, e, d)]
section
variable {X : Cx} {pins : List (Addr × Obj)} {σ : L2.St} {H : Hp} {s : Shared} {W : Wd} {a : Addr} {kvs : List (NestedKey × D × D)} {K : Frag}
theorem DnM.at {xs : List (NestedKey × Addr × Value)} (m : DnM K H kvs xs) (k : NestedKey) : (valN kvs k = none ∧ atKey xs k = none) ∨ ∃ d p v, valN kvs k = some d ∧ atKey xs k = some p ∧ L2.RelV v p.2 ∧ Im K H d v := by
  unfold DnM at m
  induction m with
  | nil => exact .inl ⟨rfl, rfl⟩
  | @cons p q ps qs h t ih =>
    obtain ⟨h1, h2, v, h3, h4⟩ := h
    by_cases e : p.1 = k
    · refine .inr ⟨p.2.2, q.2, v, ?_, ?_, h3, h4⟩
      · unfold valN; rw [List.find?_cons, decide_eq_true e]; rfl
      · unfold atKey; rw [List.find?_cons, decide_eq_true (by rw [← h1]; exact e)]; rfl
    · have e1 : valN (p :: ps) k = valN ps k := by unfold valN; rw [List.find?_cons, decide_eq_false e]
      have e2 : atKey (q :: qs) k = atKey qs k := by unfold atKey; rw [List.find?_cons, decide_eq_false (by rw [← h1]; exact e)]
      rw [e1, e2]
      exact ih
theorem DnM.put {xs : List (NestedKey × Addr × Value)} (m : DnM K H kvs xs) (k : NestedKey) {e d : D} {b : Addr} {u : Value} {v : V} (ie : Im K H e (.ref b)) (r : L2.RelV v u) (i : Im K H d v) : DnM K H (putN kvs k e d) (storedH xs k b u) := by
  have h := m.at k
  unfold putN storedH
  have hb : (valN kvs k).isSome = (atKey xs k).isSome := by
    rcases h with ⟨h1, h2⟩ | ⟨d', p, v', h1, h2, _⟩ <;> rw [h1, h2] <;> rfl
  rw [hb]
  split
  · unfold DnM at m ⊢
    clear h hb
    rename_i hs
    clear hs
    induction m with
    | nil => exact Paired.nil
    | @cons p q ps qs h t ih =>
      rw [List.map_cons, List.map_cons]
      refine Paired.cons ?_ ih
      unfold putAt
      by_cases e : p.1 = k
      · rw [if_pos e, if_pos (by rw [← h.1]; exact e)]
        exact ⟨h.1, h.2.1, v, r, i⟩
      · rw [if_neg e, if_neg (by rw [← h.1]; exact e)]
        exact h
  · unfold DnM at m ⊢
    clear h hb
    rename_i hs
    clear hs
    induction m with
    | nil => exact Paired.cons ⟨rfl, ie, v, r, i⟩ Paired.nil
    | cons h t ih => exact Paired.cons h ih
theorem DnM.len {xs : List (NestedKey × Addr × Value)} (m : DnM K H kvs xs) : kvs.length = xs.length := Paired.length m
/-- the keys are good -/
def GoodK (kvs : List (NestedKey × D × D)) : Prop := ∀ x ∈ kvs, NKey x.2.1 x.1
theorem GoodK.put (g : GoodK kvs) {k : NestedKey} {e d : D} (h : NKey e k) : GoodK (putN kvs k e d) := by
  intro x hx
  unfold putN at hx
  split at hx
  · obtain ⟨y, hy, rfl⟩ := List.mem_map.mp hx
    have := g y hy
    by_cases e : y.1 = k
    · rw [if_pos e]; exact this
    · rw [if_neg e]; exact this
  · rcases List.mem_append.mp hx with q | q
    · exact g x q
    · rw [List.mem_singleton.mp q]; exact h
theorem dn_of (I : L2.Inv X pins σ H s) (r : Ref X.K H W) (h : W a = some (.dn X.w kvs)) (g : GoodK kvs) : ∃ xs, H a = some (.ext (DnObj X.w a xs)) ∧ DnM X.K H kvs xs ∧ s.heap.DictOfH (nestedKind X.prog X.w) a xs ∧ (a == sysModules) = false ∧ xs.length ≤ sizeLine := by
  obtain ⟨xs, h1, m⟩ := r a _ h
  obtain ⟨⟨hz, hs, o, es, ep, ho, hx, hd, he, hn⟩, _, _⟩ := I.hok a _ h1
  refine ⟨xs, h1, m, ⟨o, es, ep, ho, hx, hd, he, fun x hx => ?_, hn⟩, hs, hz⟩
  have key : ∀ (kvs : List (NestedKey × D × D)) (xs : List (NestedKey × Addr × Value)), DnM X.K H kvs xs → GoodK kvs → ∀ x ∈ xs, (nestedKind X.prog X.w).is s.heap x.1 x.2.1 := by
    intro kvs xs m
    unfold DnM at m
    induction m with
    | nil => intro _ x hx; simp at hx
    | @cons p q ps qs h t ih =>
      intro g x hx
      rcases List.mem_cons.mp hx with rfl | hx
      · obtain ⟨ds, e1, e2, e3⟩ := g p (by simp)
        rw [← h.1]
        exact ⟨Im.nested I.hok h.2.1 rfl e2, e3⟩
      · exact ih (fun y hy => g y (by simp [hy])) x hx
  exact key kvs xs m g x hx
theorem key_of (I : L2.Inv X pins σ H s) {e : D} {y : V} {u : Value} {k : NestedKey} (n : NKey e k) (i : Im X.K H e y) (r : L2.RelV y u) : ∃ b, y = .ref b ∧ u = .ref b ∧ (nestedKind X.prog X.w).is s.heap k b := by
  obtain ⟨ds, rfl, h1, h2⟩ := n
  have hi := Im.nested I.hok i r h1
  obtain ⟨b, xs, rfl, _, _⟩ := i
  cases r
  exact ⟨b, rfl, rfl, hi, h2⟩
end

section
variable {X : Cx} {a b c e o i : Expr} {es : List Expr} {ta tb tc to td ty tv : TED} {tr : TAD} {pos : Pos} {K : Frag}
def GetN (w : World) (W : Wd) (a : Addr) (e : D) (o : Option D) : Prop := ∃ kvs k, W a = some (.dn w kvs) ∧ GoodK kvs ∧ NKey e k ∧ o = valN kvs k
def dNGet (w : World) (td ty : TED) : TED := fun ρ W Q => td ρ W fun x W1 => ty ρ W1 fun y W2 => ∃ a d, x = .ref a ∧ GetN w W2 a y (some d) ∧ Q d W2
theorem d_nget (hu : X.A.units + 20 < cLine) (ho : PE X o (lowE X.K td)) (hi : PE X i (lowE X.K ty)) (hs : NoSl i := by exact fun _ _ => rfl) : PE X (.Subscript o i pos) (lowE X.K (dNGet X.w td ty)) := by
  refine ⟨fun pins s σ H Q I h => ?_⟩
  obtain ⟨ρ, W, Qd, E, q, kk⟩ := h
  refine subD_of PySem.F.slot_dict_getitem.lookup hs (thn (ho.run pins s σ H (fun x H1 => ∃ d W1, Tp H H1 ∧ Ref X.K H1 W1 ∧ Im X.K H1 d x ∧ ty ρ W1 fun y W2 => ∃ a d', d = .ref a ∧ GetN X.w W2 a y (some d') ∧ Qd d' W2) I ⟨ρ, W, _, E, q, fun d W1 x H1 q1 t1 r1 i1 => ⟨d, W1, t1, r1, i1, q1⟩⟩) fun u s1 ⟨x, H1, I1, rx, d, W1, t1, r1, i1, q1⟩ => ?_)
  refine thn (hi.run pins s1 σ H1 (fun y H2 => ∃ e W2, Tp H1 H2 ∧ Ref X.K H2 W2 ∧ Im X.K H2 e y ∧ ∃ a d', d = .ref a ∧ GetN X.w W2 a e (some d') ∧ Qd d' W2) I1 ⟨ρ, W1, _, E.to t1 r1, q1, fun e W2 y H2 q2 t2 r2 i2 => ⟨e, W2, t2, r2, i2, q2⟩⟩) fun iv s2 ⟨y, H2, I2, ry, e, W2, t2, r2, i2, a, d', ed, ⟨kvs, k, h1, g, nk, hv⟩, q2⟩ => ?_
  subst ed
  cases (show x = .ref a from i1)
  cases rx
  obtain ⟨xs, h2, m, hm, hs2, hz⟩ := dn_of I2 r2 h1 g
  obtain ⟨b, rfl, rfl, hkey⟩ := key_of I2 nk i2 ry
  rcases m.at k with ⟨z, _⟩ | ⟨d2, p, v, z1, z2, rp, ip⟩
  · rw [z] at hv; cases hv
  · rw [z1] at hv
    cases hv
    refine ⟨hm.typeIs, wpAny_getItem_heap (knd := nestedKind X.prog X.w) (show X.A.in1.units + 8 < cLine by show X.A.units + 1 + 8 < cLine; omega) hkey hm z2 ⟨v, H2, I2.tok _, rp, kk _ W2 _ H2 q2 (t1.trans t2) r2 ip⟩⟩
def dNIn (w : World) (neg : Bool) (ty td : TED) : TED := fun ρ W Q => ty ρ W fun y W1 => td ρ W1 fun x W2 => ∃ a o, x = .ref a ∧ GetN w W2 a y o ∧ Q (.bl (if neg then !o.isSome else o.isSome)) W2
theorem pc_nin {neg : Bool} (hu : X.A.units + 20 < cLine) (hi : PE X i (lowE X.K ty)) (ho : PE X o (lowE X.K td)) : PC X (if neg then .NotIn else .In) i o (lowE X.K (dNIn X.w neg ty td)) := by
  refine ⟨fun pins s σ H Q I h => ?_⟩
  obtain ⟨ρ, W, Qd, E, q, kk⟩ := h
  refine thn (hi.run pins s σ H (fun y H1 => ∃ e W1, Tp H H1 ∧ Ref X.K H1 W1 ∧ Im X.K H1 e y ∧ td ρ W1 fun x W2 => ∃ a o, x = .ref a ∧ GetN X.w W2 a e o ∧ Qd (.bl (if neg then !o.isSome else o.isSome)) W2) I ⟨ρ, W, _, E, q, fun d W1 x H1 q1 t1 r1 i1 => ⟨d, W1, t1, r1, i1, q1⟩⟩) fun iv s1 ⟨y, H1, I1, ry, e, W1, t1, r1, i1, q1⟩ => ?_
  refine thn (ho.run pins s1 σ H1 (fun x H2 => ∃ d W2, Tp H1 H2 ∧ Ref X.K H2 W2 ∧ Im X.K H2 d x ∧ ∃ a o, d = .ref a ∧ GetN X.w W2 a e o ∧ Qd (.bl (if neg then !o.isSome else o.isSome)) W2) I1 ⟨ρ, W1, _, E.to t1 r1, q1, fun d W2 x H2 q2 t2 r2 i2 => ⟨d, W2, t2, r2, i2, q2⟩⟩) fun u s2 ⟨x, H2, I2, rx, d, W2, t2, r2, i2, a, od, ed, ⟨kvs, k, h1, g, nk, hv⟩, q2⟩ => ?_
  subst ed
  cases (show x = .ref a from i2)
  cases rx
  obtain ⟨xs, h2, m, hm, hs2, hz⟩ := dn_of I2 r2 h1 g
  obtain ⟨b, rfl, rfl, hkey⟩ := key_of I2 nk (i1.mono t2) ry
  have hb : od.isSome = (atKey xs k).isSome := by
    subst hv
    rcases m.at k with ⟨z1, z2⟩ | ⟨d2, p, v, z1, z2, _⟩ <;> rw [z1, z2] <;> rfl
  have hu' : (nestedKind X.prog X.w).room X.A.in1 := by show X.A.units + 1 + 8 < cLine; omega
  cases neg with
  | false => exact wpAny_in_heap (knd := nestedKind X.prog X.w) hu' hkey hs2 hm ⟨.bl _, H2, I2.tok _, rfl, kk (.bl _) W2 (.bl _) H2 (by rw [← hb]; exact q2) (t1.trans t2) r2 rfl⟩
  | true =>
    show wpAny (model X.prog X.w) X.A (do return Value.bool (!(← contains (.ref a) (.ref b)))) _ _ s2
    exact wpAny_bind (wpAny_contains_heap (knd := nestedKind X.prog X.w) hu' hkey hs2 hm (wpAny_pure ⟨.bl _, H2, I2.tok _, rfl, kk (.bl _) W2 (.bl _) H2 (by rw [← hb]; exact q2) (t1.trans t2) r2 rfl⟩))
theorem d_nin (hu : X.A.units + 20 < cLine) (hi : PE X i (lowE X.K ty)) (ho : PE X o (lowE X.K td)) (hm : behindInMarks .In o = false := by rfl) : PE X (.Compare i [.In] [o] pos) (lowE X.K (dNIn X.w false ty td)) := pe_cmp (pc_nin (neg := false) hu hi ho) hm
theorem d_nnotin (hu : X.A.units + 20 < cLine) (hi : PE X i (lowE X.K ty)) (ho : PE X o (lowE X.K td)) (hm : behindInMarks .NotIn o = false := by rfl) : PE X (.Compare i [.NotIn] [o] pos) (lowE X.K (dNIn X.w true ty td)) := pe_cmp (pc_nin (neg := true) hu hi ho) hm
theorem d_ninT (hu : X.A.units + 20 < cLine) (hi : PE X i (lowE X.K ty)) (ho : PE X o (lowE X.K td)) (hm : behindInMarks .In o = false := by rfl) : PT X (.Compare i [.In] [o] pos) (lowT X.K (dTest (dNIn X.w false ty td))) := (pt_cmp (pc_nin (neg := false) hu hi ho) hm).wk fun _ _ _ h => lowTest (fun _ _ _ q => q) h
theorem d_nnotinT (hu : X.A.units + 20 < cLine) (hi : PE X i (lowE X.K ty)) (ho : PE X o (lowE X.K td)) (hm : behindInMarks .NotIn o = false := by rfl) : PT X (.Compare i [.NotIn] [o] pos) (lowT X.K (dTest (dNIn X.w true ty td))) := (pt_cmp (pc_nin (neg := true) hu hi ho) hm).wk fun _ _ _ h => lowTest (fun _ _ _ q => q) h
/-- a new dict -/
def dNewN (w : World) : TED := fun _ W Q => ∀ p, W p = none → Q (.ref p) (wset W p (.dn w []))
theorem dn_stab {w : World} {a : Addr} {xs : List (NestedKey × Addr × Value)} : ∀ h1 h2 : Heap, DnObj w a xs h1 → (∀ o, h1.get? a = some o → h2.get? a = some o) → DnObj w a xs h2 := fun h1 h2 ⟨z, s, o, es, ep, ho, r⟩ k => ⟨z, s, o, es, ep, k o ho, r⟩
theorem d_newN : PE X (.Dict [] [] pos) (lowE X.K (dNewN X.w)) := ⟨fun pins s σ H Q I ⟨ρ, W, Qd, E, q, kk⟩ => by
  refine wpAny_Dict_empty ?_
  have hf := I.hok.fresh (Nat.le_refl _)
  have hs : (s.heap.objs.size == sysModules) = false := beq_eq_false_iff_ne.mpr (Ne.symm (Nat.ne_of_lt I.big))
  have hd : DnObj X.w s.heap.objs.size [] (s.heap.push { cls := .type "dict", data := .dict #[] }) := ⟨Nat.zero_le _, hs, _, #[], 0, Heap.get?_push_size _ rfl, ⟨rfl, rfl, rfl⟩, rfl, rfl, List.nodup_nil⟩
  refine ⟨.ref s.heap.objs.size, upd H s.heap.objs.size (.ext (DnObj X.w s.heap.objs.size [])), I.laid (t' := s.toks) (fun _ _ q => Heap.get?_push_of_some _ q) (Nat.le_refl _) ⟨hd, ⟨_, Heap.get?_push_size _ rfl⟩, dn_stab⟩, rfl, ?_⟩
  exact kk _ _ _ _ (q _ (E.rf.free hf)) (Tp.new hf) (E.rf.laid hf ⟨[], upd_same, Paired.nil⟩) rfl⟩
theorem tp_ext {H : Hp} {a : Addr} {φ : Heap → Prop} {u : HO} (h : H a = some (.ext φ)) : Tp H (upd H a u) := Tp.mut h fun _ _ z => nomatch z
/-- d[k] = v -/
def PutN (w : World) (W : Wd) (a : Addr) (e d : D) (W' : Wd) : Prop := ∃ kvs k, W a = some (.dn w kvs) ∧ GoodK kvs ∧ NKey e k ∧ kvs.length < sizeLine ∧ W' = wset W a (.dn w (putN kvs k e d))
def dNPut (w : World) (td ty tv : TED) : TSD := fun D ρ W => tv ρ W fun v W1 => td ρ W1 fun x W2 => ty ρ W2 fun y W3 => ∃ a W4, x = .ref a ∧ PutN w W3 a y v W4 ∧ D.nx ρ W4
theorem storedH_len (xs : List (NestedKey × Addr × Value)) (k : NestedKey) (b : Addr) (u : Value) : (storedH xs k b u).length ≤ xs.length + 1 := by
  unfold storedH
  split
  · rw [List.length_map]; omega
  · rw [List.length_append]; simp
theorem s_nput {value : Expr} {pos' : Pos} (hu : X.A.units + 20 < cLine) (ho : PE X o (lowE X.K td)) (hi : PE X i (lowE X.K ty)) (hv : PE X value (lowE X.K tv)) (hs : swapsWith value (some (.Subscript o i pos')) pos.line X.env = pure false := by rfl) :
    PS X (.Assign [.Subscript o i pos'] value pos) (lowS X.K (dNPut X.w td ty tv)) := by
  refine ⟨fun pins s σ H DD I h => ?_⟩
  obtain ⟨ρ, W, Qd, E, q, g1, g2, g3, g4⟩ := h
  refine wpAny_Assign_Subscript (thn (hv.run pins s σ H (fun v H1 => ∃ d W1, Tp H H1 ∧ Ref X.K H1 W1 ∧ Im X.K H1 d v ∧ td ρ W1 fun x W2 => ty ρ W2 fun y W3 => ∃ a W4, x = .ref a ∧ PutN X.w W3 a y d W4 ∧ Qd.nx ρ W4) I ⟨ρ, W, _, E, q, fun d W1 x H1 q1 t1 r1 i1 => ⟨d, W1, t1, r1, i1, q1⟩⟩) fun r s1 ⟨v, H1, I1, rv, vd, W1, t1, r1, i1, q1⟩ => ?_) hs
  refine thn (ho.run pins s1 σ H1 (fun x H2 => ∃ d W2, Tp H1 H2 ∧ Ref X.K H2 W2 ∧ Im X.K H2 d x ∧ ty ρ W2 fun y W3 => ∃ a W4, d = .ref a ∧ PutN X.w W3 a y vd W4 ∧ Qd.nx ρ W4) I1 ⟨ρ, W1, _, E.to t1 r1, q1, fun d W2 x H2 q2 t2 r2 i2 => ⟨d, W2, t2, r2, i2, q2⟩⟩) fun u s2 ⟨x, H2, I2, rx, xd, W2, t2, r2, i2, q2⟩ => ?_
  refine thn (hi.run pins s2 σ H2 (fun y H3 => ∃ e W3, Tp H2 H3 ∧ Ref X.K H3 W3 ∧ Im X.K H3 e y ∧ ∃ a W4, xd = .ref a ∧ PutN X.w W3 a e vd W4 ∧ Qd.nx ρ W4) I2 ⟨ρ, W2, _, E.to (t1.trans t2) r2, q2, fun d W3 x H3 q3 t3 r3 i3 => ⟨d, W3, t3, r3, i3, q3⟩⟩) fun iv s3 ⟨y, H3, I3, ry, ed, W3, t3, r3, i3, a, W4, e1, ⟨kvs, k, h1, g, nk, hz1, e2⟩, q3⟩ => ?_
  subst e1 e2
  cases (show x = .ref a from i2)
  cases rx
  obtain ⟨xs, h2, m, hm, hs2, hz⟩ := dn_of I3 r3 h1 g
  obtain ⟨b, rfl, rfl, hkey⟩ := key_of I3 nk i3 ry
  refine wpAny_setItem_heap (knd := nestedKind X.prog X.w) (hsz := hz) (show X.A.in1.units + 8 < cLine by show X.A.units + 1 + 8 < cLine; omega) hkey hm fun h' dd' hsb => ?_
  obtain ⟨ob, es, ep, hq, c2, c3, c4, _, c5⟩ := dd'
  have tp := tp_ext (u := .ext (DnObj X.w a (storedH xs k b r))) h2
  have hlen : (storedH xs k b r).length ≤ sizeLine := by
    have := storedH_len xs k b r
    have := m.len
    omega
  have I4 := d_write (t' := s3.toks + (nestedKind X.prog X.w).draws k) (ob := .ext (DnObj X.w a (storedH xs k b r))) I3 (by rw [h2]; exact True.intro) hsb ⟨ob, hq⟩ ⟨⟨hlen, hs2, ob, es, ep, hq, c2, c3, c4, c5⟩, ⟨ob, hq⟩, dn_stab⟩
  have T := ((t1.trans t2).trans t3).trans tp
  have R4 : Ref X.K (upd H3 a (.ext (DnObj X.w a (storedH xs k b r)))) (wset W3 a (.dn X.w (putN kvs k ed vd))) := r3.mut tp ⟨_, upd_same, (m.put k i3 rv (i1.mono (t2.trans t3))).mono tp⟩
  exact ⟨σ, _, I4, g1 _ _ _ _ q3 T (E.to T R4)⟩
/-- a tuple whose items are ints, texts, truths, .. is a key -/
theorem nkeyL_ints : ∀ ns : List Int, nkeyL (ns.map D.int) = some (ns.map NestedKey.num)
  | [] => by simp [nkeyL]
  | n :: ns => by simp [nkeyL, nkey, nkeyL_ints ns]
end
end DL

/-! DL9: built-ins' facts, short words. -/
namespace DL
open PySem PySem.Spec L2 RZ
open PyProof.Rows hiding St

theorem _root_.L2.Room.u {k : Nat} {A : Around} (hr : Room k A) (n : Nat) (h : n ≤ 200 := by decide) : A.units + n < cLine := by
  have := hr.un
  omega
/-- abs -/
def rAbs : List V → Hp → VK → Prop := fun xs H Q => ∃ n, xs = [.int n] ∧ Q (.int (if n < 0 then -n else n)) H
theorem cd_abs {K : Frag} : CallD K rAbs fAbs := fun vs ds H W Qd Q r i h k => by
  obtain ⟨n, rfl, q⟩ := h
  obtain ⟨v, rfl, rfl⟩ := im1 i
  exact ⟨n, rfl, k _ W _ H q (Tp.refl H) r rfl⟩
structure Bi (mg : Str → Option Value) : Prop where
  len : mg "len" = none
  isi : mg "isinstance" = none
  int : mg "int" = none
  bool : mg "bool" = none
  str : mg "str" = none
  tuple : mg "tuple" = none
  list : mg "list" = none
  dict : mg "dict" = none
  all : mg "all" = none
  sum : mg "sum" = none
  abs : mg "abs" = none
  sorted : mg "sorted" = none
  range : mg "range" = none
  zip : mg "zip" = none
/-- no promise at all: where a call is never reached -/
theorem Fn.never {P : Program} {w : World} {K : Frag} {mg : Str → Option Value} {base : Heap} {x qual : Str} {st : Stmt} {f : Addr} {fd : FuncData} {ps : List Str} (F : Fun K x qual st f fd) (g : mg x = some (.ref f)) (b : Binds K fd ps []) : Fn P w K mg base 0 x (fun _ _ _ => False) :=
  ⟨f, fd, ps, ⟨fun _ _ _ _ ⟨_, _, _, _, _, h, _⟩ => h.elim, fun _ _ _ _ _ _ _ _ _ _ _ _ _ ⟨_, _, _, _, _, h, _⟩ => h.elim⟩, g, F.kp, b⟩
end DL

/-! DL10: loops and comprehensions by induction; steps. -/
namespace DL
open PySem PySem.Spec L2 RZ
open PyProof.Rows hiding St

theorem loop_ind {g : TGD} {tb : TSD} {n b c : DSt → Wd → Prop} {r : DQ} {stay : Wd → Prop} (P : List D → DSt → Wd → Prop) (h0 : ∀ ρ W, P [] ρ W → stay W ∧ n ρ W)
    (h1 : ∀ x xs (N : DSt → Wd → Prop), (∀ ρ W, P xs ρ W → N ρ W) → ∀ ρ W, P (x :: xs) ρ W → stay W ∧ g x ρ W fun ρ2 W2 => tb ⟨N, r, n, N⟩ ρ2 W2) :
    ∀ xs ρ W, P xs ρ W → loopD g tb ⟨n, r, b, c⟩ stay xs ρ W
  | [], ρ, W, h => h0 ρ W h
  | x :: xs, ρ, W, h => h1 x xs (loopD g tb ⟨n, r, b, c⟩ stay xs) (fun ρ W p => loop_ind P h0 h1 xs ρ W p) ρ W h
theorem comp_ind {g : TGD} {tt : TTD} {te : TED} {ρ0 : DSt} {L : Addr} {Q : Wd → Prop} {stay : Wd → Prop} (P : List D → List D → Wd → Prop) (h0 : ∀ acc W, P [] acc W → stay W ∧ Q W)
    (h1 : ∀ x xs acc (N : List D → Wd → Prop), (∀ acc W, P xs acc W → N acc W) → ∀ W, P (x :: xs) acc W → stay W ∧ g x ρ0 W fun ρ2 W2 => tt ρ2 W2 fun b W3 =>
      if b = true then te ρ2 W3 fun y W4 => W4 L = some (.lst acc) ∧ acc.length < sizeLine ∧ N (acc ++ [y]) (wset W4 L (.lst (acc ++ [y]))) else N acc W3) :
    ∀ xs acc W, P xs acc W → compD g tt te ρ0 L Q stay xs acc W
  | [], acc, W, h => h0 acc W h
  | x :: xs, acc, W, h => h1 x xs acc (compD g tt te ρ0 L Q stay xs) (fun acc W p => comp_ind P h0 h1 xs acc W p) W h
/-- a comprehension whose element leaves W as it is -/
theorem comp_map {g : TGD} {te : TED} {ρ0 : DSt} {L : Addr} {Q : Wd → Prop} {stay : Wd → Prop} {W : Wd} {items : List D} (f : D → D) (hL : W L = none) (hz : items.length ≤ sizeLine) (hst : ∀ acc, stay (wset W L (.lst acc)))
    (hx : ∀ x, x ∈ items → ∀ W', Sub W W' → ∀ Q' : DQ, Q' (f x) W' → g x ρ0 W' fun ρ2 W2 => te ρ2 W2 Q') (q : Q (wset W L (.lst (items.map f)))) : compD g dYes te ρ0 L Q stay items [] (wset W L (.lst [])) := by
  refine comp_ind (fun rest acc W' => W' = wset W L (.lst acc) ∧ ∃ done, items = done ++ rest ∧ acc = done.map f) (fun acc W' h => ?_) (fun x xs acc N hN W' h => ?_) items [] _ ⟨rfl, [], rfl, rfl⟩
  · obtain ⟨rfl, done, e, rfl⟩ := h
    rw [List.append_nil] at e
    subst e
    exact ⟨hst _, q⟩
  · obtain ⟨rfl, done, e, rfl⟩ := h
    refine ⟨hst _, hx x (by rw [e]; simp) _ (Sub.new hL) _ ?_⟩
    refine ⟨wset_same, ?_, hN _ _ ⟨by rw [wset_wset], done ++ [x], by rw [e]; simp, by simp⟩⟩
    rw [List.length_map]
    have : items.length = done.length + (xs.length + 1) := by rw [e]; simp
    omega
theorem comp_filter {g : TGD} {tt : TTD} {te : TED} {ρ0 : DSt} {L : Addr} {Q : Wd → Prop} {stay : Wd → Prop} {W : Wd} {items : List D} (p : D → Bool) (f : D → D) (hL : W L = none) (hz : items.length ≤ sizeLine) (hst : ∀ acc, stay (wset W L (.lst acc)))
    (hx : ∀ x, x ∈ items → ∀ W', Sub W W' → ∀ (Q1 : DQ) (Q2 : Wd → Prop), (p x = true → Q1 (f x) W') → (p x = false → Q2 W') → g x ρ0 W' fun ρ2 W2 => tt ρ2 W2 fun b W3 => if b = true then te ρ2 W3 Q1 else Q2 W3)
    (q : Q (wset W L (.lst ((items.filter p).map f)))) : compD g tt te ρ0 L Q stay items [] (wset W L (.lst [])) := by
  refine comp_ind (fun rest acc W' => W' = wset W L (.lst acc) ∧ ∃ done, items = done ++ rest ∧ acc = (done.filter p).map f) (fun acc W' h => ?_) (fun x xs acc N hN W' h => ?_) items [] _ ⟨rfl, [], rfl, rfl⟩
  · obtain ⟨rfl, done, e, rfl⟩ := h
    rw [List.append_nil] at e
    subst e
    exact ⟨hst _, q⟩
  · obtain ⟨rfl, done, e, rfl⟩ := h
    have hl : ((done.filter p).map f).length < sizeLine := by
      rw [List.length_map]
      have h1 : items.length = done.length + (xs.length + 1) := by rw [e]; simp
      have h2 := List.length_filter_le p done
      omega
    refine ⟨hst _, hx x (by rw [e]; simp) _ (Sub.new hL) _ _ (fun hp => ?_) (fun hp => ?_)⟩
    · exact ⟨wset_same, hl, hN _ _ ⟨by rw [wset_wset], done ++ [x], by rw [e]; simp, by simp [hp]⟩⟩
    · exact hN _ _ ⟨rfl, done ++ [x], by rw [e]; simp, by simp [hp]⟩

/-- a comprehension whose element may change what it did not find -/
theorem comp_inv {g : TGD} {te : TED} {ρ0 : DSt} {L : Addr} {Q : Wd → Prop} {stay : Wd → Prop} {W : Wd} {items : List D} (I : Wd → Prop) (E : D → D → Prop) (hL : W L = none) (hz : items.length ≤ sizeLine)
    (hI : ∀ W' acc, I W' → I (wset W' L (.lst acc))) (hst : ∀ W', I W' → stay W') (h0 : I W)
    (hx : ∀ x, x ∈ items → ∀ W' acc, I W' → W' L = some (.lst acc) → ∀ Q' : DQ, (∀ y W'', E x y → I W'' → W'' L = some (.lst acc) → Q' y W'') → g x ρ0 W' fun ρ2 W2 => te ρ2 W2 Q')
    (q : ∀ ys W', I W' → W' L = some (.lst ys) → ys.length = items.length → (∀ (i : Nat) x y, items[i]? = some x → ys[i]? = some y → E x y) → Q W') : compD g dYes te ρ0 L Q stay items [] (wset W L (.lst [])) := by
  refine comp_ind (fun rest acc W' => I W' ∧ W' L = some (.lst acc) ∧ ∃ done, items = done ++ rest ∧ acc.length = done.length ∧ ∀ (i : Nat) x y, done[i]? = some x → acc[i]? = some y → E x y) (fun acc W' h => ?_) (fun x xs acc N hN W' h => ?_) items [] _
    ⟨hI _ _ h0, wset_same, [], rfl, rfl, fun i x y e => by simp at e⟩
  · obtain ⟨i, l, done, e, hl, h⟩ := h
    rw [List.append_nil] at e
    subst e
    exact ⟨hst _ i, q acc W' i l hl h⟩
  · obtain ⟨i, l, done, e, hl, h⟩ := h
    refine ⟨hst _ i, hx x (by rw [e]; simp) W' acc i l _ fun y W'' ey iy ly => ?_⟩
    have h1 : items.length = done.length + (xs.length + 1) := by rw [e]; simp
    refine ⟨ly, by omega, hN _ _ ⟨hI _ _ iy, wset_same, done ++ [x], by rw [e]; simp, by simp [hl], fun j a b e1 e2 => ?_⟩⟩
    by_cases hj : j < done.length
    · rw [List.getElem?_append_left hj] at e1
      rw [List.getElem?_append_left (by omega)] at e2
      exact h j a b e1 e2
    · have hj2 : j = done.length := by
        have := (List.getElem?_eq_some_iff.mp e1).1
        simp at this
        omega
      subst hj2
      rw [List.getElem?_append_right (Nat.le_refl _)] at e1
      rw [← hl, List.getElem?_append_right (Nat.le_refl _)] at e2
      simp at e1 e2
      subst e1 e2
      exact ey
/-- the same, the value told -/
theorem comp_mapX {g : TGD} {te : TED} {ρ0 : DSt} {L : Addr} {Q : Wd → Prop} {stay : Wd → Prop} {W : Wd} {items : List D} (f : D → D) (hL : W L = none) (hz : items.length ≤ sizeLine) (hst : ∀ W', Sub W W' → stay W')
    (hx : ∀ x, x ∈ items → ∀ W', Sub W W' → ∀ Q' : DQ, (∀ W'', Sub W' W'' → Q' (f x) W'') → g x ρ0 W' fun ρ2 W2 => te ρ2 W2 Q')
    (q : ∀ W', Sub (wset W L (.lst (items.map f))) W' → Q W') : compD g dYes te ρ0 L Q stay items [] (wset W L (.lst [])) := by
  refine comp_inv (fun W' => Sub W W') (fun x y => y = f x) hL hz (fun W' acc s => Sub.set hL s) hst (Sub.refl _) (fun x hm W' acc s l Q' q' => hx x hm W' s Q' fun W'' s' => q' _ _ rfl (s.trans s') (s' _ _ l)) fun ys W' s l hl h => ?_
  have e : ys = items.map f := by
    refine List.ext_getElem (by rw [List.length_map, hl]) fun i h1 h2 => ?_
    rw [List.getElem_map]
    exact h i _ _ (List.getElem?_eq_getElem _) (List.getElem?_eq_getElem _)
  subst e
  refine q W' fun b m e => ?_
  by_cases hb : b = L
  · subst hb
    rw [wset_same] at e
    cases e
    exact l
  · rw [wset_ne hb] at e
    exact s b m e
def OptD {α : Type} (o : Option α) (k : α → Prop) : Prop := ∃ z, o = some z ∧ k z
theorem OptD.mk {α : Type} {o : Option α} {k : α → Prop} {z : α} (e : o = some z) (h : k z) : OptD o k := ⟨z, e, h⟩
theorem atI_ge {ds : List D} {i : Int} (h0 : 0 ≤ i) : atI ds i = ds[i.toNat]? := by
  unfold atI ixN
  rw [if_pos h0]
  by_cases h : i < (ds.length : Int)
  · rw [if_pos h]; rfl
  · rw [if_neg h, List.getElem?_eq_none (by omega)]; rfl
theorem atI_n {ds : List D} {i : Nat} : atI ds (i : Int) = ds[i]? := by rw [atI_ge (by omega)]; rfl
theorem OptD.at {ds : List D} {i : Int} {k : D → Prop} (h0 : 0 ≤ i) (h1 : i < ds.length) (q : ∀ (j : Nat) (hj : j < ds.length), i = j → k ds[j]) : OptD (atI ds i) k :=
  ⟨ds[i.toNat]'(by omega), by rw [atI_ge h0, List.getElem?_eq_getElem], q _ _ (by omega)⟩
theorem OptD.ints {ns : List Int} {i : Int} {k : D → Prop} (h0 : 0 ≤ i) (h1 : i < (ns.map D.int).length) (q : ∀ n, n ∈ ns → k (.int n)) : OptD (atI (ns.map D.int) i) k :=
  OptD.at h0 h1 fun j hj _ => by rw [List.getElem_map]; exact q _ (List.getElem_mem _)
theorem cut_to {ds : List D} {h : Nat} : cutD ds none (some (h : Int)) = ds.take h := by
  unfold cutD
  rw [HT.sIx_nat, HT.sIx_none, List.drop_zero, Nat.sub_zero]
  by_cases q : h ≤ ds.length
  · rw [Nat.min_eq_left q]
  · rw [Nat.min_eq_right (by omega), List.take_of_length_le (Nat.le_refl _), List.take_of_length_le (by omega)]
theorem cut_from {ds : List D} {h : Nat} : cutD ds (some (h : Int)) none = ds.drop h := by
  unfold cutD
  rw [HT.sIx_nat, HT.sIx_none]
  by_cases q : h ≤ ds.length
  · rw [Nat.min_eq_left q, List.take_of_length_le (by rw [List.length_drop]; omega)]
  · rw [Nat.min_eq_right (by omega), List.drop_of_length_le (Nat.le_refl _), List.drop_of_length_le (by omega), List.take_nil]
/-! ### steps: one lemma a reading, the head alone -/
section
variable {t u tb : TSD} {DD : EndsD} {ρ : DSt} {W : Wd} {Q : DQ} {QA : List D → Wd → Prop} {QB : Bool → Wd → Prop} {QS : DSt → Wd → Prop} {QO : Option Int → Wd → Prop} {f f' : F2} {ta tc te to ti td ty tv : TED} {tt tt' : TTD} {tr : TAD} {tl th : TOD} {g : TGD} {gs : TGsD}
theorem E_start {R : DQ} (h : t ⟨fun _ W' => EndR R .non W', EndR R, fun _ _ => False, fun _ _ => False⟩ ρ W) : t (endsOf R) ρ W := h
theorem E_end {R : DQ} {d : D} (h : R d W) : EndR R d W := ⟨W, Sub.refl _, h⟩
variable {n b c : DSt → Wd → Prop} {r : DQ}
theorem E_seq (h : t ⟨u ⟨n, r, b, c⟩, r, b, c⟩ ρ W) : dSeq t u ⟨n, r, b, c⟩ ρ W := h
theorem E_join (P : DSt → Wd → Prop) (h1 : ∀ ρ W, P ρ W → n ρ W) (h2 : ∀ N, (∀ ρ W, P ρ W → N ρ W) → t ⟨N, r, b, c⟩ ρ W) : t ⟨n, r, b, c⟩ ρ W := h2 n h1
theorem E_ifS (h : tt ρ W fun b W1 => if b = true then t DD ρ W1 else u DD ρ W1) : dIfS tt t u DD ρ W := h
theorem E_ret (h : te ρ W r) : dRet te ⟨n, r, b, c⟩ ρ W := h
theorem E_retN (h : r .non W) : dRetN ⟨n, r, b, c⟩ ρ W := h
theorem E_asg (h : te ρ W fun d W1 => g d ρ W1 n) : dAsg te g ⟨n, r, b, c⟩ ρ W := h
theorem E_drop (h : te ρ W fun _ W1 => n ρ W1) : dDrop te ⟨n, r, b, c⟩ ρ W := h
theorem E_next (h : n ρ W) : dNext ⟨n, r, b, c⟩ ρ W := h
theorem E_cont (h : c ρ W) : dCont ⟨n, r, b, c⟩ ρ W := h
theorem E_break (h : b ρ W) : dBreak ⟨n, r, b, c⟩ ρ W := h
theorem E_not (h : tt ρ W fun c W1 => QB (!c) W1) : dNot tt ρ W QB := h
theorem E_truth (h : te ρ W fun d W1 => ∃ b, truD d W1 b ∧ QB b W1) : dTruth te ρ W QB := h
theorem E_and (h : tt ρ W fun c W1 => if c = true then tt' ρ W1 QB else QB false W1) : dAnd tt tt' ρ W QB := h
theorem E_or (h : tt ρ W fun c W1 => if c = true then QB true W1 else tt' ρ W1 QB) : dOr tt tt' ρ W QB := h
theorem E_test (h : te ρ W fun d W1 => ∃ b, d = .bl b ∧ QB b W1) : dTest te ρ W QB := h
theorem E_yes (h : QB true W) : dYes ρ W QB := h
theorem E_andV (h : ta ρ W fun d W1 => ∃ c, d = .bl c ∧ if c = true then te ρ W1 Q else Q (.bl false) W1) : dAndV ta te ρ W Q := h
theorem E_orV (h : ta ρ W fun d W1 => ∃ c, d = .bl c ∧ if c = true then Q (.bl true) W1 else te ρ W1 Q) : dOrV ta te ρ W Q := h
theorem E_notV (h : ta ρ W fun d W1 => ∃ c, d = .bl c ∧ Q (.bl (!c)) W1) : dNotV ta ρ W Q := h
theorem E_if (h : tt ρ W fun c W1 => if c = true then ta ρ W1 Q else te ρ W1 Q) : dIf tt ta te ρ W Q := h
theorem E_op (h : ta ρ W fun d W1 => te ρ W1 fun e W2 => f d e W2 Q) : dOp f ta te ρ W Q := h
theorem E_un {f : F1} (h : ta ρ W fun d W1 => f d W1 Q) : dUn f ta ρ W Q := h
theorem E_chain (h : ta ρ W fun x W1 => te ρ W1 fun y W2 => f x y W2 fun z W3 => ∃ k, z = .bl k ∧ (if k = true then tc ρ W3 fun w W4 => f' y w W4 Q else Q (.bl false) W3)) : dChain f f' ta te tc ρ W Q := h
theorem E_var {i : Nat} {d : D} (h : ρ[i]? = some (some d)) (q : Q d W) : dVar i ρ W Q := ⟨d, h, q⟩
theorem E_c {d : D} (q : Q d W) : dC d ρ W Q := q
theorem E_cb {fc : FC} (h : tr ρ W fun ds W1 => fc ds W1 Q) : dCB fc tr ρ W Q := h
theorem E_call {sp : SpD} (h : tr ρ W fun ds W1 => sp ds W1 Q) : dCall sp tr ρ W Q := h
theorem E_cons (h : ta ρ W fun d W1 => tr ρ W1 fun ds W2 => QA (d :: ds) W2) : dCons ta tr ρ W QA := h
theorem E_nil (h : QA [] W) : dNil ρ W QA := h
theorem E_tup (h : tr ρ W fun ds W1 => ds.length ≤ sizeLine ∧ Q (.tup ds) W1) : dTup tr ρ W Q := h
theorem E_lst (h : tr ρ W fun ds W1 => ds.length ≤ sizeLine ∧ ∀ p, W1 p = none → Q (.ref p) (wset W1 p (.lst ds))) : dLst tr ρ W Q := h
theorem E_sl (h : te ρ W fun d W1 => tl ρ W1 fun lo W2 => th ρ W2 fun hi W3 => fSl d lo hi W3 Q) : dSl te tl th ρ W Q := h
theorem E_part (h : te ρ W fun d W1 => ∃ i, d = .int i ∧ QO (some i) W1) : dPart te ρ W QO := h
theorem E_no (h : QO none W) : dNo ρ W QO := h
theorem E_ml {fm : FM} (h : to ρ W fun d W1 => ∃ a, d = .ref a ∧ (∃ ds, W1 a = some (.lst ds)) ∧ tr ρ W1 fun ds W2 => fm a ds W2 Q) : dML fm to tr ρ W Q := h
theorem E_bits (h : to ρ W fun d W1 => ∃ n, d = .int n ∧ Q (.int (Builtin.Int.intBits n : Nat)) W1) : dBits to ρ W Q := h
theorem E_rev (h : te ρ W fun d W1 => ∃ ds, d = .tup ds ∧ Q (.tup ds.reverse) W1) : dRev te ρ W Q := h
theorem E_gN {i : Nat} {d : D} (h : QS (ρ.set i (some d)) W) : gN i d ρ W QS := h
theorem E_gT {n : Nat} {ds : List D} (hl : ds.length = n) (h : gs ds ρ W QS) : gT n gs (.tup ds) ρ W QS := ⟨ds, rfl, hl, h⟩
theorem E_gsC {d : D} {r : List D} (h : g d ρ W fun ρ' W' => gs r ρ' W' QS) : gsC g gs (d :: r) ρ W QS := ⟨d, r, rfl, h⟩
theorem E_gsN (h : QS ρ W) : gsN [] ρ W QS := ⟨rfl, h⟩
theorem E_gIx {d : D} (h : to ρ W fun o W1 => ti ρ W1 fun i W2 => ∃ a n j ds, o = .ref a ∧ i = .int n ∧ W2 a = some (.lst ds) ∧ ixN ds.length n = some j ∧ QS ρ (wset W2 a (.lst (ds.set j d)))) : gIx to ti d ρ W QS := h
theorem E_for {it : TID} (h : it ρ W fun items stay W1 => loopD g tb ⟨n, r, b, c⟩ stay items ρ W1) : dFor it g tb ⟨n, r, b, c⟩ ρ W := h
theorem E_lc {it : TID} {vs : List Nat} (h : it ρ W fun items stay W1 => ∀ L, W1 L = none → compD g tt te (wipeD ρ vs) L (Q (.ref L)) stay items [] (wset W1 L (.lst []))) : dLc it g tt te vs ρ W Q := h
theorem E_dget (h : td ρ W fun x W1 => ty ρ W1 fun y W2 => ∃ a d, x = .ref a ∧ GetD W2 a y (some d) ∧ Q d W2) : dDGet td ty ρ W Q := h
theorem E_din {neg : Bool} (h : ty ρ W fun y W1 => td ρ W1 fun x W2 => ∃ a o, x = .ref a ∧ GetD W2 a y o ∧ Q (.bl (if neg then !o.isSome else o.isSome)) W2) : dDIn neg ty td ρ W Q := h
theorem E_newK (h : ∀ p, W p = none → Q (.ref p) (wset W p (.dk []))) : dNewK ρ W Q := h
theorem E_dput (h : tv ρ W fun v W1 => td ρ W1 fun x W2 => ty ρ W2 fun y W3 => ∃ a W4, x = .ref a ∧ PutD W3 a y v W4 ∧ n ρ W4) : dDPut td ty tv ⟨n, r, b, c⟩ ρ W := h
theorem E_dpop (h : td ρ W fun x W1 => ∃ a, x = .ref a ∧ (∃ us, W1 a = some (.dk us)) ∧ ty ρ W1 fun y W2 => ∃ kvs k d, W2 a = some (.dk kvs) ∧ y = kD k ∧ valD kvs k = some d ∧ Q d (wset W2 a (.dk (dropD kvs k)))) : dDPop td ty ρ W Q := h
theorem E_nget {w : World} (h : td ρ W fun x W1 => ty ρ W1 fun y W2 => ∃ a d, x = .ref a ∧ GetN w W2 a y (some d) ∧ Q d W2) : dNGet w td ty ρ W Q := h
theorem E_nin {w : World} {neg : Bool} (h : ty ρ W fun y W1 => td ρ W1 fun x W2 => ∃ a o, x = .ref a ∧ GetN w W2 a y o ∧ Q (.bl (if neg then !o.isSome else o.isSome)) W2) : dNIn w neg ty td ρ W Q := h
theorem E_nput {w : World} (h : tv ρ W fun v W1 => td ρ W1 fun x W2 => ty ρ W2 fun y W3 => ∃ a W4, x = .ref a ∧ PutN w W3 a y v W4 ∧ n ρ W4) : dNPut w td ty tv ⟨n, r, b, c⟩ ρ W := h
theorem E_newN {w : World} (h : ∀ p, W p = none → Q (.ref p) (wset W p (.dn w []))) : dNewN w ρ W Q := h
theorem E_aug {i : Nat} {d : D} (hd : ρ[i]? = some (some d)) (h : te ρ W fun e W1 => f d e W1 fun z W2 => n (ρ.set i (some z)) W2) : dAug i te f ⟨n, r, b, c⟩ ρ W := ⟨d, hd, h⟩
theorem E_augIx (h : to ρ W fun o W1 => ti ρ W1 fun i W2 => ∃ (a : Addr) (j : Nat) (ds : List D) (d : D), o = .ref a ∧ i = .int (j : Int) ∧ W2 a = some (.lst ds) ∧ ds[j]? = some d ∧
  te ρ W2 fun e W3 => f d e W3 fun z W4 => ∃ ds', W4 a = some (.lst ds') ∧ j < ds'.length ∧ n ρ (wset W4 a (.lst (ds'.set j z)))) : dAugIx f to ti te ⟨n, r, b, c⟩ ρ W := h
theorem E_iSeq {S : List D → (Wd → Prop) → Wd → Prop} (h : te ρ W fun d W1 => match d with
  | .tup ds => S ds (fun _ => True) W1
  | .ref a => ∃ ds, LstAt W1 a ds ∧ S ds (fun W => LstAt W a ds) W1
  | _ => False) : iSeq te ρ W S := h
theorem E_iRg1 {S : List D → (Wd → Prop) → Wd → Prop} (h : tr ρ W fun ds W1 => ∃ j : Int, ds = [.int j] ∧ -(2 ^ 62) ≤ j ∧ j < 2 ^ 62 ∧ S (rngD 0 j.toNat) (fun _ => True) W1) : iRg1 tr ρ W S := h
theorem E_iZipT {S : List D → (Wd → Prop) → Wd → Prop} (h : tr ρ W fun vs W1 => ∃ ds es, vs = [.tup ds, .tup es] ∧ S (zipD ds es) (fun _ => True) W1) : iZipT tr ρ W S := h
/-- values -/
theorem E_I0 {g : Int → Int → D} {i j : Int} (h : Q (g i j) W) : fI0 g (.int i) (.int j) W Q := ⟨i, j, rfl, rfl, h⟩
theorem E_I {C : Int → Int → Prop} {g : Int → Int → D} {i j : Int} (hc : C i j) (h : Q (g i j) W) : fI C g (.int i) (.int j) W Q := ⟨i, j, rfl, rfl, hc, h⟩
theorem E_bl {b : Bool} {R : Bool → Prop} (h : R b) : ∃ b', D.bl b = D.bl b' ∧ R b' := ⟨b, rfl, h⟩
theorem E_tbl {b : Bool} {R : Bool → Prop} (h : R b) : ∃ b', truD (.bl b) W b' ∧ R b' := ⟨b, rfl, h⟩
theorem E_int {i : Int} {R : Int → Prop} (h : R i) : ∃ i', D.int i = D.int i' ∧ R i' := ⟨i, rfl, h⟩
theorem E_ref {a : Addr} {R : Addr → Prop} (h : R a) : ∃ a', D.ref a = D.ref a' ∧ R a' := ⟨a, rfl, h⟩
theorem E_ixT {ds : List D} {i : Int} (h : OptD (atI ds i) fun z => Q z W) : fIx (.tup ds) (.int i) W Q := by
  obtain ⟨z, e, q⟩ := h
  exact ⟨z, e, q⟩
theorem E_ixL {a : Addr} {ds : List D} {i : Int} (ha : W a = some (.lst ds)) (h : OptD (atI ds i) fun z => Q z W) : fIx (.ref a) (.int i) W Q := by
  obtain ⟨z, e, q⟩ := h
  exact ⟨ds, z, .inl ha, e, q⟩
theorem E_dec {p : Prop} [Decidable p] {A B : Prop} (h1 : p → A) (h2 : ¬p → B) : if decide p = true then A else B := by
  by_cases h : p
  · rw [if_pos (decide_eq_true h)]; exact h1 h
  · rw [if_neg (fun e => h (of_decide_eq_true e))]; exact h2 h
theorem E_le {n m : Nat} {B : Prop} (h : Nat.ble n m = true) (q : B) : n ≤ m ∧ B := ⟨Nat.le_of_ble_eq_true h, q⟩
theorem E_iteT {A B : Prop} (h : A) : if true = true then A else B := h
theorem E_iteF {A B : Prop} (h : B) : if false = true then A else B := h
theorem E_ite {b : Bool} {A B : Prop} (h1 : b = true → A) (h2 : b = false → B) : if b = true then A else B := by
  cases b
  · exact h2 rfl
  · exact h1 rfl
theorem pow_posI (k : Int) : (0 : Int) < 1 * 2 ^ k.toNat := by
  rw [Int.one_mul]
  exact Int.pow_pos (by decide)
theorem wne {W : Wd} {p a : Addr} {m : MO} (h : W p = none) (k : W a = some m) : a ≠ p := fun e => by rw [e, h] at k; cases k
theorem E_lenT {ds : List D} (h : Q (.int (ds.length : Nat)) W) : fLen [.tup ds] W Q := h
theorem E_lenL {a : Addr} {ds : List D} (ha : W a = some (.lst ds)) (h : Q (.int (ds.length : Nat)) W) : fLen [.ref a] W Q := .inl ⟨ds, .inl ha, h⟩
theorem E_slT {ds : List D} {lo hi : Option Int} (h : Q (.tup (cutD ds lo hi)) W) : fSl (.tup ds) lo hi W Q := h
theorem E_while {I : Nat → DSt → Wd → Prop} {m : Nat} (h0 : I m ρ W) (h1 : ∀ m ρ W, I m ρ W → tt ρ W fun b W1 => if b = true then tb ⟨fun ρ' W' => ∃ m', m' < m ∧ I m' ρ' W', r, n, fun ρ' W' => ∃ m', m' < m ∧ I m' ρ' W'⟩ ρ W1 else n ρ W1) : dWhile tt tb ⟨n, r, b, c⟩ ρ W := ⟨I, ⟨m, h0⟩, h1⟩
theorem E_catT {xs ys : List D} (hz : xs.length + ys.length ≤ sizeLine) (h : Q (.tup (xs ++ ys)) W) : fCatT (.tup xs) (.tup ys) W Q := ⟨xs, ys, rfl, rfl, hz, h⟩
theorem E_revT {ds : List D} {R : List D → Prop} (h : R ds) : ∃ ds', D.tup ds = .tup ds' ∧ R ds' := ⟨ds, rfl, h⟩
theorem E_int1 {i : Int} (h : Q (.int i) W) : fInt1 [.int i] W Q := h
theorem E_int1b {k : Bool} (h : Q (.int (b2i k)) W) : fInt1 [.bl k] W Q := h
theorem E_abs {i : Int} (h : Q (.int (if i < 0 then -i else i)) W) : fAbs [.int i] W Q := ⟨i, rfl, h⟩
theorem E_isi {d : D} {T t : String} {b : Bool} (h1 : tyD d W t) (h2 : kitB t T = some b) (h : Q (.bl b) W) : fIsi [d, .ty T] W Q := ⟨d, T, t, b, rfl, h1, h2, h⟩
theorem E_append {a : Addr} {x : D} {xs : List D} (ha : W a = some (.lst xs)) (hz : xs.length < sizeLine) (h : Q .non (wset W a (.lst (xs ++ [x])))) : fAppend a [x] W Q := ⟨x, xs, rfl, ha, hz, h⟩
theorem E_mlA {a : Addr} {ds : List D} {R : Addr → Prop} (ha : W a = some (.lst ds)) (h : R a) : ∃ a', D.ref a = .ref a' ∧ (∃ ds, W a' = some (.lst ds)) ∧ R a' := ⟨a, rfl, ⟨ds, ha⟩, h⟩
end
local macro_rules | `(tactic| walk_at "d1") => `(tactic| (first
  | with_reducible refine E_seq ?_ | with_reducible refine E_ifS ?_ | with_reducible refine E_ret ?_ | with_reducible refine E_retN ?_ | with_reducible refine E_asg ?_ | with_reducible refine E_drop ?_ | with_reducible refine E_next ?_ | with_reducible refine E_cont ?_ | with_reducible refine E_break ?_
  | with_reducible refine E_not ?_ | with_reducible refine E_truth ?_ | with_reducible refine E_and ?_ | with_reducible refine E_or ?_ | with_reducible refine E_test ?_ | with_reducible refine E_yes ?_ | with_reducible refine E_andV ?_ | with_reducible refine E_orV ?_ | with_reducible refine E_notV ?_ | with_reducible refine E_if ?_
  | with_reducible refine E_op ?_ | with_reducible refine E_un ?_ | with_reducible refine E_chain ?_ | with_reducible refine E_var rfl ?_ | with_reducible refine E_c ?_ | with_reducible refine E_cb ?_ | with_reducible refine E_call ?_ | with_reducible refine E_cons ?_ | with_reducible refine E_nil ?_
  | with_reducible refine E_tup ?_ | with_reducible refine E_lst ?_ | with_reducible refine E_sl ?_ | with_reducible refine E_part ?_ | with_reducible refine E_no ?_ | with_reducible refine E_ml ?_ | with_reducible refine E_bits ?_ | with_reducible refine E_rev ?_
  | with_reducible refine E_gN ?_ | with_reducible refine E_gT rfl ?_ | with_reducible refine E_gsC ?_ | with_reducible refine E_gsN ?_ | with_reducible refine E_gIx ?_ | with_reducible refine E_for ?_ | with_reducible refine E_lc ?_
  | with_reducible refine E_dget ?_ | with_reducible refine E_din ?_ | with_reducible refine E_dput ?_ | with_reducible refine E_dpop ?_ | with_reducible refine E_nget ?_ | with_reducible refine E_nin ?_ | with_reducible refine E_nput ?_
  | with_reducible refine E_aug rfl ?_ | with_reducible refine E_augIx ?_ | with_reducible refine E_iSeq ?_ | with_reducible refine E_iRg1 ?_ | with_reducible refine E_iZipT ?_
  | with_reducible refine E_I0 ?_ | with_reducible refine E_bl ?_ | with_reducible refine E_tbl ?_ | with_reducible refine E_int ?_ | with_reducible refine E_mlA (by assumption) ?_ | with_reducible refine E_ref ?_ | with_reducible refine E_slT ?_ | with_reducible refine E_lenT ?_ | with_reducible refine E_iteT ?_ | with_reducible refine E_iteF ?_ | with_reducible refine E_int1 ?_ | with_reducible refine E_int1b ?_ | with_reducible refine E_abs ?_
  | ((with_reducible refine E_I ?_ ?_); focus (first | assumption | exact Or.inl ⟨by decide, by decide⟩ | exact Or.inr ⟨by decide, by decide⟩ | exact ⟨by decide, by decide, by decide⟩ | exact ⟨by decide, by decide⟩ | exact pow_posI _ | (show (0 : Int) < _; decide) | (show (0 : Int) ≤ _; decide))) | with_reducible refine E_lenL (by assumption) ?_
  | with_reducible refine E_ixL (by assumption) ?_ | with_reducible refine E_ixT ?_ | with_reducible refine OptD.mk rfl ?_ | refine E_le rfl ?_ | with_reducible refine E_revT ?_))
end DL

namespace K51
open PySem PySem.Spec L2 RZ DL
open PyProof.Rows hiding St
local macro_rules | `(tactic| walk_at "d1") => `(tactic| (first
  | with_reducible refine E_seq ?_ | with_reducible refine E_ifS ?_ | with_reducible refine E_ret ?_ | with_reducible refine E_retN ?_ | with_reducible refine E_asg ?_ | with_reducible refine E_drop ?_ | with_reducible refine E_next ?_ | with_reducible refine E_cont ?_ | with_reducible refine E_break ?_
  | with_reducible refine E_not ?_ | with_reducible refine E_truth ?_ | with_reducible refine E_and ?_ | with_reducible refine E_or ?_ | with_reducible refine E_test ?_ | with_reducible refine E_yes ?_ | with_reducible refine E_andV ?_ | with_reducible refine E_orV ?_ | with_reducible refine E_notV ?_ | with_reducible refine E_if ?_
  | with_reducible refine E_op ?_ | with_reducible refine E_un ?_ | with_reducible refine E_chain ?_ | with_reducible refine E_var rfl ?_ | with_reducible refine E_c ?_ | with_reducible refine E_cb ?_ | with_reducible refine E_call ?_ | with_reducible refine E_cons ?_ | with_reducible refine E_nil ?_
  | with_reducible refine E_tup ?_ | with_reducible refine E_lst ?_ | with_reducible refine E_sl ?_ | with_reducible refine E_part ?_ | with_reducible refine E_no ?_ | with_reducible refine E_ml ?_ | with_reducible refine E_bits ?_ | with_reducible refine E_rev ?_
  | with_reducible refine E_gN ?_ | with_reducible refine E_gT rfl ?_ | with_reducible refine E_gsC ?_ | with_reducible refine E_gsN ?_ | with_reducible refine E_gIx ?_ | with_reducible refine E_for ?_ | with_reducible refine E_lc ?_
  | with_reducible refine E_dget ?_ | with_reducible refine E_din ?_ | with_reducible refine E_dput ?_ | with_reducible refine E_dpop ?_ | with_reducible refine E_nget ?_ | with_reducible refine E_nin ?_ | with_reducible refine E_nput ?_
  | with_reducible refine E_aug rfl ?_ | with_reducible refine E_augIx ?_ | with_reducible refine E_iSeq ?_ | with_reducible refine E_iRg1 ?_ | with_reducible refine E_iZipT ?_
  | with_reducible refine E_I0 ?_ | with_reducible refine E_bl ?_ | with_reducible refine E_tbl ?_ | with_reducible refine E_int ?_ | with_reducible refine E_mlA (by assumption) ?_ | with_reducible refine E_ref ?_ | with_reducible refine E_slT ?_ | with_reducible refine E_lenT ?_ | with_reducible refine E_int1 ?_ | with_reducible refine E_int1b ?_ | with_reducible refine E_abs ?_
  | ((with_reducible refine E_I ?_ ?_); focus (first | assumption | exact Or.inl ⟨by decide, by decide⟩ | exact Or.inr ⟨by decide, by decide⟩ | exact ⟨by decide, by decide, by decide⟩ | exact ⟨by decide, by decide⟩ | exact pow_posI _ | (show (0 : Int) < _; decide) | (show (0 : Int) ≤ _; decide))) | with_reducible refine E_lenL (by assumption) ?_
  | with_reducible refine E_ixL (by assumption) ?_ | with_reducible refine E_ixT ?_ | with_reducible refine OptD.mk rfl ?_))
def topS (i : Nat) : Stmt := PySem.Challenge.pw_leaveledger_k51_reasons_judged.main.body.getD i (.Pass ⟨0, 0, 0, 0⟩)
/-- the drawer: its script, its place, what is left of a great number, its state -/
def Drawn (W : Wd) (a s : Addr) : Prop := ∃ (i f t : Int) (ns : List Int), W a = some (.lst [.ref s, .int i, .int f, .int t, .int 3]) ∧ W s = some (.lst (ns.map .int)) ∧ s ≠ a ∧ 0 ≤ i
def Draws (W : Wd) (a : Addr) : Prop := ∃ s, Drawn W a s
/-- what a draw leaves -/
def DrawX (a : Addr) (W W' : Wd) : Prop := (∃ s, Drawn W a s ∧ Drawn W' a s) ∧ ∀ b m, b ≠ a → W b = some m → W' b = some m
theorem Drawn.one {W : Wd} {a s s' : Addr} (h : Drawn W a s) (h' : Drawn W a s') : s' = s := by
  obtain ⟨_, _, _, _, e, _⟩ := h
  obtain ⟨_, _, _, _, e', _⟩ := h'
  rw [e] at e'
  cases e'
  rfl
theorem DrawX.d {a : Addr} {W W' : Wd} (x : DrawX a W W') : Draws W' a := let ⟨⟨s, _, h⟩, _⟩ := x; ⟨s, h⟩
theorem DrawX.trans {a : Addr} {W W' W2 : Wd} (x : DrawX a W W') (y : DrawX a W' W2) : DrawX a W W2 := by
  obtain ⟨⟨s, h1, h2⟩, k⟩ := x
  obtain ⟨⟨s', h3, h4⟩, l⟩ := y
  cases h2.one h3
  exact ⟨⟨_, h1, h4⟩, fun b m e1 e2 => l b m e1 (k b m e1 e2)⟩
theorem DrawX.refl {a : Addr} {W : Wd} (h : Draws W a) : DrawX a W W := let ⟨s, h⟩ := h; ⟨⟨s, h, h⟩, fun _ _ _ e => e⟩
theorem DrawX.of {W : Wd} {a s : Addr} {i f t i0 f0 t0 : Int} {ns : List Int} (ha : W a = some (.lst [.ref s, .int i0, .int f0, .int t0, .int 3])) (hs : W s = some (.lst (ns.map .int))) (hne : s ≠ a) (hi0 : 0 ≤ i0) (hi : 0 ≤ i) :
    DrawX a W (wset W a (.lst [.ref s, .int i, .int f, .int t, .int 3])) :=
  ⟨⟨s, ⟨i0, f0, t0, ns, ha, hs, hne, hi0⟩, ⟨i, f, t, ns, wset_same, by rw [wset_ne hne]; exact hs, hne, hi⟩⟩, fun b m h1 h2 => by rw [wset_ne h1]; exact h2⟩
theorem Draws.some {W : Wd} {a : Addr} (h : Draws W a) : ∃ m, W a = some m := let ⟨_, _, _, _, _, h, _⟩ := h; ⟨_, h⟩
theorem Draws.ne {W : Wd} {a p : Addr} (h : Draws W a) (hp : W p = none) : p ≠ a := fun e => by
  obtain ⟨m, h⟩ := h.some
  rw [← e, hp] at h; cases h
/-- a change at a place that was free -/
theorem DrawX.put {a p : Addr} {W W' : Wd} {m : MO} (hp : W p = none) (h : DrawX a W W') : DrawX a W (wset W' p m) := by
  obtain ⟨⟨s, h1, i, f, t, ns, h2, h3, h4, h5⟩, k⟩ := h
  have hne : p ≠ a := Draws.ne ⟨s, h1⟩ hp
  obtain ⟨i', f', t', ns', h6, h7, h8, h9⟩ := h1
  refine ⟨⟨s, ⟨i', f', t', ns', h6, h7, h8, h9⟩, ⟨i, f, t, ns, by rw [wset_ne (Ne.symm hne)]; exact h2, ?_, h4, h5⟩⟩, fun b n hb e => ?_⟩
  · rw [wset_ne (fun e => by rw [e, hp] at h7; cases h7)]; exact h3
  · rw [wset_ne (fun e' => by rw [e', hp] at e; cases e)]; exact k b n hb e
theorem DrawX.new {a p : Addr} {W : Wd} {m : MO} (h : Draws W a) (hp : W p = none) : DrawX a W (wset W p m) := DrawX.put hp (DrawX.refl h)
def spDraw : SpD := fun ds W R => ∃ (a : Addr) (m : Int), ds = [.ref a, .int m] ∧ 0 < m ∧ m < 1073741824 ∧ Draws W a ∧ ∀ (v : Int) (W' : Wd), 0 ≤ v → v < m → DrawX a W W' → R (.int v) W'
section
variable {P : Program} {w : World} {K : Frag} {mg : Str → Option Value} {base : Heap}
abbrev st__law_draw : Stmt := topS 6
abbrev N__law_draw : List Str := ["_law_d", "_law_many", "_law_found", "_law_size", "_law_cell"]
theorem sc__law_draw : FnScope N__law_draw ["_law_d", "_law_many"] (defScope st__law_draw) := ⟨rfl, rfl, rfl, by decide +kernel, rfl, by decide +kernel, by decide +kernel⟩
theorem start__law_draw (x0 x1 : D) : startD N__law_draw [x0, x1] = [some x0, some x1, none, none, none] := rfl
theorem ok_draw {f : Addr} {fd : FuncData} (F : Fun K "_law_draw" "_law_draw" st__law_draw f fd) (g : mg "_law_draw" = some (.ref f)) (b : Binds K fd ["_law_d", "_law_many"] []) (B : Bi mg) : Fn P w K mg base 1 "_law_draw" spDraw := by
  refine fn_mk F sc__law_draw g b (fun ds W R h => by obtain ⟨a, m, rfl, _⟩ := h; rfl) fun cdv A outer s H E hr => ⟨_, 
      (s_cons (s_if (d_cmpT op_gt od_gt (d_ix (d_var 0) d_int) d_int (nomark _)) (s_cons (s_set (i := 2) sc__law_draw.nd rfl (by first | exact .inl rfl | exact .inr rfl) (d_ix (d_var 0) d_int))
      (s_cons (s_asg (d_fdiv (d_var 2) (d_var 1)) (g_ix (d_var 0) d_int))
      (s_one (s_ret (d_mod (d_callTy call_int1 cd_int1 B.int (by decide +kernel) (da_cons (d_var 2) da_nil)) (d_var 1)))))) s_nil)
      (s_cons (s_set (i := 3) sc__law_draw.nd rfl (by first | exact .inl rfl | exact .inr rfl) d_int)
      (s_cons (s_if (d_cmpT op_lt od_lt (d_ix (d_var 0) d_int) (d_len B.len (da_cons (d_ix (d_var 0) d_int) da_nil)) (nomark _)) (s_cons (s_set (i := 4) sc__law_draw.nd rfl (by first | exact .inl rfl | exact .inr rfl) (d_ix (d_ix (d_var 0) d_int) (d_ix (d_var 0) d_int)))
      (s_one (s_set (i := 3) sc__law_draw.nd rfl (by first | exact .inl rfl | exact .inr rfl) (d_add (d_mul d_int (d_callB call_abs cd_abs B.abs (by decide +kernel) (da_cons (d_var 4) da_nil))) (d_callTy call_int1 cd_int1 B.int (by decide +kernel) (da_cons (d_cmp op_lt od_lt (d_var 4) d_int (nomark _)) da_nil)))))) s_nil)
      (s_cons (s_augIx (f := fI0 fun i j => .int (i + j)) (d_var 0) d_int d_int iop_add (od_I0 fun _ _ _ => rfl))
      (s_cons (s_if (d_cmpT op_ge od_ge (d_var 3) (d_mul d_int (d_pow d_int d_int)) (nomark _)) (s_cons (s_set (i := 2) sc__law_draw.nd rfl (by first | exact .inl rfl | exact .inr rfl) (d_mod (d_callTy call_int1 cd_int1 B.int (by decide +kernel) (da_cons (d_fdiv (d_var 3) d_int) da_nil)) (d_shl d_int d_int)))
      (s_cons (s_asg (d_fdiv (d_var 2) (d_var 1)) (g_ix (d_var 0) d_int))
      (s_one (s_ret (d_mod (d_callTy call_int1 cd_int1 B.int (by decide +kernel) (da_cons (d_var 2) da_nil)) (d_var 1)))))) s_nil)
      (s_cons (s_asg (d_mod (d_callTy call_int1 cd_int1 B.int (by decide +kernel) (da_cons (d_add (d_add (d_add (d_mul (d_ix (d_var 0) d_int) d_int) (d_mul (d_mod (d_callTy call_int1 cd_int1 B.int (by decide +kernel) (da_cons (d_var 3) da_nil)) d_int) d_int)) (d_mul (d_ix (d_var 0) d_int) d_int)) d_int) da_nil)) d_int) (g_ix (d_var 0) d_int))
      (s_one (s_ret (d_mod (d_callTy call_int1 cd_int1 B.int (by decide +kernel) (da_cons (d_fdiv (d_ix (d_var 0) d_int) d_int) da_nil)) (d_var 1)))))))))), fun ds W R h => ?_⟩
  obtain ⟨a, m, rfl, hm0, hm, ⟨sc, i, fo, t, ns, ha, hs, hne, hi⟩, q⟩ := h
  have hD : DrawX a W W := DrawX.refl ⟨sc, i, fo, t, ns, ha, hs, hne, hi⟩
  rw [start__law_draw]
  refine E_start ?_
  have hdiv : CDiv 5 m := ⟨hm0, hm⟩
  repeat walk_at "d1"
  refine E_dec (fun h0 => ?_) (fun h0 => ?_)
  · repeat walk_at "d1"
    refine ⟨a, _, 2, _, rfl, rfl, ha, rfl, ?_⟩
    repeat walk_at "d1"
    refine E_end ?_
    exact q _ _ (Int.emod_nonneg _ (by omega)) (Int.emod_lt_of_pos _ hm0) (DrawX.of ha hs hne hi hi)
  · have after : ∀ z o4, dSeq (dAugIx (fI0 fun i j => D.int (i + j)) (dVar 0) (dC (D.int 1)) (dC (D.int 1))) (dSeq (dIfS (dTest (dOp fGe (dVar 3) (dOp (fI CMul fun i j => D.int (i * j)) (dC (D.int 2)) (dOp (fI CPow fun i j => D.int (i ^ j.toNat)) (dC (D.int 10)) (dC (D.int 18))))))
        (dSeq (dAsg (dOp (fI (fun x j => 0 < j) fun i j => D.int (i % j)) (dCB fInt1 (dCons (dOp (fI CDiv fun i j => D.int (i / j)) (dVar 3) (dC (D.int 2))) dNil)) (dOp (fI CPow fun i j => D.int (i * 2 ^ j.toNat)) (dC (D.int 1)) (dC (D.int 6000)))) (gN 2))
          (dSeq (dAsg (dOp (fI CDiv fun i j => D.int (i / j)) (dVar 2) (dVar 1)) (gIx (dVar 0) (dC (D.int 2)))) (dRet (dOp (fI (fun x j => 0 < j) fun i j => D.int (i % j)) (dCB fInt1 (dCons (dVar 2) dNil)) (dVar 1))))) dNext)
        (dSeq (dAsg (dOp (fI (fun x j => 0 < j) fun i j => D.int (i % j)) (dCB fInt1 (dCons (dOp (fI0 fun i j => D.int (i + j)) (dOp (fI0 fun i j => D.int (i + j)) (dOp (fI0 fun i j => D.int (i + j)) (dOp (fI CMul fun i j => D.int (i * j)) (dOp fIx (dVar 0) (dC (D.int 3))) (dC (D.int 48271)))
              (dOp (fI CMul fun i j => D.int (i * j)) (dOp (fI (fun x j => 0 < j) fun i j => D.int (i % j)) (dCB fInt1 (dCons (dVar 3) dNil)) (dC (D.int 2147483629))) (dC (D.int 16807)))) (dOp (fI CMul fun i j => D.int (i * j)) (dOp fIx (dVar 0) (dC (D.int 1))) (dC (D.int 69621)))) (dC (D.int 11))) dNil)) (dC (D.int 2147483647))) (gIx (dVar 0) (dC (D.int 3))))
          (dRet (dOp (fI (fun x j => 0 < j) fun i j => D.int (i % j)) (dCB fInt1 (dCons (dOp (fI CDiv fun i j => D.int (i / j)) (dOp fIx (dVar 0) (dC (D.int 3))) (dC (D.int 16))) dNil)) (dVar 1)))))
        ⟨fun _ W' => EndR R .non W', EndR R, fun _ _ => False, fun _ _ => False⟩ [some (D.ref a), some (D.int m), none, some (D.int z), o4] W := fun z o4 => by
      repeat walk_at "d1"
      refine ⟨a, 1, _, _, rfl, rfl, ha, rfl, ?_⟩
      repeat walk_at "d1"
      refine ⟨_, ha, Nat.lt_of_sub_eq_succ rfl, ?_⟩
      have hi' : 0 ≤ i + 1 := by omega
      have hb := wset_same (W := W) (a := a) (m := .lst ([D.ref sc, D.int i, D.int fo, D.int t, D.int 3].set 1 (D.int (i + 1))))
      have hs' : (wset W a (.lst ([D.ref sc, D.int i, D.int fo, D.int t, D.int 3].set 1 (D.int (i + 1))))) sc = some (.lst (ns.map .int)) := by rw [wset_ne hne]; exact hs
      repeat walk_at "d1"
      refine E_dec (fun h2 => ?_) (fun h2 => ?_)
      · repeat walk_at "d1"
        refine ⟨a, _, 2, _, rfl, rfl, hb, rfl, ?_⟩
        repeat walk_at "d1"
        refine E_end ?_
        rw [wset_wset]
        exact q _ _ (Int.emod_nonneg _ (by omega)) (Int.emod_lt_of_pos _ hm0) (DrawX.of ha hs hne hi hi')
      · repeat walk_at "d1"
        refine ⟨a, _, 3, _, rfl, rfl, hb, rfl, ?_⟩
        rw [wset_wset]
        have hc := wset_same (W := W) (a := a) (m := .lst (([D.ref sc, D.int i, D.int fo, D.int t, D.int 3].set 1 (D.int (i + 1))).set 3 (D.int ((t * 48271 + z % 2147483629 * 16807 + (i + 1) * 69621 + 11) % 2147483647))))
        repeat walk_at "d1"
        refine E_end ?_
        exact q _ _ (Int.emod_nonneg _ (by omega)) (Int.emod_lt_of_pos _ hm0) (DrawX.of ha hs hne hi hi')
    repeat walk_at "d1"
    refine E_dec (fun h1 => ?_) (fun h1 => ?_)
    · repeat walk_at "d1"
      refine OptD.ints hi h1 fun cell _ => ?_
      repeat (first | exact after _ _ | walk_at "d1")
    · repeat (first | exact after _ _ | walk_at "d1")
end
end K51

namespace K51
open PySem PySem.Spec L2 RZ DL
open PyProof.Rows hiding St
local macro_rules | `(tactic| walk_at "d1") => `(tactic| (first
  | with_reducible refine E_seq ?_ | with_reducible refine E_ifS ?_ | with_reducible refine E_ret ?_ | with_reducible refine E_retN ?_ | with_reducible refine E_asg ?_ | with_reducible refine E_drop ?_ | with_reducible refine E_next ?_ | with_reducible refine E_cont ?_ | with_reducible refine E_break ?_
  | with_reducible refine E_not ?_ | with_reducible refine E_truth ?_ | with_reducible refine E_and ?_ | with_reducible refine E_or ?_ | with_reducible refine E_test ?_ | with_reducible refine E_yes ?_ | with_reducible refine E_andV ?_ | with_reducible refine E_orV ?_ | with_reducible refine E_notV ?_ | with_reducible refine E_if ?_
  | with_reducible refine E_op ?_ | with_reducible refine E_un ?_ | with_reducible refine E_chain ?_ | with_reducible refine E_var rfl ?_ | with_reducible refine E_c ?_ | with_reducible refine E_cb ?_ | with_reducible refine E_call ?_ | with_reducible refine E_cons ?_ | with_reducible refine E_nil ?_
  | with_reducible refine E_tup ?_ | with_reducible refine E_lst ?_ | with_reducible refine E_sl ?_ | with_reducible refine E_part ?_ | with_reducible refine E_no ?_ | with_reducible refine E_ml ?_ | with_reducible refine E_bits ?_ | with_reducible refine E_rev ?_
  | with_reducible refine E_gN ?_ | with_reducible refine E_gT rfl ?_ | with_reducible refine E_gsC ?_ | with_reducible refine E_gsN ?_ | with_reducible refine E_gIx ?_ | with_reducible refine E_for ?_ | with_reducible refine E_lc ?_
  | with_reducible refine E_dget ?_ | with_reducible refine E_din ?_ | with_reducible refine E_dput ?_ | with_reducible refine E_dpop ?_ | with_reducible refine E_nget ?_ | with_reducible refine E_nin ?_ | with_reducible refine E_nput ?_
  | with_reducible refine E_aug rfl ?_ | with_reducible refine E_augIx ?_ | with_reducible refine E_iSeq ?_ | with_reducible refine E_iRg1 ?_ | with_reducible refine E_iZipT ?_
  | with_reducible refine E_I0 ?_ | with_reducible refine E_bl ?_ | with_reducible refine E_tbl ?_ | with_reducible refine E_int ?_ | with_reducible refine E_mlA (by assumption) ?_ | with_reducible refine E_ref ?_ | with_reducible refine E_slT ?_ | with_reducible refine E_lenT ?_ | with_reducible refine E_int1 ?_ | with_reducible refine E_int1b ?_ | with_reducible refine E_abs ?_
  | ((with_reducible refine E_I ?_ ?_); focus (first | assumption | exact Or.inl ⟨by decide, by decide⟩ | exact Or.inr ⟨by decide, by decide⟩ | exact ⟨by decide, by decide, by decide⟩ | exact ⟨by decide, by decide⟩ | exact pow_posI _ | (show (0 : Int) < _; decide) | (show (0 : Int) ≤ _; decide))) | with_reducible refine E_lenL (by assumption) ?_
  | with_reducible refine E_ixL (by assumption) ?_ | with_reducible refine E_ixT ?_ | with_reducible refine OptD.mk rfl ?_))
theorem perm_pop {α : Type} : ∀ {l : List α} {i : Nat} (h : i < l.length), ([l[i]] ++ l.eraseIdx i).Perm l
  | x :: l, 0, _ => List.Perm.refl _
  | x :: l, i + 1, h => by
    have q := perm_pop (l := l) (i := i) (by simpa using h)
    simp only [List.getElem_cons_succ, List.eraseIdx_cons_succ]
    exact (List.Perm.swap _ _ _).trans (List.Perm.cons x q)
theorem sz_eq : sizeLine = 16777216 := by decide
/-- lists as they may be given: a tuple, or a list that is not the drawer -/
def spPick : SpD := fun ds W R => ∃ (a l : Addr) (xs : List D), ds = [.ref a, .ref l] ∧ W l = some (.lst xs) ∧ l ≠ a ∧ 0 < xs.length ∧ xs.length < 1073741824 ∧ Draws W a ∧ ∀ (x : D) (W' : Wd), x ∈ xs → DrawX a W W' → R x W'
def spRare : SpD := fun ds W R => ∃ a : Addr, ds = [.ref a, .int 9] ∧ Draws W a ∧ ∀ (b : Bool) (W' : Wd), DrawX a W W' → R (.bl b) W'
def spShuf : SpD := fun ds W R => ∃ (a : Addr) (x : D) (xs : List D), ds = [.ref a, x] ∧ (x = .tup xs ∨ ∃ l, x = .ref l ∧ W l = some (.lst xs)) ∧ xs.length ≤ 16777216 ∧ Draws W a ∧
  ∀ (p : Addr) (W' : Wd) (ys : List D), W p = none → ys.Perm xs → DrawX a W W' → W' p = some (.lst ys) → R (.ref p) W'
section
variable {P : Program} {w : World} {K : Frag} {mg : Str → Option Value} {base : Heap}
abbrev st__law_pick : Stmt := topS 7
abbrev N__law_pick : List Str := ["_law_d", "_law_row_here"]
theorem sc__law_pick : FnScope N__law_pick ["_law_d", "_law_row_here"] (defScope st__law_pick) := ⟨rfl, rfl, rfl, by decide +kernel, rfl, by decide +kernel, by decide +kernel⟩
theorem start__law_pick (x0 x1 : D) : startD N__law_pick [x0, x1] = [some x0, some x1] := rfl
theorem ok_pick {f : Addr} {fd : FuncData} (F : Fun K "_law_pick" "_law_pick" st__law_pick f fd) (g : mg "_law_pick" = some (.ref f)) (b : Binds K fd ["_law_d", "_law_row_here"] []) (B : Bi mg) (F__law_draw : Fn P w K mg base 1 "_law_draw" spDraw) : Fn P w K mg base 2 "_law_pick" spPick := by
  refine fn_mk F sc__law_pick g b (fun ds W R h => by obtain ⟨a, m, xs, rfl, _⟩ := h; rfl) fun cdv A outer s H E hr => ⟨_, 
      (s_one (s_ret (d_ix (d_var 1) (d_call F__law_draw (hr.mono (by decide)) (da_cons (d_var 0) (da_cons (d_len B.len (da_cons (d_var 1) da_nil)) da_nil)))))), fun ds W R h => ?_⟩
  obtain ⟨a, l, xs, rfl, hl, hne, h0, hz, hD, q⟩ := h
  rw [start__law_pick]
  refine E_start ?_
  repeat walk_at "d1"
  refine ⟨a, _, rfl, by omega, by omega, hD, fun v W' h1 h2 x => ?_⟩
  have hl' := x.2 l _ hne hl
  repeat walk_at "d1"
  refine OptD.at h1 h2 fun j hj _ => E_end (q _ _ (List.getElem_mem _) x)
abbrev st__law_rare : Stmt := topS 8
abbrev N__law_rare : List Str := ["_law_d", "_law_many"]
theorem sc__law_rare : FnScope N__law_rare ["_law_d", "_law_many"] (defScope st__law_rare) := ⟨rfl, rfl, rfl, by decide +kernel, rfl, by decide +kernel, by decide +kernel⟩
theorem start__law_rare (x0 x1 : D) : startD N__law_rare [x0, x1] = [some x0, some x1] := rfl
theorem ok_rare {f : Addr} {fd : FuncData} (F : Fun K "_law_rare" "_law_rare" st__law_rare f fd) (g : mg "_law_rare" = some (.ref f)) (b : Binds K fd ["_law_d", "_law_many"] []) (B : Bi mg) (F__law_draw : Fn P w K mg base 1 "_law_draw" spDraw) : Fn P w K mg base 2 "_law_rare" spRare := by
  refine fn_mk F sc__law_rare g b (fun ds W R h => by obtain ⟨a, rfl, _⟩ := h; rfl) fun cdv A outer s H E hr => ⟨_, 
      (s_one (s_ret (d_cmp (op_eqD (hr.u 64)) od_eq (d_call F__law_draw (hr.mono (by decide)) (da_cons (d_var 0) (da_cons (d_var 1) da_nil))) (d_fdiv (d_var 1) d_int) (nomark _)))), fun ds W R h => ?_⟩
  obtain ⟨a, rfl, hD, q⟩ := h
  rw [start__law_rare]
  refine E_start ?_
  repeat walk_at "d1"
  refine ⟨a, _, rfl, by omega, by omega, hD, fun v W' h1 h2 x => ?_⟩
  repeat walk_at "d1"
  exact ⟨_, _, rfl, rfl, rfl, rfl, E_end (q _ _ x)⟩
abbrev st__law_shuffled : Stmt := topS 9
abbrev N__law_shuffled : List Str := ["_law_d", "_law_row_here", "_law_left", "_law_found", "_law_k"]
theorem sc__law_shuffled : FnScope N__law_shuffled ["_law_d", "_law_row_here"] (defScope st__law_shuffled) := ⟨rfl, rfl, rfl, by decide +kernel, rfl, by decide +kernel, by decide +kernel⟩
theorem start__law_shuffled (x0 x1 : D) : startD N__law_shuffled [x0, x1] = [some x0, some x1, none, none, none] := rfl
theorem ok_shuf {f : Addr} {fd : FuncData} (F : Fun K "_law_shuffled" "_law_shuffled" st__law_shuffled f fd) (g : mg "_law_shuffled" = some (.ref f)) (b : Binds K fd ["_law_d", "_law_row_here"] []) (B : Bi mg) (F__law_draw : Fn P w K mg base 1 "_law_draw" spDraw) : Fn P w K mg base 2 "_law_shuffled" spShuf := by
  refine fn_mk F sc__law_shuffled g b (fun ds W R h => by obtain ⟨a, m, xs, rfl, _⟩ := h; rfl) fun cdv A outer s H E hr => ⟨_, 
      (s_cons (s_set (i := 2) sc__law_shuffled.nd rfl (by first | exact .inl rfl | exact .inr rfl) (d_callTy call_list_of cd_list B.list (by decide +kernel) (da_cons (d_var 1) da_nil)))
      (s_cons (s_set (i := 3) sc__law_shuffled.nd rfl (by first | exact .inl rfl | exact .inr rfl) (d_lst da_nil))
      (s_cons (s_for PassesOwn.never rfl (i_rng1 B.range (da_cons (d_len B.len (da_cons (d_var 2) da_nil)) da_nil)) (g_name (i := 4) sc__law_shuffled.nd rfl (by first | exact .inl rfl | exact .inr rfl) (fun _ h => nomatch h)) (s_one (s_expr (d_append (d_var 3) (da_cons (d_popAt (d_var 2) (da_cons (d_call F__law_draw (hr.mono (by decide)) (da_cons (d_var 0) (da_cons (d_len B.len (da_cons (d_var 2) da_nil)) da_nil))) da_nil)) da_nil)))))
      (s_one (s_ret (d_var 3)))))), fun ds W R h => ?_⟩
  obtain ⟨a, x, xs, rfl, hx, hz, hD, q⟩ := h
  rw [start__law_shuffled]
  refine E_start ?_
  repeat walk_at "d1"
  have l1 : ∀ (Q : DQ), (∀ p, W p = none → Q (.ref p) (wset W p (.lst xs))) → fList [x] W Q := fun Q h => by
    rcases hx with rfl | ⟨l, rfl, hl⟩
    · exact h
    · exact ⟨xs, .inl hl, h⟩
  refine l1 _ fun L hL => ?_
  repeat walk_at "d1"
  refine ⟨Nat.zero_le _, fun F0 hF => ?_⟩
  have hLF : L ≠ F0 := fun e => by rw [← e, wset_same] at hF; cases hF
  have hFW : W F0 = none := by rw [wset_ne (Ne.symm hLF)] at hF; exact hF
  have x2 : DrawX a W (wset (wset W L (.lst xs)) F0 (.lst [])) := DrawX.put hFW (DrawX.new hD hL)
  have hL2 : (wset (wset W L (.lst xs)) F0 (.lst [])) L = some (.lst xs) := by rw [wset_ne hLF, wset_same]
  repeat walk_at "d1"
  refine ⟨_, rfl, by omega, by omega, ?_⟩
  refine loop_ind (fun rest ρ W' => ∃ left found o, rest.length = left.length ∧ ρ = [some (.ref a), some x, some (.ref L), some (.ref F0), o] ∧ W' L = some (.lst left) ∧ W' F0 = some (.lst found) ∧ (found ++ left).Perm xs ∧ DrawX a W W') ?_ ?_ _ _ _
    ⟨xs, [], none, by simp [rngD], rfl, hL2, wset_same, by simp, x2⟩
  · rintro ρ W' ⟨left, found, o, h1, rfl, h2, h3, h4, x⟩
    refine ⟨trivial, ?_⟩
    cases left with
    | cons _ _ => cases h1
    | nil =>
      repeat walk_at "d1"
      exact E_end (q _ _ found hFW (by simpa using h4) x h3)
  · rintro k rest N hN ρ W' ⟨left, found, o, h1, rfl, h2, h3, h4, x⟩
    refine ⟨trivial, ?_⟩
    have hlen := h4.length_eq
    rw [List.length_append] at hlen
    rw [List.length_cons] at h1
    repeat walk_at "d1"
    refine ⟨a, _, rfl, by omega, by omega, x.d, fun v W2 hv1 hv2 x2 => ?_⟩
    have hLa := hD.ne hL
    have hFa := hD.ne hFW
    have h2' := x2.2 _ _ hLa h2
    have h3' := x2.2 _ _ hFa h3
    have hvn : v.toNat < left.length := by omega
    repeat walk_at "d1"
    refine ⟨left, left[v.toNat], v.toNat, ?_, h2', List.getElem?_eq_getElem hvn, ?_⟩
    · rw [Int.toNat_of_nonneg hv1]
    repeat walk_at "d1"
    refine ⟨_, found, rfl, by rw [wset_ne (Ne.symm hLF)]; exact h3', by rw [sz_eq]; omega, ?_⟩
    refine hN _ _ ⟨left.eraseIdx v.toNat, found ++ [left[v.toNat]], _, ?_, rfl, ?_, wset_same, ?_, ?_⟩
    · rw [List.length_eraseIdx_of_lt hvn]; omega
    · rw [wset_ne hLF, wset_same]
    · refine List.Perm.trans ?_ h4
      rw [List.append_assoc]
      refine List.Perm.append_left _ ?_
      exact perm_pop hvn
    · exact DrawX.put hFW (DrawX.put hL (x.trans x2))
end
end K51

namespace K51
open PySem PySem.Spec L2 RZ DL
open PyProof.Rows hiding St
local macro_rules | `(tactic| walk_at "d1") => `(tactic| (first
  | with_reducible refine E_seq ?_ | with_reducible refine E_ifS ?_ | with_reducible refine E_ret ?_ | with_reducible refine E_retN ?_ | with_reducible refine E_asg ?_ | with_reducible refine E_drop ?_ | with_reducible refine E_next ?_ | with_reducible refine E_cont ?_ | with_reducible refine E_break ?_
  | with_reducible refine E_not ?_ | with_reducible refine E_truth ?_ | with_reducible refine E_and ?_ | with_reducible refine E_or ?_ | with_reducible refine E_test ?_ | with_reducible refine E_yes ?_ | with_reducible refine E_andV ?_ | with_reducible refine E_orV ?_ | with_reducible refine E_notV ?_ | with_reducible refine E_if ?_
  | with_reducible refine E_op ?_ | with_reducible refine E_un ?_ | with_reducible refine E_chain ?_ | with_reducible refine E_var rfl ?_ | with_reducible refine E_c ?_ | with_reducible refine E_cb ?_ | with_reducible refine E_call ?_ | with_reducible refine E_cons ?_ | with_reducible refine E_nil ?_
  | with_reducible refine E_tup ?_ | with_reducible refine E_lst ?_ | with_reducible refine E_sl ?_ | with_reducible refine E_part ?_ | with_reducible refine E_no ?_ | with_reducible refine E_ml ?_ | with_reducible refine E_bits ?_ | with_reducible refine E_rev ?_
  | with_reducible refine E_gN ?_ | with_reducible refine E_gT rfl ?_ | with_reducible refine E_gsC ?_ | with_reducible refine E_gsN ?_ | with_reducible refine E_gIx ?_ | with_reducible refine E_for ?_ | with_reducible refine E_lc ?_
  | with_reducible refine E_dget ?_ | with_reducible refine E_din ?_ | with_reducible refine E_dput ?_ | with_reducible refine E_dpop ?_ | with_reducible refine E_nget ?_ | with_reducible refine E_nin ?_ | with_reducible refine E_nput ?_
  | with_reducible refine E_aug rfl ?_ | with_reducible refine E_augIx ?_ | with_reducible refine E_iSeq ?_ | with_reducible refine E_iRg1 ?_ | with_reducible refine E_iZipT ?_
  | with_reducible refine E_I0 ?_ | with_reducible refine E_bl ?_ | with_reducible refine E_tbl ?_ | with_reducible refine E_int ?_ | with_reducible refine E_mlA (by assumption) ?_ | with_reducible refine E_ref ?_ | with_reducible refine E_slT ?_ | with_reducible refine E_lenT ?_ | with_reducible refine E_int1 ?_ | with_reducible refine E_int1b ?_ | with_reducible refine E_abs ?_
  | ((with_reducible refine E_I ?_ ?_); focus (first | assumption | exact Or.inl ⟨by decide, by decide⟩ | exact Or.inr ⟨by decide, by decide⟩ | exact ⟨by decide, by decide, by decide⟩ | exact ⟨by decide, by decide⟩ | exact pow_posI _ | (show (0 : Int) < _; decide) | (show (0 : Int) ≤ _; decide))) | with_reducible refine E_lenL (by assumption) ?_
  | with_reducible refine E_ixL (by assumption) ?_ | with_reducible refine E_ixT ?_ | with_reducible refine OptD.mk rfl ?_))
/-- data alone: no mutable thing, no type -/
def plain : D → Bool
  | .ref _ => false | .ty _ => false | _ => true
def isIntD : D → Bool
  | .int _ => true | _ => false
def isBoolD : D → Bool
  | .bl _ => true | _ => false
def isTupD : D → Bool
  | .tup _ => true | _ => false
def tyN : D → String
  | .non => "NoneType" | .bl _ => "bool" | .int _ => "int" | .str _ => "str" | _ => "tuple"
theorem tyN_ok {d : D} {W : Wd} (h : plain d = true) : tyD d W (tyN d) := by
  cases d <;> first | rfl | cases h
theorem isi_int {d : D} {W : Wd} {Q : DQ} (h : plain d = true) (q : Q (.bl (isIntD d || isBoolD d)) W) : fIsi [d, .ty "int"] W Q := E_isi (tyN_ok h) (by cases d <;> first | rfl | cases h) q
theorem isi_bool {d : D} {W : Wd} {Q : DQ} (h : plain d = true) (q : Q (.bl (isBoolD d)) W) : fIsi [d, .ty "bool"] W Q := E_isi (tyN_ok h) (by cases d <;> first | rfl | cases h) q
theorem isi_tup {d : D} {W : Wd} {Q : DQ} (h : plain d = true) (q : Q (.bl (isTupD d)) W) : fIsi [d, .ty "tuple"] W Q := E_isi (tyN_ok h) (by cases d <;> first | rfl | cases h) q
def spIsInt : SpD := fun ds W R => ∃ d, ds = [d] ∧ plain d = true ∧ R (.bl (isIntD d)) W
/-- each less than the next -/
def rising : List Int → Bool
  | x :: y :: r => decide (x < y) && rising (y :: r)
  | _ => true
def spRising : SpD := fun ds W R => ∃ (l : Addr) (ns : List Int), ds = [.ref l] ∧ W l = some (.lst (ns.map .int)) ∧ ns.length ≤ 1000000 ∧ R (.bl (rising ns)) W
section
variable {P : Program} {w : World} {K : Frag} {mg : Str → Option Value} {base : Heap}
abbrev st__law_is_int : Stmt := topS 10
abbrev N__law_is_int : List Str := ["_law_thing"]
theorem sc__law_is_int : FnScope N__law_is_int ["_law_thing"] (defScope st__law_is_int) := ⟨rfl, rfl, rfl, by decide +kernel, rfl, by decide +kernel, by decide +kernel⟩
theorem start__law_is_int (x0 : D) : startD N__law_is_int [x0] = [some x0] := rfl
theorem ok_is_int {f : Addr} {fd : FuncData} (F : Fun K "_law_is_int" "_law_is_int" st__law_is_int f fd) (g : mg "_law_is_int" = some (.ref f)) (b : Binds K fd ["_law_thing"] []) (B : Bi mg) : Fn P w K mg base 1 "_law_is_int" spIsInt := by
  refine fn_mk F sc__law_is_int g b (fun ds W R h => by obtain ⟨a, rfl, _⟩ := h; rfl) fun cdv A outer s H E hr => ⟨_, 
      (s_one (s_ret (d_andV (d_isi B.isi (by decide +kernel) (da_cons (d_var 0) (da_cons (d_ty (T := "int") B.int (by decide +kernel)) da_nil))) (d_one (d_notV (d_isi B.isi (by decide +kernel) (da_cons (d_var 0) (da_cons (d_ty (T := "bool") B.bool (by decide +kernel)) da_nil)))))))), fun ds W R h => ?_⟩
  obtain ⟨d, rfl, hp, q⟩ := h
  rw [start__law_is_int]
  refine E_start ?_
  repeat walk_at "d1"
  refine isi_int hp ?_
  repeat walk_at "d1"
  refine E_ite (fun h => ?_) (fun h => ?_)
  · repeat walk_at "d1"
    refine isi_bool hp ?_
    repeat walk_at "d1"
    refine E_end ?_
    cases d <;> first | exact q | cases h
  · refine E_end ?_
    cases d <;> first | exact q | cases h
theorem rngD_mem {n : Nat} {x : D} (h : x ∈ rngD 0 n) : ∃ k : Nat, k < n ∧ x = .int (k : Int) := by
  unfold rngD at h
  obtain ⟨k, h1, rfl⟩ := List.mem_map.mp h
  exact ⟨k, List.mem_range.mp h1, by rw [Int.zero_add]⟩
theorem rngD_map {n : Nat} (f : D → D) : (rngD 0 n).map f = (List.range n).map fun (k : Nat) => f (.int (k : Int)) := by
  unfold rngD
  rw [List.map_map]
  refine List.map_congr_left fun k _ => ?_
  show f (.int (0 + (k : Int))) = _
  rw [Int.zero_add]
theorem rngD_len (n : Nat) : (rngD 0 n).length = n := by rw [rngD, List.length_map, List.length_range]
theorem rising_all : ∀ (ns : List Int), ((List.range (ns.length - 1)).map fun k => decide (ns.getD k 0 < ns.getD (k + 1) 0)).all id = rising ns
  | [] => rfl
  | [x] => rfl
  | x :: y :: r => by
    have q := rising_all (y :: r)
    have e : (x :: y :: r).length - 1 = ((y :: r).length - 1) + 1 := by simp
    rw [e, List.range_succ_eq_map]
    simp only [List.map_cons, List.map_map, List.all_cons, id_eq, rising]
    rw [← q, List.all_map, List.all_map]
    rfl
abbrev st__law_rising : Stmt := topS 11
abbrev N__law_rising : List Str := ["_law_row_here", "_law_k"]
theorem sc__law_rising : FnScope N__law_rising ["_law_row_here"] (defScope st__law_rising) := ⟨rfl, rfl, rfl, by decide +kernel, rfl, by decide +kernel, by decide +kernel⟩
theorem start__law_rising (x0 : D) : startD N__law_rising [x0] = [some x0, none] := rfl
theorem ok_rising {f : Addr} {fd : FuncData} (F : Fun K "_law_rising" "_law_rising" st__law_rising f fd) (g : mg "_law_rising" = some (.ref f)) (b : Binds K fd ["_law_row_here"] []) (B : Bi mg) : Fn P w K mg base 1 "_law_rising" spRising := by
  refine fn_mk F sc__law_rising g b (fun ds W R h => by obtain ⟨a, _, rfl, _⟩ := h; rfl) fun cdv A outer s H E hr => ⟨_, 
      (s_one (s_ret (d_callB (cr_all rfl) cd_all B.all (by decide +kernel) (da_cons (d_lc rfl sc__law_rising.nd (i_rng1 B.range (da_cons (d_sub (d_len B.len (da_cons (d_var 0) da_nil)) d_int) da_nil)) (blkOk_by (own := [("_law_k", 1)]) (N := N__law_rising) (sc := defScope st__law_rising) (by decide +kernel)) (fun _ _ _ _ _ => (g_name (i := 1) sc__law_rising.nd rfl (by first | exact .inl rfl | exact .inr rfl) (fun _ h => by cases h; decide))) (fun _ _ _ _ _ => ts_nil) (fun _ _ _ _ _ => (d_cmp op_lt od_lt (d_ix (d_var 0) (d_var 1)) (d_ix (d_var 0) (d_add (d_var 1) d_int)) (nomark _)))) da_nil)))), fun ds W R h => ?_⟩
  obtain ⟨l, ns, rfl, hl, hz, q⟩ := h
  rw [start__law_rising]
  refine E_start ?_
  repeat walk_at "d1"
  have hlen : (↑(List.map D.int ns).length : Int) = (ns.length : Int) := by rw [List.length_map]
  refine ⟨_, rfl, by omega, by omega, fun L hL => ?_⟩
  have hn : ((↑(List.map D.int ns).length : Int) - 1).toNat = ns.length - 1 := by omega
  rw [hn]
  refine comp_map (fun d => match d with | .int k => .bl (decide (ns.getD k.toNat 0 < ns.getD (k.toNat + 1) 0)) | _ => .non) hL ?_ (fun _ => trivial) ?_ ?_
  · rw [rngD, List.length_map, List.length_range, sz_eq]; omega
  · intro x hx W' hs Q' q'
    obtain ⟨k, hk, rfl⟩ := rngD_mem hx
    have hl' := hs _ _ hl
    repeat walk_at "d1"
    refine OptD.at (by omega) (by omega) fun j hj e => ?_
    repeat walk_at "d1"
    refine OptD.at (by omega) (by omega) fun j2 hj2 e2 => ?_
    repeat walk_at "d1"
    rw [List.getElem_map, List.getElem_map]
    repeat walk_at "d1"
    obtain rfl : j = k := by omega
    obtain rfl : j2 = j + 1 := by omega
    have e3 : ns[j]'(by simpa using hj) = ns.getD ((j : Nat) : Int).toNat 0 := by
      rw [Int.toNat_natCast, List.getD_eq_getElem?_getD, List.getElem?_eq_getElem, Option.getD_some]
    have e4 : ns[j + 1]'(by simpa using hj2) = ns.getD (((j : Nat) : Int).toNat + 1) 0 := by
      rw [Int.toNat_natCast, List.getD_eq_getElem?_getD, List.getElem?_eq_getElem, Option.getD_some]
    rw [e3, e4]
    exact q'
  · repeat walk_at "d1"
    refine ⟨L, (List.range (ns.length - 1)).map fun k => decide (ns.getD k 0 < ns.getD (k + 1) 0), rfl, .inl ?_, ?_⟩
    · rw [wset_same, rngD_map, List.map_map]
      rfl
    · rw [rising_all]
      exact ⟨_, Sub.new hL, q⟩
end
end K51

namespace K51
open PySem PySem.Spec L2 RZ DL
open PyProof.Rows hiding St
local macro_rules | `(tactic| walk_at "d1") => `(tactic| (first
  | with_reducible refine E_seq ?_ | with_reducible refine E_ifS ?_ | with_reducible refine E_ret ?_ | with_reducible refine E_retN ?_ | with_reducible refine E_asg ?_ | with_reducible refine E_drop ?_ | with_reducible refine E_next ?_ | with_reducible refine E_cont ?_ | with_reducible refine E_break ?_
  | with_reducible refine E_not ?_ | with_reducible refine E_truth ?_ | with_reducible refine E_and ?_ | with_reducible refine E_or ?_ | with_reducible refine E_test ?_ | with_reducible refine E_yes ?_ | with_reducible refine E_andV ?_ | with_reducible refine E_orV ?_ | with_reducible refine E_notV ?_ | with_reducible refine E_if ?_
  | with_reducible refine E_op ?_ | with_reducible refine E_un ?_ | with_reducible refine E_chain ?_ | with_reducible refine E_var rfl ?_ | with_reducible refine E_c ?_ | with_reducible refine E_cb ?_ | with_reducible refine E_call ?_ | with_reducible refine E_cons ?_ | with_reducible refine E_nil ?_
  | with_reducible refine E_tup ?_ | with_reducible refine E_lst ?_ | with_reducible refine E_sl ?_ | with_reducible refine E_part ?_ | with_reducible refine E_no ?_ | with_reducible refine E_ml ?_ | with_reducible refine E_bits ?_ | with_reducible refine E_rev ?_
  | with_reducible refine E_gN ?_ | with_reducible refine E_gT rfl ?_ | with_reducible refine E_gsC ?_ | with_reducible refine E_gsN ?_ | with_reducible refine E_gIx ?_ | with_reducible refine E_for ?_ | with_reducible refine E_lc ?_
  | with_reducible refine E_dget ?_ | with_reducible refine E_din ?_ | with_reducible refine E_dput ?_ | with_reducible refine E_dpop ?_ | with_reducible refine E_nget ?_ | with_reducible refine E_nin ?_ | with_reducible refine E_nput ?_
  | with_reducible refine E_aug rfl ?_ | with_reducible refine E_augIx ?_ | with_reducible refine E_iSeq ?_ | with_reducible refine E_iRg1 ?_ | with_reducible refine E_iZipT ?_
  | with_reducible refine E_I0 ?_ | with_reducible refine E_bl ?_ | with_reducible refine E_tbl ?_ | with_reducible refine E_int ?_ | with_reducible refine E_mlA (by assumption) ?_ | with_reducible refine E_ref ?_ | with_reducible refine E_slT ?_ | with_reducible refine E_lenT ?_ | with_reducible refine E_int1 ?_ | with_reducible refine E_int1b ?_ | with_reducible refine E_abs ?_
  | ((with_reducible refine E_I ?_ ?_); focus (first | assumption | exact Or.inl ⟨by decide, by decide⟩ | exact Or.inr ⟨by decide, by decide⟩ | exact ⟨by decide, by decide, by decide⟩ | exact ⟨by decide, by decide⟩ | exact pow_posI _ | (show (0 : Int) < _; decide) | (show (0 : Int) ≤ _; decide))) | with_reducible refine E_lenL (by assumption) ?_
  | with_reducible refine E_ixL (by assumption) ?_ | with_reducible refine E_ixT ?_ | with_reducible refine OptD.mk rfl ?_))
/-- the truths of valuation k -/
def truthsD (m k : Nat) : List D := (List.range m).map fun j => .bl (k.testBit (m - 1 - j))
def rowsD (m : Nat) : List D := (List.range (2 ^ m)).map fun k => .tup (truthsD m k)
def spVal : SpD := fun ds W R => ∃ m : Nat, ds = [.int (m : Int)] ∧ m ≤ 10 ∧ ∀ p, W p = none → R (.ref p) (wset W p (.lst (rowsD m)))
theorem bit_eq (k n : Nat) : PyData.eqv (.int (Builtin.bitAnd ((k : Int) / 2 ^ n) 1)) (.int 1) = k.testBit n := by
  have e : ((k : Int) / 2 ^ n) % 2 = ((k / 2 ^ n % 2 : Nat) : Int) := by
    have : ((2 : Int) ^ n) = ((2 ^ n : Nat) : Int) := by rw [Int.natCast_pow]; rfl
    rw [this, ← Int.natCast_ediv]
    omega
  rw [bitAnd_m1, e, Nat.testBit_eq_decide_div_mod_eq]
  simp only [PyData.eqv]
  by_cases h : k / 2 ^ n % 2 = 1
  · rw [h]; rfl
  · have h0 : k / 2 ^ n % 2 = 0 := by omega
    rw [h0]; rfl
section
variable {P : Program} {w : World} {K : Frag} {mg : Str → Option Value} {base : Heap}
abbrev st__law_valuations : Stmt := topS 12
abbrev N__law_valuations : List Str := ["_law_many", "_law_j", "_law_k"]
theorem sc__law_valuations : FnScope N__law_valuations ["_law_many"] (defScope st__law_valuations) := ⟨rfl, rfl, rfl, by decide +kernel, rfl, by decide +kernel, by decide +kernel⟩
theorem start__law_valuations (x0 : D) : startD N__law_valuations [x0] = [some x0, none, none] := rfl
theorem ok_val {f : Addr} {fd : FuncData} (F : Fun K "_law_valuations" "_law_valuations" st__law_valuations f fd) (g : mg "_law_valuations" = some (.ref f)) (b : Binds K fd ["_law_many"] []) (B : Bi mg) : Fn P w K mg base 1 "_law_valuations" spVal := by
  refine fn_mk F sc__law_valuations g b (fun ds W R h => by obtain ⟨a, rfl, _⟩ := h; rfl) fun cdv A outer s H E hr => ⟨_, 
      (s_one (s_ret (d_lc rfl sc__law_valuations.nd (i_rng1 B.range (da_cons (d_shl d_int (d_var 0)) da_nil)) (blkOk_by (own := [("_law_k", 2)]) (N := N__law_valuations) (sc := defScope st__law_valuations) (by decide +kernel)) (fun _ _ _ _ _ => (g_name (i := 2) sc__law_valuations.nd rfl (by first | exact .inl rfl | exact .inr rfl) (fun _ h => by cases h; decide))) (fun _ _ _ _ _ => ts_nil) (fun _ _ _ _ _ => (d_callTy call_tupleF cd_tuple B.tuple (by decide +kernel) (da_cons (d_lc rfl sc__law_valuations.nd (i_rng1 B.range (da_cons (d_var 0) da_nil)) (by refine blkOk_by (own := [("_law_j", 1)]) (N := N__law_valuations) (sc := relS _ (defScope st__law_valuations)) ?_; decide +kernel) (fun _ _ _ _ _ => (g_name (i := 1) sc__law_valuations.nd rfl (by first | exact .inl rfl | exact .inr rfl) (fun _ h => by cases h; decide))) (fun _ _ _ _ _ => ts_nil) (fun _ _ _ _ _ => (d_cmp (op_eqD (hr.u 64)) od_eq (d_and (d_shr (d_var 2) (d_sub (d_sub (d_var 0) d_int) (d_var 1))) d_int) d_int (nomark _)))) da_nil)))))), fun ds W R h => ?_⟩
  obtain ⟨m, rfl, hm, q⟩ := h
  rw [start__law_valuations]
  refine E_start ?_
  repeat walk_at "d1"
  have h10 : 2 ^ m ≤ 1024 := Nat.le_trans (Nat.pow_le_pow_right (by decide) hm) (by decide)
  have e2 : ((1 : Int) * 2 ^ (m : Int).toNat) = ((2 ^ m : Nat) : Int) := by rw [Int.one_mul, Int.toNat_natCast, Int.natCast_pow]; rfl
  refine E_I ⟨by omega, by omega, by decide⟩ ?_
  rw [e2]
  repeat walk_at "d1"
  have b1 : (0 : Int) ≤ ((2 ^ m : Nat) : Int) := Int.natCast_nonneg _
  have b2 : ((2 ^ m : Nat) : Int) ≤ 1024 := Int.ofNat_le.mpr h10
  refine ⟨_, rfl, Int.le_trans (by decide) b1, Int.lt_of_le_of_lt b2 (by decide), fun L hL => ?_⟩
  rw [Int.toNat_natCast]
  refine comp_mapX (fun d => match d with | .int k => .tup (truthsD m k.toNat) | _ => .non) hL (by rw [rngD_len, sz_eq]; omega) (fun _ _ => trivial) ?_ ?_
  · intro x hx W' hs Q' q'
    obtain ⟨k, hk, rfl⟩ := rngD_mem hx
    repeat walk_at "d1"
    refine ⟨_, rfl, by omega, by omega, fun L2 hL2 => ?_⟩
    rw [Int.toNat_natCast]
    refine comp_map (fun d => match d with | .int j => .bl (k.testBit (m - 1 - j.toNat)) | _ => .non) hL2 (by rw [rngD_len, sz_eq]; omega) (fun _ => trivial) ?_ ?_
    · intro y hy W2 hs2 Q2 q2
      obtain ⟨j, hj, rfl⟩ := rngD_mem hy
      repeat walk_at "d1"
      refine E_I (show (0 : Int) ≤ (m : Int) - 1 - (j : Int) by omega) ?_
      repeat walk_at "d1"
      have ej : ((m : Int) - 1 - (j : Int)).toNat = m - 1 - j := by omega
      refine ⟨_, _, rfl, rfl, rfl, rfl, ?_⟩
      rw [ej, bit_eq]
      exact q2
    · repeat walk_at "d1"
      refine ⟨_, .inl wset_same, ?_⟩
      rw [rngD_map]
      exact q' _ (Sub.new hL2)
  · intro W' s
    refine ⟨_, s, ?_⟩
    rw [rngD_map]
    exact q L hL
end
end K51

namespace K51
open PySem PySem.Spec L2 RZ DL
open PyProof.Rows hiding St
local macro_rules | `(tactic| walk_at "d1") => `(tactic| (first
  | with_reducible refine E_seq ?_ | with_reducible refine E_ifS ?_ | with_reducible refine E_ret ?_ | with_reducible refine E_retN ?_ | with_reducible refine E_asg ?_ | with_reducible refine E_drop ?_ | with_reducible refine E_next ?_ | with_reducible refine E_cont ?_ | with_reducible refine E_break ?_
  | with_reducible refine E_not ?_ | with_reducible refine E_truth ?_ | with_reducible refine E_and ?_ | with_reducible refine E_or ?_ | with_reducible refine E_test ?_ | with_reducible refine E_yes ?_ | with_reducible refine E_andV ?_ | with_reducible refine E_orV ?_ | with_reducible refine E_notV ?_ | with_reducible refine E_if ?_
  | with_reducible refine E_op ?_ | with_reducible refine E_un ?_ | with_reducible refine E_chain ?_ | with_reducible refine E_var rfl ?_ | with_reducible refine E_c ?_ | with_reducible refine E_cb ?_ | with_reducible refine E_call ?_ | with_reducible refine E_cons ?_ | with_reducible refine E_nil ?_
  | with_reducible refine E_tup ?_ | with_reducible refine E_lst ?_ | with_reducible refine E_sl ?_ | with_reducible refine E_part ?_ | with_reducible refine E_no ?_ | with_reducible refine E_ml ?_ | with_reducible refine E_bits ?_ | with_reducible refine E_rev ?_
  | with_reducible refine E_gN ?_ | with_reducible refine E_gT rfl ?_ | with_reducible refine E_gsC ?_ | with_reducible refine E_gsN ?_ | with_reducible refine E_gIx ?_ | with_reducible refine E_for ?_ | with_reducible refine E_lc ?_
  | with_reducible refine E_dget ?_ | with_reducible refine E_din ?_ | with_reducible refine E_dput ?_ | with_reducible refine E_dpop ?_ | with_reducible refine E_nget ?_ | with_reducible refine E_nin ?_ | with_reducible refine E_nput ?_
  | with_reducible refine E_aug rfl ?_ | with_reducible refine E_augIx ?_ | with_reducible refine E_iSeq ?_ | with_reducible refine E_iRg1 ?_ | with_reducible refine E_iZipT ?_
  | with_reducible refine E_I0 ?_ | with_reducible refine E_bl ?_ | with_reducible refine E_tbl ?_ | with_reducible refine E_int ?_ | with_reducible refine E_mlA (by assumption) ?_ | with_reducible refine E_ref ?_ | with_reducible refine E_slT ?_ | with_reducible refine E_lenT ?_ | with_reducible refine E_iteT ?_ | with_reducible refine E_iteF ?_ | with_reducible refine E_int1 ?_ | with_reducible refine E_int1b ?_ | with_reducible refine E_abs ?_
  | ((with_reducible refine E_I ?_ ?_); focus (first | assumption | exact Or.inl ⟨by decide, by decide⟩ | exact Or.inr ⟨by decide, by decide⟩ | exact ⟨by decide, by decide, by decide⟩ | exact ⟨by decide, by decide⟩ | exact pow_posI _ | (show (0 : Int) < _; decide) | (show (0 : Int) ≤ _; decide))) | with_reducible refine E_lenL (by assumption) ?_
  | with_reducible refine E_ixL (by assumption) ?_ | with_reducible refine E_ixT ?_ | with_reducible refine OptD.mk rfl ?_))
def intsD (ns : List Int) : List D := ns.map .int
theorem intsD_take (ns : List Int) (n : Nat) : (intsD ns).take n = intsD (ns.take n) := List.map_take.symm
theorem intsD_drop (ns : List Int) (n : Nat) : (intsD ns).drop n = intsD (ns.drop n) := List.map_drop.symm
/-- halves that are the same, taken once -/
def shr : Nat → List Int → List Int
  | 0, ns => ns
  | m + 1, ns => if ns.take (2 ^ m) = ns.drop (2 ^ m) then shr m (ns.take (2 ^ m)) else ns
def spShr : SpD := fun ds W R => ∃ (m : Nat) (ns : List Int), ds = [.tup (intsD ns)] ∧ ns.length = 2 ^ m ∧ m ≤ 20 ∧ R (.tup (intsD (shr m ns))) W
theorem pydL_ints : ∀ ns : List Int, pydL (intsD ns) = some (ns.map PyData.int)
  | [] => rfl
  | n :: ns => by
    show (match pyd (.int n), pydL (intsD ns) with | some p, some ps => some (p :: ps) | _, _ => none) = _
    rw [pydL_ints ns]; rfl
theorem canLay_ints : ∀ ns : List Int, PyData.canLayAll0 (ns.map PyData.int) = true
  | [] => rfl
  | n :: ns => by simp only [List.map_cons, PyData.canLayAll0, PyData.canLay0, canLay_ints ns, Bool.and_self]
theorem shaped_ints (ns : List Int) : SeqAt.shaped (.tuple (ns.map PyData.int)) = true := by
  have h1 : PyData.canLay0 (.tuple (ns.map PyData.int)) = true := by rw [PyData.canLay0]; exact canLay_ints ns
  have h2 : PyData.depth (.tuple (ns.map PyData.int)) ≤ 64 := by
    simp only [PyData.depth, PySem.W.ke_depthAll]
    decide
  unfold SeqAt.shaped
  rw [h1, decide_eq_true h2]; rfl
theorem eq_ints {ns ms : List Int} {W : Wd} {Q : DQ} (h : Q (.bl (decide (ns = ms))) W) : fEq (.tup (intsD ns)) (.tup (intsD ms)) W Q := by
  refine ⟨.tuple (ns.map .int), .tuple (ms.map .int), ?_, ?_, shaped_ints ns, shaped_ints ms, ?_⟩
  · simp only [pyd, pydL_ints]; rfl
  · simp only [pyd, pydL_ints]; rfl
  · rw [PyData.eqv, PySem.W.ked_eqvAll]; exact h
/-- pairs of an atom and a truth -/
def pairD (p : Nat × Bool) : D := .tup [.int (p.1 : Int), .bl p.2]
def pairsD (ps : List (Nat × Bool)) : List D := ps.map pairD
def agree (m k : Nat) (ps : List (Nat × Bool)) : Bool := ps.all fun p => k.testBit (m - 1 - p.1) == p.2
def spAgrees : SpD := fun ds W R => ∃ (m k : Nat) (ps : List (Nat × Bool)), ds = [.tup (truthsD m k), .tup (pairsD ps)] ∧ (∀ p ∈ ps, p.1 < m) ∧ ps.length ≤ 1000 ∧ R (.bl (agree m k ps)) W
def spByRules : SpD := fun ds W R => ∃ (l : Addr) (m k : Nat) (o K : Int) (rs : List D), ds = [.ref l, .tup (truthsD m k), .int o] ∧ W l = some (.lst rs) ∧ 0 ≤ o ∧ o < K ∧
  (∀ r ∈ rs, ∃ ps n, r = .tup [.tup (pairsD ps), .int n] ∧ (∀ p ∈ ps, p.1 < m) ∧ ps.length ≤ 1000 ∧ 0 ≤ n ∧ n < K) ∧ ∀ n, 0 ≤ n → n < K → R (.int n) W
def spWithout : SpD := fun ds W R => ∃ (ps : List (Nat × Bool)) (a : Nat), ds = [.tup (pairsD ps), .int (a : Int)] ∧ ps.length ≤ 1000 ∧ R (.tup (pairsD (ps.filter fun p => p.1 != a))) W
section
variable {P : Program} {w : World} {K : Frag} {mg : Str → Option Value} {base : Heap}
abbrev st__law_shrunk : Stmt := topS 13
abbrev N__law_shrunk : List Str := ["_law_row_here", "_law_half"]
theorem sc__law_shrunk : FnScope N__law_shrunk ["_law_row_here"] (defScope st__law_shrunk) := ⟨rfl, rfl, rfl, by decide +kernel, rfl, by decide +kernel, by decide +kernel⟩
theorem start__law_shrunk (x0 : D) : startD N__law_shrunk [x0] = [some x0, none] := rfl
theorem ok_shr {f : Addr} {fd : FuncData} (F : Fun K "_law_shrunk" "_law_shrunk" st__law_shrunk f fd) (g : mg "_law_shrunk" = some (.ref f)) (b : Binds K fd ["_law_row_here"] []) (B : Bi mg) : Fn P w K mg base 1 "_law_shrunk" spShr := by
  refine fn_mk F sc__law_shrunk g b (fun ds W R h => by obtain ⟨a, _, rfl, _⟩ := h; rfl) fun cdv A outer s H E hr => ⟨_, 
      (s_cons (s_set (i := 1) sc__law_shrunk.nd rfl (by first | exact .inl rfl | exact .inr rfl) (d_fdiv (d_len B.len (da_cons (d_var 0) da_nil)) d_int))
      (s_cons (s_while PassesOwn.never (PW.pt (w_and (d_cmpT op_gt od_gt (d_var 1) d_int (nomark _)) (w_and1 (d_cmpT (op_eqD (hr.u 64)) od_eq (d_slice (d_var 0) do_no (do_some (d_var 1))) (d_slice (d_var 0) (do_some (d_var 1)) do_no) (nomark _))))) (s_cons (s_set (i := 0) sc__law_shrunk.nd rfl (by first | exact .inl rfl | exact .inr rfl) (d_slice (d_var 0) do_no (do_some (d_var 1))))
      (s_one (s_set (i := 1) sc__law_shrunk.nd rfl (by first | exact .inl rfl | exact .inr rfl) (d_fdiv (d_var 1) d_int)))))
      (s_one (s_ret (d_var 0))))), fun ds W R h => ?_⟩
  obtain ⟨m, ns, rfl, hl, hm, q⟩ := h
  rw [start__law_shrunk]
  refine E_start ?_
  repeat walk_at "d1"
  have e0 : ∀ (j : Nat) (ns : List Int), ns.length = 2 ^ j → (((intsD ns).length : Nat) : Int) / 2 = ((2 ^ j / 2 : Nat) : Int) := fun j ns h => by
    rw [intsD, List.length_map, h]
    exact (Int.natCast_ediv (2 ^ j) 2).symm
  rw [e0 m ns hl]
  refine E_while (I := fun j ρ W' => W' = W ∧ ∃ ns2, ρ = [some (.tup (intsD ns2)), some (.int ((2 ^ j / 2 : Nat) : Int))] ∧ ns2.length = 2 ^ j ∧ shr j ns2 = shr m ns) (m := m) ⟨rfl, ns, rfl, hl, rfl⟩ ?_
  rintro j ρ W' ⟨rfl, ns2, rfl, hl2, hs⟩
  repeat walk_at "d1"
  refine E_dec (fun h0 => ?_) (fun h0 => ?_)
  · obtain ⟨j, rfl⟩ : ∃ i, j = i + 1 := by
      cases j with
      | zero => exact absurd h0 (by decide)
      | succ j => exact ⟨j, rfl⟩
    have e1 : 2 ^ (j + 1) / 2 = 2 ^ j := by rw [Nat.pow_succ, Nat.mul_div_cancel _ (by decide)]
    rw [e1]
    repeat walk_at "d1"
    rw [cut_to, cut_from, intsD_take, intsD_drop]
    refine eq_ints ?_
    repeat walk_at "d1"
    refine E_dec (fun h1 => ?_) (fun h1 => ?_)
    · repeat walk_at "d1"
      rw [cut_to, intsD_take]
      have hl3 : (ns2.take (2 ^ j)).length = 2 ^ j := by rw [List.length_take, hl2, Nat.pow_succ]; omega
      refine ⟨j, by omega, rfl, ns2.take (2 ^ j), ?_, hl3, ?_⟩
      · have : ((2 ^ j : Nat) : Int) / 2 = ((2 ^ j / 2 : Nat) : Int) := (Int.natCast_ediv (2 ^ j) 2).symm
        rw [this]
        rfl
      · rw [← hs, shr, if_pos h1]
    · repeat walk_at "d1"
      rw [shr, if_neg h1] at hs
      rw [← hs] at q
      exact E_end q
  · repeat walk_at "d1"
    have hj : j = 0 := by
      cases j with
      | zero => rfl
      | succ j =>
        exfalso
        apply h0
        have e1 : 2 ^ (j + 1) / 2 = 2 ^ j := by rw [Nat.pow_succ, Nat.mul_div_cancel _ (by decide)]
        rw [e1]
        exact Int.natCast_pos.mpr (Nat.two_pow_pos j)
    subst hj
    rw [shr] at hs
    rw [← hs] at q
    exact E_end q
end
end K51

namespace K51
open PySem PySem.Spec L2 RZ DL
open PyProof.Rows hiding St
local macro_rules | `(tactic| walk_at "d1") => `(tactic| (first
  | with_reducible refine E_seq ?_ | with_reducible refine E_ifS ?_ | with_reducible refine E_ret ?_ | with_reducible refine E_retN ?_ | with_reducible refine E_asg ?_ | with_reducible refine E_drop ?_ | with_reducible refine E_next ?_ | with_reducible refine E_cont ?_ | with_reducible refine E_break ?_
  | with_reducible refine E_not ?_ | with_reducible refine E_truth ?_ | with_reducible refine E_and ?_ | with_reducible refine E_or ?_ | with_reducible refine E_test ?_ | with_reducible refine E_yes ?_ | with_reducible refine E_andV ?_ | with_reducible refine E_orV ?_ | with_reducible refine E_notV ?_ | with_reducible refine E_if ?_
  | with_reducible refine E_op ?_ | with_reducible refine E_un ?_ | with_reducible refine E_chain ?_ | with_reducible refine E_var rfl ?_ | with_reducible refine E_c ?_ | with_reducible refine E_cb ?_ | with_reducible refine E_call ?_ | with_reducible refine E_cons ?_ | with_reducible refine E_nil ?_
  | with_reducible refine E_tup ?_ | with_reducible refine E_lst ?_ | with_reducible refine E_sl ?_ | with_reducible refine E_part ?_ | with_reducible refine E_no ?_ | with_reducible refine E_ml ?_ | with_reducible refine E_bits ?_ | with_reducible refine E_rev ?_
  | with_reducible refine E_gN ?_ | with_reducible refine E_gT rfl ?_ | with_reducible refine E_gsC ?_ | with_reducible refine E_gsN ?_ | with_reducible refine E_gIx ?_ | with_reducible refine E_for ?_ | with_reducible refine E_lc ?_
  | with_reducible refine E_dget ?_ | with_reducible refine E_din ?_ | with_reducible refine E_dput ?_ | with_reducible refine E_dpop ?_ | with_reducible refine E_nget ?_ | with_reducible refine E_nin ?_ | with_reducible refine E_nput ?_
  | with_reducible refine E_aug rfl ?_ | with_reducible refine E_augIx ?_ | with_reducible refine E_iSeq ?_ | with_reducible refine E_iRg1 ?_ | with_reducible refine E_iZipT ?_
  | with_reducible refine E_I0 ?_ | with_reducible refine E_bl ?_ | with_reducible refine E_tbl ?_ | with_reducible refine E_int ?_ | with_reducible refine E_mlA (by assumption) ?_ | with_reducible refine E_ref ?_ | with_reducible refine E_slT ?_ | with_reducible refine E_lenT ?_ | with_reducible refine E_iteT ?_ | with_reducible refine E_iteF ?_ | with_reducible refine E_int1 ?_ | with_reducible refine E_int1b ?_ | with_reducible refine E_abs ?_
  | ((with_reducible refine E_I ?_ ?_); focus (first | assumption | exact Or.inl ⟨by decide, by decide⟩ | exact Or.inr ⟨by decide, by decide⟩ | exact ⟨by decide, by decide, by decide⟩ | exact ⟨by decide, by decide⟩ | exact pow_posI _ | (show (0 : Int) < _; decide) | (show (0 : Int) ≤ _; decide))) | with_reducible refine E_lenL (by assumption) ?_
  | with_reducible refine E_ixL (by assumption) ?_ | with_reducible refine E_ixT ?_ | with_reducible refine OptD.mk rfl ?_))
theorem pairsD_len (ps : List (Nat × Bool)) : (pairsD ps).length = ps.length := List.length_map ..
theorem pairsD_mem {ps : List (Nat × Bool)} {x : D} (h : x ∈ pairsD ps) : ∃ p ∈ ps, x = pairD p := by
  obtain ⟨p, h1, rfl⟩ := List.mem_map.mp h
  exact ⟨p, h1, rfl⟩
theorem truthsD_at {m k a : Nat} (h : a < m) : atI (truthsD m k) (a : Int) = some (.bl (k.testBit (m - 1 - a))) := by
  rw [atI_n, truthsD, List.getElem?_map, List.getElem?_range h]; rfl
section
variable {P : Program} {w : World} {K : Frag} {mg : Str → Option Value} {base : Heap}
abbrev st__law_agrees : Stmt := topS 18
abbrev N__law_agrees : List Str := ["_law_truths", "_law_pairs_here", "_law_pair"]
theorem sc__law_agrees : FnScope N__law_agrees ["_law_truths", "_law_pairs_here"] (defScope st__law_agrees) := ⟨rfl, rfl, rfl, by decide +kernel, rfl, by decide +kernel, by decide +kernel⟩
theorem start__law_agrees (x0 x1 : D) : startD N__law_agrees [x0, x1] = [some x0, some x1, none] := rfl
theorem ok_agrees {f : Addr} {fd : FuncData} (F : Fun K "_law_agrees" "_law_agrees" st__law_agrees f fd) (g : mg "_law_agrees" = some (.ref f)) (b : Binds K fd ["_law_truths", "_law_pairs_here"] []) (B : Bi mg) : Fn P w K mg base 1 "_law_agrees" spAgrees := by
  refine fn_mk F sc__law_agrees g b (fun ds W R h => by obtain ⟨a, _, _, rfl, _⟩ := h; rfl) fun cdv A outer s H E hr => ⟨_, 
      (s_one (s_ret (d_callB (cr_all rfl) cd_all B.all (by decide +kernel) (da_cons (d_lc rfl sc__law_agrees.nd (i_seq (d_var 1)) (blkOk_by (own := [("_law_pair", 2)]) (N := N__law_agrees) (sc := defScope st__law_agrees) (by decide +kernel)) (fun _ _ _ _ _ => (g_name (i := 2) sc__law_agrees.nd rfl (by first | exact .inl rfl | exact .inr rfl) (fun _ h => by cases h; decide))) (fun _ _ _ _ _ => ts_nil) (fun _ _ _ _ _ => (d_cmp (op_eqD (hr.u 64)) od_eq (d_ix (d_var 0) (d_ix (d_var 2) d_int)) (d_ix (d_var 2) d_int) (nomark _)))) da_nil)))), fun ds W R h => ?_⟩
  obtain ⟨m, k, ps, rfl, hp, hz, q⟩ := h
  rw [start__law_agrees]
  refine E_start ?_
  repeat walk_at "d1"
  intro L hL
  refine comp_map (fun d => match d with | .tup [.int a, .bl b] => .bl (k.testBit (m - 1 - a.toNat) == b) | _ => .non) hL (by rw [pairsD_len, sz_eq]; omega) (fun _ => trivial) ?_ ?_
  · intro x hx W' hs Q' q'
    obtain ⟨⟨a, t⟩, hm, rfl⟩ := pairsD_mem hx
    have ha := hp _ hm
    repeat walk_at "d1"
    refine OptD.mk rfl ?_
    repeat walk_at "d1"
    refine OptD.mk (truthsD_at ha) ?_
    repeat walk_at "d1"
    refine OptD.mk rfl ?_
    repeat walk_at "d1"
    refine ⟨_, _, rfl, rfl, rfl, rfl, ?_⟩
    simp only [PyData.eqv]
    exact q'
  · repeat walk_at "d1"
    refine ⟨L, ps.map fun p => k.testBit (m - 1 - p.1) == p.2, rfl, .inl ?_, ?_⟩
    · rw [wset_same, pairsD, List.map_map, List.map_map]
      rfl
    · rw [List.all_map]
      exact ⟨_, Sub.new hL, q⟩
abbrev st__law_by_rules : Stmt := topS 19
abbrev N__law_by_rules : List Str := ["_law_rules", "_law_truths", "_law_otherwise", "_law_pairs_here", "_law_number"]
theorem sc__law_by_rules : FnScope N__law_by_rules ["_law_rules", "_law_truths", "_law_otherwise"] (defScope st__law_by_rules) := ⟨rfl, rfl, rfl, by decide +kernel, rfl, by decide +kernel, by decide +kernel⟩
theorem start__law_by_rules (x0 x1 x2 : D) : startD N__law_by_rules [x0, x1, x2] = [some x0, some x1, some x2, none, none] := rfl
theorem ok_by_rules {f : Addr} {fd : FuncData} (F : Fun K "_law_by_rules" "_law_by_rules" st__law_by_rules f fd) (g : mg "_law_by_rules" = some (.ref f)) (b : Binds K fd ["_law_rules", "_law_truths", "_law_otherwise"] []) (B : Bi mg) (F__law_agrees : Fn P w K mg base 1 "_law_agrees" spAgrees) : Fn P w K mg base 2 "_law_by_rules" spByRules := by
  refine fn_mk F sc__law_by_rules g b (fun ds W R h => by obtain ⟨a, _, _, _, _, _, rfl, _⟩ := h; rfl) fun cdv A outer s H E hr => ⟨_, 
      (s_cons (s_for PassesOwn.never rfl (i_seq (d_var 0)) (g_tup (n := 2) rfl (gs_cons (g_name (i := 3) sc__law_by_rules.nd rfl (by first | exact .inl rfl | exact .inr rfl) (fun _ h => nomatch h)) (gs_cons (g_name (i := 4) sc__law_by_rules.nd rfl (by first | exact .inl rfl | exact .inr rfl) (fun _ h => nomatch h)) gs_nil))) (s_one (s_if (d_truth (d_call F__law_agrees (hr.mono (by decide)) (da_cons (d_var 1) (da_cons (d_var 3) da_nil)))) (s_one (s_ret (d_var 4))) s_nil)))
      (s_one (s_ret (d_var 2)))), fun ds W R h => ?_⟩
  obtain ⟨l, m, k, o, N, rs, rfl, hl, h0, h1, hr, q⟩ := h
  rw [start__law_by_rules]
  refine E_start ?_
  repeat walk_at "d1"
  refine ⟨rs, .inl hl, ?_⟩
  refine loop_ind (fun rest ρ W' => W' = W ∧ (∀ r ∈ rest, r ∈ rs) ∧ ∃ o3 o4, ρ = [some (.ref l), some (.tup (truthsD m k)), some (.int o), o3, o4]) ?_ ?_ _ _ _ ⟨rfl, fun r h => h, none, none, rfl⟩
  · rintro ρ W' ⟨rfl, _, o3, o4, rfl⟩
    refine ⟨.inl hl, ?_⟩
    repeat walk_at "d1"
    exact E_end (q _ h0 h1)
  · rintro x rest N' hN ρ W' ⟨rfl, hm, o3, o4, rfl⟩
    refine ⟨.inl hl, ?_⟩
    obtain ⟨ps, n, rfl, hp, hz, hn0, hn1⟩ := hr _ (hm _ (List.mem_cons_self ..))
    repeat walk_at "d1"
    refine ⟨m, k, ps, rfl, hp, hz, ?_⟩
    repeat walk_at "d1"
    refine E_ite (fun _ => ?_) (fun _ => ?_)
    · repeat walk_at "d1"
      exact E_end (q _ hn0 hn1)
    · repeat walk_at "d1"
      exact hN _ _ ⟨rfl, fun r h => hm r (List.mem_cons_of_mem _ h), _, _, rfl⟩
abbrev st__law_without : Stmt := topS 23
abbrev N__law_without : List Str := ["_law_pairs_here", "_law_atom", "_law_pair"]
theorem sc__law_without : FnScope N__law_without ["_law_pairs_here", "_law_atom"] (defScope st__law_without) := ⟨rfl, rfl, rfl, by decide +kernel, rfl, by decide +kernel, by decide +kernel⟩
theorem start__law_without (x0 x1 : D) : startD N__law_without [x0, x1] = [some x0, some x1, none] := rfl
theorem ok_without {f : Addr} {fd : FuncData} (F : Fun K "_law_without" "_law_without" st__law_without f fd) (g : mg "_law_without" = some (.ref f)) (b : Binds K fd ["_law_pairs_here", "_law_atom"] []) (B : Bi mg) : Fn P w K mg base 1 "_law_without" spWithout := by
  refine fn_mk F sc__law_without g b (fun ds W R h => by obtain ⟨a, _, rfl, _⟩ := h; rfl) fun cdv A outer s H E hr => ⟨_, 
      (s_one (s_ret (d_callTy call_tupleF cd_tuple B.tuple (by decide +kernel) (da_cons (d_lc rfl sc__law_without.nd (i_seq (d_var 0)) (blkOk_by (own := [("_law_pair", 2)]) (N := N__law_without) (sc := defScope st__law_without) (by decide +kernel)) (fun _ _ _ _ _ => (g_name (i := 2) sc__law_without.nd rfl (by first | exact .inl rfl | exact .inr rfl) (fun _ h => by cases h; decide))) (fun _ _ _ _ _ => (ts_one (d_cmpT (op_neD (hr.u 64)) od_ne (d_ix (d_var 2) d_int) (d_var 1) (nomark _)))) (fun _ _ _ _ _ => (d_var 2))) da_nil)))), fun ds W R h => ?_⟩
  obtain ⟨ps, a, rfl, hz, q⟩ := h
  rw [start__law_without]
  refine E_start ?_
  repeat walk_at "d1"
  intro L hL
  refine comp_filter (fun d => match d with | .tup [.int x, .bl _] => x.toNat != a | _ => false) id hL (by rw [pairsD_len, sz_eq]; omega) (fun _ => trivial) ?_ ?_
  · intro x hx W' hs Q1 Q2 q1 q2
    obtain ⟨⟨x, t⟩, hm, rfl⟩ := pairsD_mem hx
    repeat walk_at "d1"
    refine OptD.mk rfl ?_
    repeat walk_at "d1"
    refine ⟨_, _, rfl, rfl, rfl, rfl, ?_⟩
    have e : (!PyData.eqv (.int (x : Int)) (.int (a : Int))) = (x != a) := by
      have e1 : ((x : Int) == (a : Int)) = (x == a) := by
        rw [Bool.eq_iff_iff]
        simp only [beq_iff_eq]
        omega
      simp only [PyData.eqv, e1]
      rfl
    rw [e]
    repeat walk_at "d1"
    refine E_ite (fun h => ?_) (fun h => ?_)
    · repeat walk_at "d1"
      exact q1 h
    · exact q2 h
  · repeat walk_at "d1"
    refine ⟨_, .inl wset_same, ?_⟩
    rw [List.map_id, pairsD, List.filter_map]
    repeat walk_at "d1"
    exact ⟨_, Sub.new hL, q⟩
end
end K51

namespace K51
open PySem PySem.Spec L2 RZ DL
open PyProof.Rows hiding St
local macro_rules | `(tactic| walk_at "d1") => `(tactic| (first
  | with_reducible refine E_seq ?_ | with_reducible refine E_ifS ?_ | with_reducible refine E_ret ?_ | with_reducible refine E_retN ?_ | with_reducible refine E_asg ?_ | with_reducible refine E_drop ?_ | with_reducible refine E_next ?_ | with_reducible refine E_cont ?_ | with_reducible refine E_break ?_
  | with_reducible refine E_not ?_ | with_reducible refine E_truth ?_ | with_reducible refine E_and ?_ | with_reducible refine E_or ?_ | with_reducible refine E_test ?_ | with_reducible refine E_yes ?_ | with_reducible refine E_andV ?_ | with_reducible refine E_orV ?_ | with_reducible refine E_notV ?_ | with_reducible refine E_if ?_
  | with_reducible refine E_op ?_ | with_reducible refine E_un ?_ | with_reducible refine E_chain ?_ | with_reducible refine E_var rfl ?_ | with_reducible refine E_c ?_ | with_reducible refine E_cb ?_ | with_reducible refine E_call ?_ | with_reducible refine E_cons ?_ | with_reducible refine E_nil ?_
  | with_reducible refine E_tup ?_ | with_reducible refine E_lst ?_ | with_reducible refine E_sl ?_ | with_reducible refine E_part ?_ | with_reducible refine E_no ?_ | with_reducible refine E_ml ?_ | with_reducible refine E_bits ?_ | with_reducible refine E_rev ?_
  | with_reducible refine E_gN ?_ | with_reducible refine E_gT rfl ?_ | with_reducible refine E_gsC ?_ | with_reducible refine E_gsN ?_ | with_reducible refine E_gIx ?_ | with_reducible refine E_for ?_ | with_reducible refine E_lc ?_
  | with_reducible refine E_dget ?_ | with_reducible refine E_din ?_ | with_reducible refine E_dput ?_ | with_reducible refine E_dpop ?_ | with_reducible refine E_nget ?_ | with_reducible refine E_nin ?_ | with_reducible refine E_nput ?_
  | with_reducible refine E_aug rfl ?_ | with_reducible refine E_augIx ?_ | with_reducible refine E_iSeq ?_ | with_reducible refine E_iRg1 ?_ | with_reducible refine E_iZipT ?_
  | with_reducible refine E_I0 ?_ | with_reducible refine E_bl ?_ | with_reducible refine E_tbl ?_ | with_reducible refine E_int ?_ | with_reducible refine E_mlA (by assumption) ?_ | with_reducible refine E_ref ?_ | with_reducible refine E_slT ?_ | with_reducible refine E_lenT ?_ | with_reducible refine E_iteT ?_ | with_reducible refine E_iteF ?_ | with_reducible refine E_int1 ?_ | with_reducible refine E_int1b ?_ | with_reducible refine E_abs ?_
  | ((with_reducible refine E_I ?_ ?_); focus (first | assumption | exact Or.inl ⟨by decide, by decide⟩ | exact Or.inr ⟨by decide, by decide⟩ | exact ⟨by decide, by decide, by decide⟩ | exact ⟨by decide, by decide⟩ | exact pow_posI _ | (show (0 : Int) < _; decide) | (show (0 : Int) ≤ _; decide))) | with_reducible refine E_lenL (by assumption) ?_
  | with_reducible refine E_ixL (by assumption) ?_ | with_reducible refine E_ixT ?_ | with_reducible refine OptD.mk rfl ?_))
def spPairs : SpD := fun ds W R => ∃ (a : Addr) (m : Nat) (s : Int), ds = [.ref a, .int (m : Int), .int s] ∧ m ≤ 10 ∧ 0 < s ∧ s < 1073741824 ∧ Draws W a ∧
  ∀ ps W', (∀ p ∈ ps, p.1 < m) → ps.length ≤ m → DrawX a W W' → R (.tup (pairsD ps)) W'
theorem rngD_get {m i : Nat} (h : i < (rngD 0 m).length) : (rngD 0 m)[i] = .int (i : Int) := by
  simp [rngD]
def toPair : D → Option (Nat × Bool)
  | .tup [.int i, .bl b] => if 0 ≤ i then some (i.toNat, b) else none
  | _ => none
def toPairs : List D → Option (List (Nat × Bool))
  | [] => some []
  | d :: ds => match toPair d, toPairs ds with
    | some p, some ps => some (p :: ps)
    | _, _ => none
theorem toPair_D (p : Nat × Bool) : toPair (pairD p) = some p := by
  show (if 0 ≤ (p.1 : Int) then some ((p.1 : Int).toNat, p.2) else none) = some p
  rw [if_pos (by omega), Int.toNat_natCast]
theorem toPairs_D : ∀ ps, toPairs (pairsD ps) = some ps
  | [] => rfl
  | p :: ps => by
    show (match toPair (pairD p), toPairs (pairsD ps) with | some p, some ps => some (p :: ps) | _, _ => none) = _
    rw [toPair_D, toPairs_D ps]
theorem toPair_some {d : D} {p : Nat × Bool} (h : toPair d = some p) : d = pairD p := by
  unfold toPair at h
  split at h
  · split at h
    · cases h
      rename_i i b h0
      show D.tup [.int i, .bl b] = .tup [.int ((i.toNat : Nat) : Int), .bl b]
      rw [Int.toNat_of_nonneg h0]
    · cases h
  · cases h
theorem toPairs_some : ∀ {ds : List D} {ps : List (Nat × Bool)}, toPairs ds = some ps → ds = pairsD ps
  | [], ps, h => by cases h; rfl
  | d :: ds, ps, h => by
    unfold toPairs at h
    cases h1 : toPair d with
    | none => rw [h1] at h; cases h
    | some p =>
      cases h2 : toPairs ds with
      | none => rw [h1, h2] at h; cases h
      | some qs =>
        rw [h1, h2] at h
        cases h
        rw [toPair_some h1, toPairs_some h2]; rfl
theorem toPairs_app : ∀ {ds es : List D} {ps : List (Nat × Bool)}, toPairs ds = some ps → toPairs (ds ++ es) = (toPairs es).map fun qs => ps ++ qs
  | [], es, ps, h => by
    cases h
    show toPairs es = (toPairs es).map fun qs => [] ++ qs
    cases toPairs es <;> rfl
  | d :: ds, es, ps, h => by
    unfold toPairs at h
    cases h1 : toPair d with
    | none => rw [h1] at h; cases h
    | some p =>
      cases h2 : toPairs ds with
      | none => rw [h1, h2] at h; cases h
      | some qs =>
        rw [h1, h2] at h
        cases h
        show (match toPair d, toPairs (ds ++ es) with | some p, some ps => some (p :: ps) | _, _ => none) = _
        rw [h1, toPairs_app h2]
        cases toPairs es <;> rfl
theorem toPairs_bad {done rest : List D} {ps : List (Nat × Bool)} {x : D} (h : toPairs done = some ps) (hx : toPair x = none) : toPairs (done ++ x :: rest) = none := by
  rw [toPairs_app h]
  unfold toPairs
  rw [hx]; rfl
theorem len_ne (n : Nat) : (!PyData.eqv (.int (n : Int)) (.int 2)) = decide (n ≠ 2) := by
  simp only [PyData.eqv]
  rw [Bool.eq_iff_iff]
  simp only [Bool.not_eq_true', decide_eq_true_eq, beq_eq_false_iff_ne]
  omega
theorem len_two {α : Type} {l : List α} (h : l.length = 2) : ∃ u v, l = [u, v] := by
  match l, h with
  | [u, v], _ => exact ⟨u, v, rfl⟩
/-- the law's own word on a tuple of pairs -/
def isPairs (m : Nat) (ds : List D) : Bool := match toPairs ds with
  | some ps => ps.all (fun p => decide (p.1 < m)) && rising (ps.map fun p => (p.1 : Int))
  | none => false
theorem isPairs_high {m : Nat} {xs done rest : List D} {ps : List (Nat × Bool)} {x : D} {p : Nat × Bool} (e : xs = done ++ x :: rest) (h : toPairs done = some ps) (hx : toPair x = some p) (hp : ¬ p.1 < m) : isPairs m xs = false := by
  unfold isPairs
  rw [e, toPairs_app h]
  unfold toPairs
  rw [hx]
  cases q : toPairs rest with
  | none => rfl
  | some qs =>
    show ((ps ++ p :: qs).all (fun p => decide (p.1 < m)) && _) = false
    have : (ps ++ p :: qs).all (fun p => decide (p.1 < m)) = false := by
      rw [List.all_append, List.all_cons, decide_eq_false hp, Bool.false_and, Bool.and_false]
    rw [this, Bool.false_and]
def spIsPairs : SpD := fun ds W R => ∃ (m : Nat) (xs : List D), ds = [.int (m : Int), .tup xs] ∧ (pydL xs).isSome ∧ xs.length ≤ 1000 ∧ R (.bl (isPairs m xs)) W
theorem pydL_mem : ∀ {ds : List D} {x : D}, (pydL ds).isSome → x ∈ ds → (pyd x).isSome
  | d :: ds, x, h, hm => by
    unfold pydL at h
    cases h1 : pyd d with
    | none => rw [h1] at h; cases h
    | some p =>
      cases h2 : pydL ds with
      | none => rw [h1, h2] at h; cases h
      | some ps =>
        rcases List.mem_cons.mp hm with rfl | hm
        · rw [h1]; rfl
        · exact pydL_mem (by rw [h2]; rfl) hm
theorem pyd_plain {d : D} (h : (pyd d).isSome) : plain d = true := by
  cases d <;> first | rfl | (simp only [pyd] at h; cases h)
theorem pyd_tup {xs : List D} (h : (pyd (.tup xs)).isSome) : (pydL xs).isSome := by
  simp only [pyd] at h
  cases q : pydL xs with
  | none => rw [q] at h; cases h
  | some p => rfl
section
variable {P : Program} {w : World} {K : Frag} {mg : Str → Option Value} {base : Heap}
abbrev st__law_pairs : Stmt := topS 17
abbrev N__law_pairs : List Str := ["_law_d", "_law_many", "_law_share", "_law_found", "_law_atom"]
theorem sc__law_pairs : FnScope N__law_pairs ["_law_d", "_law_many", "_law_share"] (defScope st__law_pairs) := ⟨rfl, rfl, rfl, by decide +kernel, rfl, by decide +kernel, by decide +kernel⟩
theorem start__law_pairs (x0 x1 x2 : D) : startD N__law_pairs [x0, x1, x2] = [some x0, some x1, some x2, none, none] := rfl
theorem ok_pairs {f : Addr} {fd : FuncData} (F : Fun K "_law_pairs" "_law_pairs" st__law_pairs f fd) (g : mg "_law_pairs" = some (.ref f)) (b : Binds K fd ["_law_d", "_law_many", "_law_share"] []) (B : Bi mg) (F__law_draw : Fn P w K mg base 1 "_law_draw" spDraw) : Fn P w K mg base 2 "_law_pairs" spPairs := by
  refine fn_mk F sc__law_pairs g b (fun ds W R h => by obtain ⟨a, _, _, rfl, _⟩ := h; rfl) fun cdv A outer s H E hr => ⟨_, 
      (s_cons (s_set (i := 3) sc__law_pairs.nd rfl (by first | exact .inl rfl | exact .inr rfl) (d_lst da_nil))
      (s_cons (s_for PassesOwn.never rfl (i_rng1 B.range (da_cons (d_var 1) da_nil)) (g_name (i := 4) sc__law_pairs.nd rfl (by first | exact .inl rfl | exact .inr rfl) (fun _ h => nomatch h)) (s_one (s_if (d_cmpT (op_eqD (hr.u 64)) od_eq (d_call F__law_draw (hr.mono (by decide)) (da_cons (d_var 0) (da_cons (d_var 2) da_nil))) d_int (nomark _)) (s_one (s_expr (d_append (d_var 3) (da_cons (d_tup (da_cons (d_var 4) (da_cons (d_cmp (op_eqD (hr.u 64)) od_eq (d_call F__law_draw (hr.mono (by decide)) (da_cons (d_var 0) (da_cons d_int da_nil))) d_int (nomark _)) da_nil))) da_nil)))) s_nil)))
      (s_one (s_ret (d_callTy call_tupleF cd_tuple B.tuple (by decide +kernel) (da_cons (d_var 3) da_nil)))))), fun ds W R h => ?_⟩
  obtain ⟨a, m, sh, rfl, hm, h0, h1, hD, q⟩ := h
  rw [start__law_pairs]
  refine E_start ?_
  repeat walk_at "d1"
  refine ⟨Nat.zero_le _, fun L hL => ?_⟩
  repeat walk_at "d1"
  refine ⟨_, rfl, by omega, by omega, ?_⟩
  rw [Int.toNat_natCast]
  refine loop_ind (fun rest ρ W' => ∃ ps o, rest = (rngD 0 m).drop (m - rest.length) ∧ rest.length ≤ m ∧ ρ = [some (.ref a), some (.int (m : Int)), some (.int sh), some (.ref L), o] ∧ W' L = some (.lst (pairsD ps)) ∧ (∀ p ∈ ps, p.1 < m) ∧ ps.length ≤ m - rest.length ∧ DrawX a W W') ?_ ?_ _ _ _
    ⟨[], none, by rw [rngD_len, Nat.sub_self]; rfl, by rw [rngD_len]; omega, rfl, wset_same, (fun p h => nomatch h), Nat.zero_le _, DrawX.new hD hL⟩
  · rintro ρ W' ⟨ps, o, _, _, rfl, hl, hp, hz, x⟩
    refine ⟨trivial, ?_⟩
    repeat walk_at "d1"
    refine ⟨_, .inl hl, ?_⟩
    refine E_end (q ps W' hp (by simpa using hz) x)
  · rintro k rest N hN ρ W' ⟨ps, o, e, hle, rfl, hl, hp, hz, x⟩
    refine ⟨trivial, ?_⟩
    rw [List.length_cons] at e hle hz
    have hk : k = .int ((m - (rest.length + 1) : Nat) : Int) ∧ rest = (rngD 0 m).drop (m - rest.length) := by
      rw [List.drop_eq_getElem_cons (by rw [rngD_len]; omega)] at e
      injection e with e1 e2
      refine ⟨?_, ?_⟩
      · exact e1.trans (rngD_get _)
      · exact e2.trans (by rw [show m - (rest.length + 1) + 1 = m - rest.length by omega])
    obtain ⟨rfl, hrest⟩ := hk
    repeat walk_at "d1"
    refine ⟨a, _, rfl, h0, h1, x.d, fun v W2 _ _ x2 => ?_⟩
    have hLa := hD.ne hL
    have hl2 := x2.2 _ _ hLa hl
    repeat walk_at "d1"
    refine ⟨_, _, rfl, rfl, rfl, rfl, ?_⟩
    repeat walk_at "d1"
    refine E_ite (fun _ => ?_) (fun _ => ?_)
    · repeat walk_at "d1"
      refine ⟨a, _, rfl, by omega, by omega, x2.d, fun v2 W3 _ _ x3 => ?_⟩
      have hl3 := x3.2 _ _ hLa hl2
      repeat walk_at "d1"
      refine ⟨_, _, rfl, rfl, rfl, rfl, ?_⟩
      repeat walk_at "d1"
      refine ⟨by show 2 ≤ sizeLine; rw [sz_eq]; omega, ?_⟩
      repeat walk_at "d1"
      refine ⟨_, pairsD ps, rfl, hl3, by rw [pairsD_len, sz_eq]; omega, ?_⟩
      refine hN _ _ ⟨ps ++ [((m - (rest.length + 1)), PyData.eqv (.int v2) (.int 0))], _, hrest, by omega, rfl, by rw [wset_same, pairsD, pairsD, List.map_append]; rfl, ?_, by rw [List.length_append, List.length_singleton]; omega, DrawX.put hL (x.trans (x2.trans x3))⟩
      intro p hp'
      rcases List.mem_append.mp hp' with h | h
      · exact hp p h
      · rw [List.mem_singleton.mp h]
        show m - (rest.length + 1) < m
        omega
    · repeat walk_at "d1"
      exact hN _ _ ⟨ps, _, hrest, by omega, rfl, hl2, hp, by omega, x.trans x2⟩
abbrev st__law_is_pairs : Stmt := topS 24
abbrev N__law_is_pairs : List Str := ["_law_many", "_law_thing", "_law_pair"]
theorem sc__law_is_pairs : FnScope N__law_is_pairs ["_law_many", "_law_thing"] (defScope st__law_is_pairs) := ⟨rfl, rfl, rfl, by decide +kernel, rfl, by decide +kernel, by decide +kernel⟩
theorem start__law_is_pairs (x0 x1 : D) : startD N__law_is_pairs [x0, x1] = [some x0, some x1, none] := rfl
theorem ok_is_pairs {f : Addr} {fd : FuncData} (F : Fun K "_law_is_pairs" "_law_is_pairs" st__law_is_pairs f fd) (g : mg "_law_is_pairs" = some (.ref f)) (b : Binds K fd ["_law_many", "_law_thing"] []) (B : Bi mg) (F__law_is_int : Fn P w K mg base 1 "_law_is_int" spIsInt) (F__law_rising : Fn P w K mg base 1 "_law_rising" spRising) : Fn P w K mg base 2 "_law_is_pairs" spIsPairs := by
  refine fn_mk F sc__law_is_pairs g b (fun ds W R h => by obtain ⟨a, _, rfl, _⟩ := h; rfl) fun cdv A outer s H E hr => ⟨_, 
      (s_cons (s_for PassesOwn.never rfl (i_seq (d_var 1)) (g_name (i := 2) sc__law_is_pairs.nd rfl (by first | exact .inl rfl | exact .inr rfl) (fun _ h => nomatch h)) (s_cons (s_if (PW.pt (w_or (d_not (d_truth (d_isi B.isi (by decide +kernel) (da_cons (d_var 2) (da_cons (d_ty (T := "tuple") B.tuple (by decide +kernel)) da_nil))))) (w_or (d_cmpT (op_neD (hr.u 64)) od_ne (d_len B.len (da_cons (d_var 2) da_nil)) d_int (nomark _)) (w_or1 (d_not (d_truth (d_isi B.isi (by decide +kernel) (da_cons (d_ix (d_var 2) d_int) (da_cons (d_ty (T := "bool") B.bool (by decide +kernel)) da_nil))))))))) (s_one (s_ret d_bl)) s_nil)
      (s_one (s_if (PW.pt (w_or (d_not (d_truth (d_call F__law_is_int (hr.mono (by decide)) (da_cons (d_ix (d_var 2) d_int) da_nil)))) (w_or1 (d_not (d_chainT op_le op_lt od_le od_lt d_int (d_ix (d_var 2) d_int) (d_var 0)))))) (s_one (s_ret d_bl)) s_nil))))
      (s_one (s_ret (d_call F__law_rising (hr.mono (by decide)) (da_cons (d_lc rfl sc__law_is_pairs.nd (i_seq (d_var 1)) (blkOk_by (own := [("_law_pair", 2)]) (N := N__law_is_pairs) (sc := defScope st__law_is_pairs) (by decide +kernel)) (fun _ _ _ _ _ => (g_name (i := 2) sc__law_is_pairs.nd rfl (by first | exact .inl rfl | exact .inr rfl) (fun _ h => by cases h; decide))) (fun _ _ _ _ _ => ts_nil) (fun _ _ _ _ _ => (d_ix (d_var 2) d_int))) da_nil))))), fun ds W R h => ?_⟩
  obtain ⟨m, xs, rfl, hp, hz, q⟩ := h
  rw [start__law_is_pairs]
  refine E_start ?_
  repeat walk_at "d1"
  refine loop_ind (fun rest ρ W' => W' = W ∧ ∃ done ps o, xs = done ++ rest ∧ toPairs done = some ps ∧ (∀ p ∈ ps, p.1 < m) ∧ ρ = [some (.int (m : Int)), some (.tup xs), o]) ?_ ?_ _ _ _ ⟨rfl, [], [], none, rfl, rfl, (fun p h => nomatch h), rfl⟩
  · rintro ρ W' ⟨rfl, done, ps, o, e, h1, h2, rfl⟩
    refine ⟨trivial, ?_⟩
    rw [List.append_nil] at e
    subst e
    repeat walk_at "d1"
    obtain rfl := toPairs_some h1
    intro L hL
    rw [pairsD_len] at hz
    refine comp_map (fun d => match d with | .tup [.int a, .bl _] => .int a | _ => .non) hL (by rw [pairsD_len, sz_eq]; omega) (fun _ => trivial) ?_ ?_
    · intro x hx W2 hs Q2 q2
      obtain ⟨⟨a, t⟩, hm, rfl⟩ := pairsD_mem hx
      repeat walk_at "d1"
      refine OptD.mk rfl ?_
      exact q2
    · repeat walk_at "d1"
      refine ⟨L, ps.map fun p => (p.1 : Int), rfl, ?_, by rw [List.length_map]; omega, ?_⟩
      · rw [wset_same, pairsD, List.map_map, List.map_map]
        rfl
      · have e2 : isPairs m (pairsD ps) = rising (ps.map fun p => (p.1 : Int)) := by
          unfold isPairs
          rw [toPairs_D]
          have e3 : ps.all (fun p => decide (p.1 < m)) = true := List.all_eq_true.mpr fun p hp => decide_eq_true (h2 p hp)
          simp only [e3, Bool.true_and]
        rw [← e2]
        exact ⟨_, Sub.new hL, q⟩
  · rintro x rest N' hN ρ W' ⟨rfl, done, ps, o, e, h1, h2, rfl⟩
    refine ⟨trivial, ?_⟩
    have hx := pydL_mem hp (show x ∈ xs by rw [e]; simp)
    have bad : toPair x = none → R (.bl false) W' := fun hb => by
      have : isPairs m xs = false := by unfold isPairs; rw [e, toPairs_bad h1 hb]
      rw [this] at q
      exact q
    repeat walk_at "d1"
    refine isi_tup (pyd_plain hx) ?_
    repeat walk_at "d1"
    refine E_ite (fun c => ?_) (fun c => ?_)
    · repeat walk_at "d1"
      refine E_end (bad ?_)
      cases x <;> first | rfl | cases c
    obtain ⟨ys, rfl⟩ : ∃ ys, x = .tup ys := by cases x <;> first | exact ⟨_, rfl⟩ | cases c
    have hy := pyd_tup hx
    repeat walk_at "d1"
    refine ⟨_, _, rfl, rfl, rfl, rfl, ?_⟩
    rw [len_ne]
    repeat walk_at "d1"
    refine E_dec (fun c => ?_) (fun c => ?_)
    · repeat walk_at "d1"
      refine E_end (bad ?_)
      unfold toPair
      split
      · rename_i e2
        cases e2
        exact absurd rfl c
      · rfl
    obtain ⟨u, v, rfl⟩ := len_two (Decidable.not_not.mp c)
    have hu := pyd_plain (pydL_mem hy (show u ∈ [u, v] by simp))
    have hv := pyd_plain (pydL_mem hy (show v ∈ [u, v] by simp))
    repeat walk_at "d1"
    clear c
    refine isi_bool hv ?_
    repeat walk_at "d1"
    refine E_ite (fun c => ?_) (fun c => ?_)
    · repeat walk_at "d1"
      refine E_end (bad ?_)
      clear hx hy hu e bad
      cases v <;> first | (cases u <;> rfl) | cases c
    obtain ⟨t, rfl⟩ : ∃ t, v = .bl t := by
      clear hx hy hu e bad
      cases v <;> first | exact ⟨_, rfl⟩ | cases c
    clear c
    repeat walk_at "d1"
    refine ⟨u, rfl, hu, ?_⟩
    repeat walk_at "d1"
    refine E_ite (fun c => ?_) (fun c => ?_)
    · repeat walk_at "d1"
      refine E_end (bad ?_)
      clear hx hy e bad
      cases u <;> first | rfl | cases c
    obtain ⟨i, rfl⟩ : ∃ i, u = .int i := by
      clear hx hy e bad
      cases u <;> first | exact ⟨_, rfl⟩ | cases c
    clear c
    repeat walk_at "d1"
    have low : ∀ b : Bool, (b = true → 0 ≤ i ∧ i < (m : Int)) → (b = false → ¬ (0 ≤ i ∧ i < (m : Int))) → (if (!b) = true then R (.bl false) W' else True) ∧ (b = true → ∃ p, toPair (.tup [.int i, .bl t]) = some p ∧ p.1 < m) := fun b y n => by
      cases b with
      | true =>
        refine ⟨trivial, fun _ => ?_⟩
        obtain ⟨a1, a2⟩ := y rfl
        refine ⟨(i.toNat, t), ?_, ?_⟩
        · show (if 0 ≤ i then some (i.toNat, t) else none) = _
          rw [if_pos a1]
        · show i.toNat < m
          omega
      | false =>
        refine ⟨?_, fun h => by cases h⟩
        show R (.bl false) W'
        by_cases h0 : 0 ≤ i
        · have a2 : ¬ i.toNat < m := fun h => n rfl ⟨h0, by omega⟩
          have e2 : toPair (.tup [.int i, .bl t]) = some (i.toNat, t) := by
            show (if 0 ≤ i then some (i.toNat, t) else none) = _
            rw [if_pos h0]
          rw [isPairs_high e h1 e2 a2] at q
          exact q
        · refine bad ?_
          show (if 0 ≤ i then some (i.toNat, t) else none) = none
          rw [if_neg h0]
    have fin : ∀ b : Bool, (b = true → 0 ≤ i ∧ i < (m : Int)) → (b = false → ¬ (0 ≤ i ∧ i < (m : Int))) → (b = true → N' ([some (D.int ↑m), some (D.tup xs), o].set 2 (some (D.tup [D.int i, D.bl t]))) W') := fun b y n hb => by
      obtain ⟨p, h3, h4⟩ := (low b y n).2 hb
      refine hN _ _ ⟨rfl, done ++ [.tup [.int i, .bl t]], ps ++ [p], _, by rw [e, List.append_assoc]; rfl, ?_, ?_, rfl⟩
      · rw [toPairs_app h1]
        show (match toPair (.tup [.int i, .bl t]), toPairs [] with | some p, some ps => some (p :: ps) | _, _ => none).map _ = _
        rw [h3]; rfl
      · intro r hr
        rcases List.mem_append.mp hr with h | h
        · exact h2 r h
        · rw [List.mem_singleton.mp h]; exact h4
    refine E_dec (fun c => ?_) (fun c => ?_)
    · repeat walk_at "d1"
      refine E_ite (fun d => ?_) (fun d => ?_)
      · repeat walk_at "d1"
        have d' : decide (i < (m : Int)) = false := by simpa using d
        exact E_end (low false (fun h => by cases h) fun _ h => of_decide_eq_false d' h.2).1
      · repeat walk_at "d1"
        have d' : decide (i < (m : Int)) = true := by simpa using d
        exact fin true (fun _ => ⟨c, of_decide_eq_true d'⟩) (fun h => by cases h) rfl
    · repeat walk_at "d1"
      exact E_end (low false (fun h => by cases h) fun _ h => c h.1).1
end
end K51

namespace K51
open PySem PySem.Spec L2 RZ DL
open PyProof.Rows hiding St
local macro_rules | `(tactic| walk_at "d1") => `(tactic| (first
  | with_reducible refine E_seq ?_ | with_reducible refine E_ifS ?_ | with_reducible refine E_ret ?_ | with_reducible refine E_retN ?_ | with_reducible refine E_asg ?_ | with_reducible refine E_drop ?_ | with_reducible refine E_next ?_ | with_reducible refine E_cont ?_ | with_reducible refine E_break ?_
  | with_reducible refine E_not ?_ | with_reducible refine E_truth ?_ | with_reducible refine E_and ?_ | with_reducible refine E_or ?_ | with_reducible refine E_test ?_ | with_reducible refine E_yes ?_ | with_reducible refine E_andV ?_ | with_reducible refine E_orV ?_ | with_reducible refine E_notV ?_ | with_reducible refine E_if ?_
  | with_reducible refine E_op ?_ | with_reducible refine E_un ?_ | with_reducible refine E_chain ?_ | with_reducible refine E_var rfl ?_ | with_reducible refine E_c ?_ | with_reducible refine E_cb ?_ | with_reducible refine E_call ?_ | with_reducible refine E_cons ?_ | with_reducible refine E_nil ?_
  | with_reducible refine E_tup ?_ | with_reducible refine E_lst ?_ | with_reducible refine E_sl ?_ | with_reducible refine E_part ?_ | with_reducible refine E_no ?_ | with_reducible refine E_ml ?_ | with_reducible refine E_bits ?_ | with_reducible refine E_rev ?_
  | with_reducible refine E_gN ?_ | with_reducible refine E_gT rfl ?_ | with_reducible refine E_gsC ?_ | with_reducible refine E_gsN ?_ | with_reducible refine E_gIx ?_ | with_reducible refine E_for ?_ | with_reducible refine E_lc ?_
  | with_reducible refine E_dget ?_ | with_reducible refine E_din ?_ | with_reducible refine E_dput ?_ | with_reducible refine E_dpop ?_ | with_reducible refine E_nget ?_ | with_reducible refine E_nin ?_ | with_reducible refine E_nput ?_
  | with_reducible refine E_aug rfl ?_ | with_reducible refine E_augIx ?_ | with_reducible refine E_iSeq ?_ | with_reducible refine E_iRg1 ?_ | with_reducible refine E_iZipT ?_
  | with_reducible refine E_I0 ?_ | with_reducible refine E_bl ?_ | with_reducible refine E_tbl ?_ | with_reducible refine E_int ?_ | with_reducible refine E_mlA (by assumption) ?_ | with_reducible refine E_ref ?_ | with_reducible refine E_slT ?_ | with_reducible refine E_lenT ?_ | with_reducible refine E_iteT ?_ | with_reducible refine E_iteF ?_ | with_reducible refine E_int1 ?_ | with_reducible refine E_int1b ?_ | with_reducible refine E_abs ?_
  | ((with_reducible refine E_I ?_ ?_); focus (first | assumption | exact Or.inl ⟨by decide, by decide⟩ | exact Or.inr ⟨by decide, by decide⟩ | exact ⟨by decide, by decide, by decide⟩ | exact ⟨by decide, by decide⟩ | exact pow_posI _ | (show (0 : Int) < _; decide) | (show (0 : Int) ≤ _; decide))) | with_reducible refine E_lenL (by assumption) ?_
  | with_reducible refine E_ixL (by assumption) ?_ | with_reducible refine E_ixT ?_ | with_reducible refine OptD.mk rfl ?_))
/-- one step of _law_met -/
def metS (m : Nat) (ns : List Int) (ps : List (Nat × Bool)) (acc : List Int) (k : Nat) : List Int := if ns.getD k 0 ∉ acc ∧ agree m k ps = true then acc ++ [ns.getD k 0] else acc
def metL (m : Nat) (ns : List Int) (ps : List (Nat × Bool)) : List Int := (List.range (2 ^ m)).foldl (metS m ns ps) []
def spMet : SpD := fun ds W R => ∃ (l r : Addr) (m : Nat) (ns : List Int) (ps : List (Nat × Bool)), ds = [.ref l, .ref r, .tup (pairsD ps)] ∧ W l = some (.lst (rowsD m)) ∧ W r = some (.lst (intsD ns)) ∧ ns.length = 2 ^ m ∧ m ≤ 10 ∧
  (∀ p ∈ ps, p.1 < m) ∧ ps.length ≤ 1000 ∧ ∀ p, W p = none → R (.ref p) (wset W p (.lst (intsD (metL m ns ps))))
/-- without any pair another value, too -/
def tight (m : Nat) (ns : List Int) (ps : List (Nat × Bool)) : Bool := ps.all fun p => (metL m ns (ps.filter fun q => q.1 != p.1)).length != 1
def setV (m : Nat) (ns : List Int) (xs : List D) : Int := match toPairs xs with
  | some ps => if (isPairs m xs && ((metL m ns ps).length == 1 && tight m ns ps)) = true then (metL m ns ps).getD 0 0 else -1
  | none => -1
def spSettled : SpD := fun ds W R => ∃ (l r : Addr) (m : Nat) (ns : List Int) (xs : List D), ds = [.ref l, .ref r, .int (m : Int), .tup xs] ∧ W l = some (.lst (rowsD m)) ∧ W r = some (.lst (intsD ns)) ∧ ns.length = 2 ^ m ∧ m ≤ 10 ∧
  (pydL xs).isSome ∧ xs.length ≤ 1000 ∧ R (.int (setV m ns xs)) W
theorem any_ints (ns : List Int) (x : Int) : (ns.map PyData.int).any (fun z => PyData.eqv z (.int x)) = decide (x ∈ ns) := by
  rw [List.any_map, Bool.eq_iff_iff]
  simp only [List.any_eq_true, Function.comp, PyData.eqv, beq_iff_eq, decide_eq_true_eq]
  constructor
  · rintro ⟨y, h, rfl⟩; exact h
  · intro h; exact ⟨x, h, rfl⟩
theorem eqv_one (n : Nat) : PyData.eqv (.int (n : Int)) (.int 1) = (n == 1) := by
  simp only [PyData.eqv]
  rw [Bool.eq_iff_iff]
  simp only [beq_iff_eq]
  omega
theorem intsD_len (ns : List Int) : (intsD ns).length = ns.length := List.length_map ..
theorem rowsD_len (m : Nat) : (rowsD m).length = 2 ^ m := by rw [rowsD, List.length_map, List.length_range]
theorem rowsD_at {m k : Nat} (h : k < 2 ^ m) : atI (rowsD m) (k : Int) = some (.tup (truthsD m k)) := by
  rw [atI_n, rowsD, List.getElem?_map, List.getElem?_range h]; rfl
theorem intsD_at {ns : List Int} {k : Nat} (h : k < ns.length) : atI (intsD ns) (k : Int) = some (.int (ns.getD k 0)) := by
  rw [atI_n, intsD, List.getElem?_map, List.getElem?_eq_getElem h, List.getD_eq_getElem?_getD, List.getElem?_eq_getElem h]; rfl
theorem metS_len {m : Nat} {ns : List Int} {ps : List (Nat × Bool)} : ∀ (ks : List Nat) (acc : List Int), (ks.foldl (metS m ns ps) acc).length ≤ acc.length + ks.length
  | [], acc => Nat.le_refl _
  | k :: ks, acc => by
    rw [List.foldl_cons]
    have h := metS_len (m := m) (ns := ns) (ps := ps) ks (metS m ns ps acc k)
    have h2 : (metS m ns ps acc k).length ≤ acc.length + 1 := by
      unfold metS
      split
      · rw [List.length_append]; exact Nat.le_refl _
      · omega
    rw [List.length_cons]
    omega
section
variable {P : Program} {w : World} {K : Frag} {mg : Str → Option Value} {base : Heap}
abbrev st__law_met : Stmt := topS 22
abbrev N__law_met : List Str := ["_law_rows", "_law_row_here", "_law_pairs_here", "_law_found", "_law_k"]
theorem sc__law_met : FnScope N__law_met ["_law_rows", "_law_row_here", "_law_pairs_here"] (defScope st__law_met) := ⟨rfl, rfl, rfl, by decide +kernel, rfl, by decide +kernel, by decide +kernel⟩
theorem start__law_met (x0 x1 x2 : D) : startD N__law_met [x0, x1, x2] = [some x0, some x1, some x2, none, none] := rfl
theorem ok_met {f : Addr} {fd : FuncData} (F : Fun K "_law_met" "_law_met" st__law_met f fd) (g : mg "_law_met" = some (.ref f)) (b : Binds K fd ["_law_rows", "_law_row_here", "_law_pairs_here"] []) (B : Bi mg) (F__law_agrees : Fn P w K mg base 1 "_law_agrees" spAgrees) : Fn P w K mg base 2 "_law_met" spMet := by
  refine fn_mk F sc__law_met g b (fun ds W R h => by obtain ⟨a, _, _, _, _, rfl, _⟩ := h; rfl) fun cdv A outer s H E hr => ⟨_, 
      (s_cons (s_set (i := 3) sc__law_met.nd rfl (by first | exact .inl rfl | exact .inr rfl) (d_lst da_nil))
      (s_cons (s_for PassesOwn.never rfl (i_rng1 B.range (da_cons (d_len B.len (da_cons (d_var 0) da_nil)) da_nil)) (g_name (i := 4) sc__law_met.nd rfl (by first | exact .inl rfl | exact .inr rfl) (fun _ h => nomatch h)) (s_one (s_if (PW.pt (w_and (d_cmpT (op_notInA (hr.u 65)) od_in (d_ix (d_var 1) (d_var 4)) (d_var 3) (by rfl)) (w_and1 (d_truth (d_call F__law_agrees (hr.mono (by decide)) (da_cons (d_ix (d_var 0) (d_var 4)) (da_cons (d_var 2) da_nil))))))) (s_one (s_expr (d_append (d_var 3) (da_cons (d_ix (d_var 1) (d_var 4)) da_nil)))) s_nil)))
      (s_one (s_ret (d_var 3))))), fun ds W R h => ?_⟩
  obtain ⟨l, r, m, ns, ps, rfl, hl, hrr, hlen, hm, hp, hz, q⟩ := h
  rw [start__law_met]
  refine E_start ?_
  repeat walk_at "d1"
  refine ⟨Nat.zero_le _, fun L hL => ?_⟩
  have hlL := wne hL hl
  have hrL := wne hL hrr
  have h10 : 2 ^ m ≤ 1024 := Nat.le_trans (Nat.pow_le_pow_right (by decide) hm) (by decide)
  have hl2 : wset W L (.lst []) l = some (.lst (rowsD m)) := by rw [wset_ne hlL]; exact hl
  repeat walk_at "d1"
  rw [rowsD_len]
  have b1 : (0 : Int) ≤ ((2 ^ m : Nat) : Int) := Int.natCast_nonneg _
  have b2 : ((2 ^ m : Nat) : Int) ≤ 1024 := Int.ofNat_le.mpr h10
  refine ⟨_, rfl, Int.le_trans (by decide) b1, Int.lt_of_le_of_lt b2 (by decide), ?_⟩
  rw [Int.toNat_natCast]
  generalize hM : 2 ^ m = M at *
  refine loop_ind (fun rest ρ W' => ∃ n o acc, n ≤ M ∧ rest = (rngD 0 M).drop n ∧ acc = (List.range n).foldl (metS m ns ps) [] ∧ ρ = [some (.ref l), some (.ref r), some (.tup (pairsD ps)), some (.ref L), o] ∧ W' = wset W L (.lst (intsD acc))) ?_ ?_ _ _ _
    ⟨0, none, [], Nat.zero_le _, rfl, rfl, rfl, rfl⟩
  · rintro ρ W' ⟨n, o, acc, hn, e, ha, rfl, rfl⟩
    refine ⟨trivial, ?_⟩
    have : n = M := by
      have := congrArg List.length e
      rw [List.length_drop, rngD_len] at this
      simp only [List.length_nil] at this
      omega
    subst this
    repeat walk_at "d1"
    refine E_end ?_
    have e2 : acc = metL m ns ps := by rw [ha, metL, hM]
    rw [e2]
    exact q L hL
  · rintro x rest N' hN ρ W' ⟨n, o, acc, hn, e, ha, rfl, rfl⟩
    refine ⟨trivial, ?_⟩
    have hn2 : n < M := by
      have := congrArg List.length e
      rw [List.length_drop, rngD_len, List.length_cons] at this
      omega
    rw [List.drop_eq_getElem_cons (by rw [rngD_len]; exact hn2)] at e
    injection e with e1 e2
    rw [rngD_get] at e1
    subst e1
    have hl3 : wset W L (.lst (intsD acc)) l = some (.lst (rowsD m)) := by rw [wset_ne hlL]; exact hl
    have hr3 : wset W L (.lst (intsD acc)) r = some (.lst (intsD ns)) := by rw [wset_ne hrL]; exact hrr
    have hstep : (List.range (n + 1)).foldl (metS m ns ps) [] = metS m ns ps acc n := by rw [List.range_succ, List.foldl_append, ← ha]; rfl
    have hat := intsD_at (ns := ns) (k := n) (by omega)
    have hacc : acc.length ≤ n := by
      have := metS_len (m := m) (ns := ns) (ps := ps) (List.range n) []
      rw [← ha, List.length_range] at this
      simpa using this
    repeat walk_at "d1"
    refine OptD.mk hat ?_
    repeat walk_at "d1"
    refine ⟨_, acc.map .int, rfl, rfl, .inr ⟨L, _, rfl, .inl wset_same, pydL_ints acc⟩, canLay_ints acc, ?_⟩
    rw [any_ints, if_pos rfl]
    repeat walk_at "d1"
    have keep : metS m ns ps acc n = acc → N' [some (D.ref l), some (D.ref r), some (D.tup (pairsD ps)), some (D.ref L), some (.int (n : Int))] (wset W L (.lst (intsD acc))) := fun h =>
      hN _ _ ⟨n + 1, _, acc, by omega, e2, by rw [hstep, h], rfl, rfl⟩
    refine E_ite (fun c => ?_) (fun c => ?_)
    · have c' : ns.getD n 0 ∉ acc := by simpa using c
      repeat walk_at "d1"
      refine OptD.mk (rowsD_at (by rw [hM]; exact hn2)) ?_
      repeat walk_at "d1"
      refine ⟨m, n, ps, rfl, hp, hz, ?_⟩
      repeat walk_at "d1"
      refine E_ite (fun c2 => ?_) (fun c2 => ?_)
      · have hl4 : wset W L (.lst (intsD acc)) L = some (.lst (intsD acc)) := wset_same
        repeat walk_at "d1"
        refine OptD.mk hat ?_
        repeat walk_at "d1"
        refine ⟨_, intsD acc, rfl, wset_same, by rw [intsD, List.length_map, sz_eq]; omega, ?_⟩
        rw [wset_wset]
        refine hN _ _ ⟨n + 1, _, acc ++ [ns.getD n 0], by omega, e2, ?_, rfl, by rw [intsD, intsD, List.map_append]; rfl⟩
        rw [hstep, metS, if_pos ⟨c', c2⟩]
      · repeat walk_at "d1"
        refine keep ?_
        rw [metS, if_neg]
        rintro ⟨_, h⟩
        rw [h] at c2
        cases c2
    · repeat walk_at "d1"
      refine keep ?_
      rw [metS, if_neg]
      rintro ⟨h, _⟩
      rw [decide_eq_false h] at c
      cases c
theorem toPairs_isPairs {m : Nat} {xs : List D} (h : isPairs m xs = true) : ∃ ps, xs = pairsD ps ∧ (∀ p ∈ ps, p.1 < m) ∧ rising (ps.map fun p => (p.1 : Int)) = true := by
  unfold isPairs at h
  cases q : toPairs xs with
  | none => rw [q] at h; cases h
  | some ps =>
    rw [q] at h
    obtain ⟨h1, h2⟩ := Bool.and_eq_true_iff.mp h
    exact ⟨ps, toPairs_some q, fun p hp => of_decide_eq_true (List.all_eq_true.mp h1 p hp), h2⟩
theorem setV_no {m : Nat} {ns : List Int} {xs : List D} (h : isPairs m xs = false) : setV m ns xs = -1 := by
  unfold setV
  rw [h]
  cases toPairs xs <;> rfl
abbrev st__law_settled : Stmt := topS 25
abbrev N__law_settled : List Str := ["_law_rows", "_law_row_here", "_law_many", "_law_thing", "_law_met_here", "_law_pair"]
theorem sc__law_settled : FnScope N__law_settled ["_law_rows", "_law_row_here", "_law_many", "_law_thing"] (defScope st__law_settled) := ⟨rfl, rfl, rfl, by decide +kernel, rfl, by decide +kernel, by decide +kernel⟩
theorem start__law_settled (x0 x1 x2 x3 : D) : startD N__law_settled [x0, x1, x2, x3] = [some x0, some x1, some x2, some x3, none, none] := rfl
theorem ok_settled {f : Addr} {fd : FuncData} (F : Fun K "_law_settled" "_law_settled" st__law_settled f fd) (g : mg "_law_settled" = some (.ref f)) (b : Binds K fd ["_law_rows", "_law_row_here", "_law_many", "_law_thing"] []) (B : Bi mg) (F__law_is_pairs : Fn P w K mg base 2 "_law_is_pairs" spIsPairs) (F__law_met : Fn P w K mg base 2 "_law_met" spMet) (F__law_without : Fn P w K mg base 1 "_law_without" spWithout) : Fn P w K mg base 3 "_law_settled" spSettled := by
  refine fn_mk F sc__law_settled g b (fun ds W R h => by obtain ⟨a, _, _, _, _, rfl, _⟩ := h; rfl) fun cdv A outer s H E hr => ⟨_, 
      (s_cons (s_if (d_not (d_truth (d_call F__law_is_pairs (hr.mono (by decide)) (da_cons (d_var 2) (da_cons (d_var 3) da_nil))))) (s_one (s_ret (d_neg d_int))) s_nil)
      (s_cons (s_set (i := 4) sc__law_settled.nd rfl (by first | exact .inl rfl | exact .inr rfl) (d_call F__law_met (hr.mono (by decide)) (da_cons (d_var 0) (da_cons (d_var 1) (da_cons (d_var 3) da_nil)))))
      (s_cons (s_if (d_cmpT (op_neD (hr.u 64)) od_ne (d_len B.len (da_cons (d_var 4) da_nil)) d_int (nomark _)) (s_one (s_ret (d_neg d_int))) s_nil)
      (s_cons (s_for PassesOwn.never rfl (i_seq (d_var 3)) (g_name (i := 5) sc__law_settled.nd rfl (by first | exact .inl rfl | exact .inr rfl) (fun _ h => nomatch h)) (s_one (s_if (d_cmpT (op_eqD (hr.u 64)) od_eq (d_len B.len (da_cons (d_call F__law_met (hr.mono (by decide)) (da_cons (d_var 0) (da_cons (d_var 1) (da_cons (d_call F__law_without (hr.mono (by decide)) (da_cons (d_var 3) (da_cons (d_ix (d_var 5) d_int) da_nil))) da_nil)))) da_nil)) d_int (nomark _)) (s_one (s_ret (d_neg d_int))) s_nil)))
      (s_one (s_ret (d_ix (d_var 4) d_int))))))), fun ds W R h => ?_⟩
  obtain ⟨l, r, m, ns, xs, rfl, hl, hrr, hlen, hm, hp, hz, q⟩ := h
  rw [start__law_settled]
  refine E_start ?_
  repeat walk_at "d1"
  refine ⟨m, xs, rfl, hp, hz, ?_⟩
  repeat walk_at "d1"
  refine E_ite (fun c => ?_) (fun c => ?_)
  · repeat walk_at "d1"
    rw [setV_no (by simpa using c)] at q
    exact E_end q
  have c' : isPairs m xs = true := by simpa using c
  obtain ⟨ps, rfl, hps, hri⟩ := toPairs_isPairs c'
  rw [pairsD_len] at hz
  repeat walk_at "d1"
  refine ⟨l, r, m, ns, ps, rfl, hl, hrr, hlen, hm, hps, hz, fun M hM => ?_⟩
  have hM2 : wset W M (.lst (intsD (metL m ns ps))) M = some (.lst (intsD (metL m ns ps))) := wset_same
  repeat walk_at "d1"
  refine ⟨_, _, rfl, rfl, rfl, rfl, ?_⟩
  rw [eqv_one, intsD_len]
  have hset : setV m ns (pairsD ps) = if ((metL m ns ps).length == 1 && tight m ns ps) = true then (metL m ns ps).getD 0 0 else -1 := by
    unfold setV
    rw [toPairs_D, c']
    simp only [Bool.true_and]
  rw [hset] at q
  repeat walk_at "d1"
  refine E_ite (fun c1 => ?_) (fun c1 => ?_)
  · repeat walk_at "d1"
    have : ((metL m ns ps).length == 1) = false := by simpa using c1
    rw [this, Bool.false_and] at q
    exact ⟨_, Sub.new hM, q⟩
  have c1' : ((metL m ns ps).length == 1) = true := by simpa using c1
  rw [c1', Bool.true_and] at q
  repeat walk_at "d1"
  refine loop_ind (fun rest ρ W' => Sub (wset W M (.lst (intsD (metL m ns ps)))) W' ∧ ∃ done dn o, pairsD ps = done ++ rest ∧ done = pairsD dn ∧ (∀ p ∈ dn, (metL m ns (ps.filter fun q => q.1 != p.1)).length ≠ 1) ∧ ρ = [some (.ref l), some (.ref r), some (.int (m : Int)), some (.tup (pairsD ps)), some (.ref M), o]) ?_ ?_ _ _ _
    ⟨Sub.refl _, [], [], none, rfl, rfl, (fun p h => nomatch h), rfl⟩
  · rintro ρ W' ⟨hs, done, dn, o, e, rfl, hd, rfl⟩
    refine ⟨trivial, ?_⟩
    rw [List.append_nil] at e
    have hM3 := hs _ _ hM2
    repeat walk_at "d1"
    have hat := intsD_at (ns := metL m ns ps) (k := 0) (by have := of_decide_eq_true c1'; omega)
    refine OptD.mk hat ?_
    have ht : tight m ns ps = true := by
      refine List.all_eq_true.mpr fun p hp => ?_
      have hm2 : pairD p ∈ pairsD dn := by rw [← e]; exact List.mem_map_of_mem hp
      obtain ⟨p2, h3, h4⟩ := pairsD_mem hm2
      have : p = p2 := by
        have := congrArg toPair h4
        rw [toPair_D, toPair_D] at this
        exact Option.some.inj this
      subst this
      exact bne_iff_ne.mpr (hd _ h3)
    rw [ht, if_pos rfl] at q
    exact ⟨_, (Sub.new hM).trans hs, q⟩
  · rintro x rest N' hN ρ W' ⟨hs, done, dn, o, e, rfl, hd, rfl⟩
    refine ⟨trivial, ?_⟩
    obtain ⟨⟨a, t⟩, hm2, rfl⟩ := pairsD_mem (show x ∈ pairsD ps by rw [e]; simp)
    have hl2 := hs _ _ (Sub.new hM _ _ hl)
    have hr2 := hs _ _ (Sub.new hM _ _ hrr)
    repeat walk_at "d1"
    refine OptD.mk rfl ?_
    repeat walk_at "d1"
    refine ⟨ps, a, rfl, hz, ?_⟩
    repeat walk_at "d1"
    refine ⟨l, r, m, ns, _, rfl, hl2, hr2, hlen, hm, fun p hp => hps p (List.mem_filter.mp hp).1, Nat.le_trans (List.length_filter_le _ _) hz, fun T hT => ?_⟩
    have hT2 : wset W' T (.lst (intsD (metL m ns (ps.filter fun q => q.1 != a)))) T = some (.lst (intsD (metL m ns (ps.filter fun q => q.1 != a)))) := wset_same
    repeat walk_at "d1"
    refine ⟨_, _, rfl, rfl, rfl, rfl, ?_⟩
    rw [eqv_one, intsD_len]
    repeat walk_at "d1"
    refine E_ite (fun c2 => ?_) (fun c2 => ?_)
    · repeat walk_at "d1"
      have ht : tight m ns ps = false := by
        rw [← Bool.not_eq_true]
        intro h
        have := List.all_eq_true.mp h _ hm2
        simp only [bne_iff_ne, ne_eq] at this
        exact this (by simpa using c2)
      rw [ht, if_neg (by decide)] at q
      exact ⟨_, ((Sub.new hM).trans hs).trans (Sub.new hT), q⟩
    · repeat walk_at "d1"
      refine hN _ _ ⟨hs.trans (Sub.new hT), pairsD (dn ++ [(a, t)]), dn ++ [(a, t)], _, ?_, rfl, ?_, rfl⟩
      · rw [e, pairsD, pairsD, List.map_append, List.append_assoc]; rfl
      · intro p hp
        rcases List.mem_append.mp hp with h | h
        · exact hd p h
        · rw [List.mem_singleton.mp h]
          simpa using c2
end
end K51

namespace K51
open PySem PySem.Spec L2 RZ DL
open PyProof.Rows hiding St
local macro_rules | `(tactic| walk_at "d1") => `(tactic| (first
  | with_reducible refine E_seq ?_ | with_reducible refine E_ifS ?_ | with_reducible refine E_ret ?_ | with_reducible refine E_retN ?_ | with_reducible refine E_asg ?_ | with_reducible refine E_drop ?_ | with_reducible refine E_next ?_ | with_reducible refine E_cont ?_ | with_reducible refine E_break ?_
  | with_reducible refine E_not ?_ | with_reducible refine E_truth ?_ | with_reducible refine E_and ?_ | with_reducible refine E_or ?_ | with_reducible refine E_test ?_ | with_reducible refine E_yes ?_ | with_reducible refine E_andV ?_ | with_reducible refine E_orV ?_ | with_reducible refine E_notV ?_ | with_reducible refine E_if ?_
  | with_reducible refine E_op ?_ | with_reducible refine E_un ?_ | with_reducible refine E_chain ?_ | with_reducible refine E_var rfl ?_ | with_reducible refine E_c ?_ | with_reducible refine E_cb ?_ | with_reducible refine E_call ?_ | with_reducible refine E_cons ?_ | with_reducible refine E_nil ?_
  | with_reducible refine E_tup ?_ | with_reducible refine E_lst ?_ | with_reducible refine E_sl ?_ | with_reducible refine E_part ?_ | with_reducible refine E_no ?_ | with_reducible refine E_ml ?_ | with_reducible refine E_bits ?_ | with_reducible refine E_rev ?_
  | with_reducible refine E_gN ?_ | with_reducible refine E_gT rfl ?_ | with_reducible refine E_gsC ?_ | with_reducible refine E_gsN ?_ | with_reducible refine E_gIx ?_ | with_reducible refine E_for ?_ | with_reducible refine E_lc ?_
  | with_reducible refine E_dget ?_ | with_reducible refine E_din ?_ | with_reducible refine E_dput ?_ | with_reducible refine E_dpop ?_ | with_reducible refine E_nget ?_ | with_reducible refine E_nin ?_ | with_reducible refine E_nput ?_
  | with_reducible refine E_aug rfl ?_ | with_reducible refine E_augIx ?_ | with_reducible refine E_iSeq ?_ | with_reducible refine E_iRg1 ?_ | with_reducible refine E_iZipT ?_
  | with_reducible refine E_I0 ?_ | with_reducible refine E_bl ?_ | with_reducible refine E_tbl ?_ | with_reducible refine E_int ?_ | with_reducible refine E_mlA (by assumption) ?_ | with_reducible refine E_ref ?_ | with_reducible refine E_slT ?_ | with_reducible refine E_lenT ?_ | with_reducible refine E_iteT ?_ | with_reducible refine E_iteF ?_ | with_reducible refine E_int1 ?_ | with_reducible refine E_int1b ?_ | with_reducible refine E_abs ?_
  | ((with_reducible refine E_I ?_ ?_); focus (first | assumption | exact Or.inl ⟨by decide, by decide⟩ | exact Or.inr ⟨by decide, by decide⟩ | exact ⟨by decide, by decide, by decide⟩ | exact ⟨by decide, by decide⟩ | exact pow_posI _ | (show (0 : Int) < _; decide) | (show (0 : Int) ≤ _; decide))) | with_reducible refine E_lenL (by assumption) ?_
  | with_reducible refine E_ixL (by assumption) ?_ | with_reducible refine E_ixT ?_ | with_reducible refine OptD.mk rfl ?_))
/-! ### the table -/
inductive Nd where
  | leaf (n : Nat)
  | node (at' lo hi : Nat)
def ndD (vs : List D) : Nd → D
  | .leaf n => .tup [.str (Str.ofString "leaf"), vs.getD n .non]
  | .node a lo hi => .tup [.int (a : Int), .int (lo : Int), .int (hi : Int)]
def keyN (ns : List Int) : NestedKey := .tup (ns.map .num)
def kvsI : Nat → List (List Int) → List (NestedKey × D × D)
  | _, [] => []
  | i, r :: rs => (keyN r, .tup (intsD r), .int (i : Int)) :: kvsI (i + 1) rs
def kvsOf (Rs : List (List Int)) : List (NestedKey × D × D) := kvsI 0 Rs
theorem num_inj : ∀ {ns ms : List Int}, ns.map NestedKey.num = ms.map NestedKey.num → ns = ms
  | [], [], _ => rfl
  | [], _ :: _, h => by cases h
  | _ :: _, [], h => by cases h
  | n :: ns, m :: ms, h => by
    injection h with h1 h2
    injection h1 with h1
    rw [h1, num_inj h2]
theorem keyN_inj {ns ms : List Int} (h : keyN ns = keyN ms) : ns = ms := by
  injection h with h
  exact num_inj h
theorem kvsI_len : ∀ (i : Nat) (Rs : List (List Int)), (kvsI i Rs).length = Rs.length
  | _, [] => rfl
  | i, r :: rs => by rw [kvsI, List.length_cons, List.length_cons, kvsI_len (i + 1) rs]
theorem valN_no : ∀ {Rs : List (List Int)} {ns : List Int} (i : Nat), ns ∉ Rs → valN (kvsI i Rs) (keyN ns) = none
  | [], _, _, _ => rfl
  | r :: rs, ns, i, h => by
    unfold kvsI valN
    rw [List.find?_cons_of_neg]
    · exact valN_no (i + 1) fun z => h (List.mem_cons_of_mem _ z)
    · simp only [decide_eq_true_eq]
      intro z
      exact h (by rw [keyN_inj z]; exact List.mem_cons_self ..)
theorem valN_yes : ∀ {Rs : List (List Int)} {ns : List Int} (i : Nat), ns ∈ Rs → ∃ j, Rs[j]? = some ns ∧ valN (kvsI i Rs) (keyN ns) = some (.int ((i + j : Nat) : Int))
  | r :: rs, ns, i, h => by
    by_cases e : r = ns
    · subst e
      refine ⟨0, rfl, ?_⟩
      unfold kvsI valN
      rw [List.find?_cons_of_pos]
      · rfl
      · simp
    · have h' : ns ∈ rs := by
        rcases List.mem_cons.mp h with z | z
        · exact absurd z.symm e
        · exact z
      obtain ⟨j, h1, h2⟩ := valN_yes (i + 1) h'
      refine ⟨j + 1, h1, ?_⟩
      unfold kvsI valN
      rw [List.find?_cons_of_neg]
      · have := h2
        unfold valN at this
        rw [this, show i + 1 + j = i + (j + 1) by omega]
      · simp only [decide_eq_true_eq]
        exact fun z => e (keyN_inj z)
theorem kvsI_app : ∀ (i : Nat) (Rs : List (List Int)) (ns : List Int), kvsI i (Rs ++ [ns]) = kvsI i Rs ++ [(keyN ns, .tup (intsD ns), .int ((i + Rs.length : Nat) : Int))]
  | i, [], ns => rfl
  | i, r :: rs, ns => by
    show _ :: kvsI (i + 1) (rs ++ [ns]) = _ :: (kvsI (i + 1) rs ++ _)
    rw [kvsI_app (i + 1) rs ns, List.length_cons, show i + 1 + rs.length = i + (rs.length + 1) by omega]
theorem putN_new {Rs : List (List Int)} {ns : List Int} (h : ns ∉ Rs) : putN (kvsOf Rs) (keyN ns) (.tup (intsD ns)) (.int (Rs.length : Int)) = kvsOf (Rs ++ [ns]) := by
  unfold putN kvsOf
  rw [valN_no 0 h, if_neg (by decide), kvsI_app, Nat.zero_add]
theorem depth_num : ∀ ns : List Int, NestedKey.depthAll (ns.map .num) ≤ 1
  | [] => by simp [NestedKey.depthAll]
  | n :: ns => by
    have := depth_num ns
    simp only [List.map_cons, NestedKey.depthAll, NestedKey.depth]
    omega
theorem nkey_ok (ns : List Int) : NKey (.tup (intsD ns)) (keyN ns) := by
  refine ⟨_, rfl, ?_, ?_⟩
  · simp only [nkey, intsD, nkeyL_ints]; rfl
  · have := depth_num ns
    simp only [keyN, NestedKey.depth]
    omega
theorem goodK : ∀ (i : Nat) (Rs : List (List Int)), GoodK (kvsI i Rs)
  | i, [] => fun x h => nomatch h
  | i, r :: rs => fun x h => by
    rcases List.mem_cons.mp h with rfl | h
    · exact nkey_ok r
    · exact goodK (i + 1) rs x h
def NdOk (many N : Nat) (T : List Nd) (Rs : List (List Int)) (i : Nat) : Prop :=
  (∃ n : Nat, n < N ∧ T[i]? = some (.leaf n) ∧ Rs[i]? = some [(n : Int)]) ∨
  ∃ j lo hi ns, T[i]? = some (.node (many - (j + 1)) lo hi) ∧ Rs[i]? = some ns ∧ ns.length = 2 ^ (j + 1) ∧ j + 1 ≤ many ∧ lo < i ∧ hi < i ∧ Rs[lo]? = some (shr j (ns.take (2 ^ j))) ∧ Rs[hi]? = some (shr j (ns.drop (2 ^ j)))
structure Tbl (many N : Nat) (T : List Nd) (Rs : List (List Int)) : Prop where
  len : T.length = Rs.length
  nd : Rs.Nodup
  ok : ∀ i, i < Rs.length → NdOk many N T Rs i
theorem shr_len : ∀ (m : Nat) (ns : List Int), ns.length = 2 ^ m → ∃ j, j ≤ m ∧ (shr m ns).length = 2 ^ j
  | 0, ns, h => ⟨0, Nat.le_refl _, h⟩
  | m + 1, ns, h => by
    unfold shr
    split
    · obtain ⟨j, h1, h2⟩ := shr_len m (ns.take (2 ^ m)) (by rw [List.length_take, h, Nat.pow_succ]; omega)
      exact ⟨j, by omega, h2⟩
    · exact ⟨m + 1, Nat.le_refl _, h⟩
theorem shr_mem : ∀ (m : Nat) (ns : List Int) (x : Int), x ∈ shr m ns → x ∈ ns
  | 0, ns, x, h => h
  | m + 1, ns, x, h => by
    unfold shr at h
    split at h
    · exact List.mem_of_mem_take (shr_mem m _ x h)
    · exact h
def spPut (w : World) (J : Nat) : SpD := fun ds W R => ∃ (j many : Nat) (ns : List Int) (v nd nm : Addr) (vs : List D) (T : List Nd) (Rs : List (List Int)), ds = [.tup (intsD ns), .int (many : Int), .ref v, .ref nd, .ref nm] ∧ ns.length = 2 ^ j ∧ j < J ∧ j ≤ many ∧ many ≤ 10 ∧
  (∀ x ∈ ns, 0 ≤ x ∧ x < vs.length) ∧ W v = some (.lst vs) ∧ W nd = some (.lst (T.map (ndD vs))) ∧ W nm = some (.dn w (kvsOf Rs)) ∧ v ≠ nd ∧ Tbl many vs.length T Rs ∧ T.length + 2 ^ (j + 1) ≤ 100000 ∧
  ∀ W' T' Rs' i, Tbl many vs.length T' Rs' → (∃ more, Rs' = Rs ++ more) → T'.length < T.length + 2 ^ (j + 1) → (∀ r ∈ Rs', r ∈ Rs ∨ r.length ≤ 2 ^ j) → Rs'[i]? = some ns → (ns ∉ Rs → i + 1 = T'.length) → W' nd = some (.lst (T'.map (ndD vs))) → W' nm = some (.dn w (kvsOf Rs')) →
    (∀ b m, b ≠ nd → b ≠ nm → W b = some m → W' b = some m) → R (.int (i : Int)) W'
end K51

namespace K51
open PySem PySem.Spec L2 RZ DL
open PyProof.Rows hiding St
local macro_rules | `(tactic| walk_at "d1") => `(tactic| (first
  | with_reducible refine E_seq ?_ | with_reducible refine E_ifS ?_ | with_reducible refine E_ret ?_ | with_reducible refine E_retN ?_ | with_reducible refine E_asg ?_ | with_reducible refine E_drop ?_ | with_reducible refine E_next ?_ | with_reducible refine E_cont ?_ | with_reducible refine E_break ?_
  | with_reducible refine E_not ?_ | with_reducible refine E_truth ?_ | with_reducible refine E_and ?_ | with_reducible refine E_or ?_ | with_reducible refine E_test ?_ | with_reducible refine E_yes ?_ | with_reducible refine E_andV ?_ | with_reducible refine E_orV ?_ | with_reducible refine E_notV ?_ | with_reducible refine E_if ?_
  | with_reducible refine E_op ?_ | with_reducible refine E_un ?_ | with_reducible refine E_chain ?_ | with_reducible refine E_var rfl ?_ | with_reducible refine E_c ?_ | with_reducible refine E_cb ?_ | with_reducible refine E_call ?_ | with_reducible refine E_cons ?_ | with_reducible refine E_nil ?_
  | with_reducible refine E_tup ?_ | with_reducible refine E_lst ?_ | with_reducible refine E_sl ?_ | with_reducible refine E_part ?_ | with_reducible refine E_no ?_ | with_reducible refine E_ml ?_ | with_reducible refine E_bits ?_ | with_reducible refine E_rev ?_
  | with_reducible refine E_gN ?_ | with_reducible refine E_gT rfl ?_ | with_reducible refine E_gsC ?_ | with_reducible refine E_gsN ?_ | with_reducible refine E_gIx ?_ | with_reducible refine E_for ?_ | with_reducible refine E_lc ?_
  | with_reducible refine E_dget ?_ | with_reducible refine E_din ?_ | with_reducible refine E_dput ?_ | with_reducible refine E_dpop ?_ | with_reducible refine E_nget ?_ | with_reducible refine E_nin ?_ | with_reducible refine E_nput ?_
  | with_reducible refine E_aug rfl ?_ | with_reducible refine E_augIx ?_ | with_reducible refine E_iSeq ?_ | with_reducible refine E_iRg1 ?_ | with_reducible refine E_iZipT ?_
  | with_reducible refine E_I0 ?_ | with_reducible refine E_bl ?_ | with_reducible refine E_tbl ?_ | with_reducible refine E_int ?_ | with_reducible refine E_mlA (by assumption) ?_ | with_reducible refine E_ref ?_ | with_reducible refine E_slT ?_ | with_reducible refine E_lenT ?_ | with_reducible refine E_iteT ?_ | with_reducible refine E_iteF ?_ | with_reducible refine E_int1 ?_ | with_reducible refine E_int1b ?_ | with_reducible refine E_abs ?_
  | ((with_reducible refine E_I ?_ ?_); focus (first | assumption | exact Or.inl ⟨by decide, by decide⟩ | exact Or.inr ⟨by decide, by decide⟩ | exact ⟨by decide, by decide, by decide⟩ | exact ⟨by decide, by decide⟩ | exact pow_posI _ | (show (0 : Int) < _; decide) | (show (0 : Int) ≤ _; decide))) | with_reducible refine E_lenL (by assumption) ?_
  | with_reducible refine E_ixL (by assumption) ?_ | with_reducible refine E_ixT ?_ | with_reducible refine OptD.mk rfl ?_))
local macro_rules | `(tactic| walk_at "dx") => `(tactic| (first
  | with_reducible refine E_seq ?_ | with_reducible refine E_ret ?_ | with_reducible refine E_retN ?_ | with_reducible refine E_asg ?_ | with_reducible refine E_drop ?_ | with_reducible refine E_next ?_ | with_reducible refine E_cont ?_ | with_reducible refine E_break ?_
  | with_reducible refine E_not ?_ | with_reducible refine E_truth ?_ | with_reducible refine E_and ?_ | with_reducible refine E_or ?_ | with_reducible refine E_test ?_ | with_reducible refine E_yes ?_ | with_reducible refine E_andV ?_ | with_reducible refine E_orV ?_ | with_reducible refine E_notV ?_ | with_reducible refine E_if ?_
  | with_reducible refine E_op ?_ | with_reducible refine E_un ?_ | with_reducible refine E_chain ?_ | with_reducible refine E_var rfl ?_ | with_reducible refine E_c ?_ | with_reducible refine E_cb ?_ | with_reducible refine E_call ?_ | with_reducible refine E_cons ?_ | with_reducible refine E_nil ?_
  | with_reducible refine E_tup ?_ | with_reducible refine E_lst ?_ | with_reducible refine E_sl ?_ | with_reducible refine E_part ?_ | with_reducible refine E_no ?_ | with_reducible refine E_ml ?_ | with_reducible refine E_bits ?_ | with_reducible refine E_rev ?_
  | with_reducible refine E_gN ?_ | with_reducible refine E_gT rfl ?_ | with_reducible refine E_gsC ?_ | with_reducible refine E_gsN ?_ | with_reducible refine E_gIx ?_ | with_reducible refine E_for ?_ | with_reducible refine E_lc ?_
  | with_reducible refine E_dget ?_ | with_reducible refine E_din ?_ | with_reducible refine E_dput ?_ | with_reducible refine E_dpop ?_ | with_reducible refine E_nget ?_ | with_reducible refine E_nin ?_ | with_reducible refine E_nput ?_
  | with_reducible refine E_aug rfl ?_ | with_reducible refine E_augIx ?_ | with_reducible refine E_iSeq ?_ | with_reducible refine E_iRg1 ?_ | with_reducible refine E_iZipT ?_
  | with_reducible refine E_I0 ?_ | with_reducible refine E_bl ?_ | with_reducible refine E_tbl ?_ | with_reducible refine E_int ?_ | with_reducible refine E_mlA (by assumption) ?_ | with_reducible refine E_ref ?_ | with_reducible refine E_slT ?_ | with_reducible refine E_lenT ?_ | with_reducible refine E_iteT ?_ | with_reducible refine E_iteF ?_ | with_reducible refine E_int1 ?_ | with_reducible refine E_int1b ?_ | with_reducible refine E_abs ?_
  | ((with_reducible refine E_I ?_ ?_); focus (first | assumption | exact Or.inl ⟨by decide, by decide⟩ | exact Or.inr ⟨by decide, by decide⟩ | exact ⟨by decide, by decide, by decide⟩ | exact ⟨by decide, by decide⟩ | exact pow_posI _ | (show (0 : Int) < _; decide) | (show (0 : Int) ≤ _; decide))) | with_reducible refine E_lenL (by assumption) ?_
  | with_reducible refine E_ixL (by assumption) ?_ | with_reducible refine E_ixT ?_ | with_reducible refine OptD.mk rfl ?_))
theorem NdOk.snoc {many N : Nat} {T : List Nd} {Rs : List (List Int)} {x : Nd} {ns : List Int} {i : Nat} (hT : i < T.length) (hR : i < Rs.length) (h : NdOk many N T Rs i) : NdOk many N (T ++ [x]) (Rs ++ [ns]) i := by
  rcases h with ⟨n, h1, h2, h3⟩ | ⟨j, lo, hi, ms, h1, h2, h3, h4, h5, h6, h7, h8⟩
  · exact .inl ⟨n, h1, by rw [List.getElem?_append_left hT]; exact h2, by rw [List.getElem?_append_left hR]; exact h3⟩
  · exact .inr ⟨j, lo, hi, ms, by rw [List.getElem?_append_left hT]; exact h1, by rw [List.getElem?_append_left hR]; exact h2, h3, h4, h5, h6, by rw [List.getElem?_append_left (by omega)]; exact h7, by rw [List.getElem?_append_left (by omega)]; exact h8⟩
theorem Tbl.snoc {many N : Nat} {T : List Nd} {Rs : List (List Int)} {x : Nd} {ns : List Int} (t : Tbl many N T Rs) (hns : ns ∉ Rs) (h : NdOk many N (T ++ [x]) (Rs ++ [ns]) T.length) : Tbl many N (T ++ [x]) (Rs ++ [ns]) where
  len := by rw [List.length_append, List.length_append, t.len]; rfl
  nd := by
    refine List.nodup_append.mpr ⟨t.nd, by simp, fun a ha b hb e => ?_⟩
    rw [List.mem_singleton.mp hb] at e
    exact hns (e ▸ ha)
  ok := fun i hi => by
    rw [List.length_append, List.length_singleton] at hi
    by_cases h2 : i < Rs.length
    · exact (t.ok i h2).snoc (by rw [t.len]; exact h2) h2
    · have : i = T.length := by rw [t.len]; omega
      rw [this]
      exact h
theorem half_zero (j : Nat) : PyData.eqv (.int ((2 ^ j / 2 : Nat) : Int)) (.int 0) = decide (j = 0) := by
  simp only [PyData.eqv]
  rw [Bool.eq_iff_iff]
  simp only [beq_iff_eq, decide_eq_true_eq]
  cases j with
  | zero => decide
  | succ j =>
    have e1 : 2 ^ (j + 1) / 2 = 2 ^ j := by rw [Nat.pow_succ, Nat.mul_div_cancel _ (by decide)]
    rw [e1]
    have := Nat.two_pow_pos j
    constructor
    · intro h
      have h2 : (2 ^ j : Nat) = 0 := Int.ofNat.inj h
      omega
    · intro h
      cases h
theorem bits_pow (j : Nat) : Builtin.Int.intBits ((2 ^ j : Nat) : Int) = j + 1 := by
  unfold Builtin.Int.intBits
  have h : ((2 ^ j : Nat) : Int) ≠ 0 := by
    have := Nat.two_pow_pos j
    intro e
    have h2 : (2 ^ j : Nat) = 0 := Int.ofNat.inj e
    omega
  rw [if_neg (by simpa using h), Int.natAbs_natCast, Nat.log2_two_pow]
section
variable {P : Program} {w : World} {K : Frag} {mg : Str → Option Value} {base : Heap}
abbrev st__law_put : Stmt := topS 14
abbrev N__law_put : List Str := ["_law_row_here", "_law_many", "_law_values_here", "_law_nodes_here", "_law_names", "_law_half", "_law_low", "_law_high"]
theorem sc__law_put : FnScope N__law_put ["_law_row_here", "_law_many", "_law_values_here", "_law_nodes_here", "_law_names"] (defScope st__law_put) := ⟨rfl, rfl, rfl, by decide +kernel, rfl, by decide +kernel, by decide +kernel⟩
theorem start__law_put (x0 x1 x2 x3 x4 : D) : startD N__law_put [x0, x1, x2, x3, x4] = [some x0, some x1, some x2, some x3, some x4, none, none, none] := rfl
theorem ok_put_step {f : Addr} {fd : FuncData} (F : Fun K "_law_put" "_law_put" st__law_put f fd) (g : mg "_law_put" = some (.ref f)) (b : Binds K fd ["_law_row_here", "_law_many", "_law_values_here", "_law_nodes_here", "_law_names"] []) (B : Bi mg) (J : Nat) (F__law_shrunk : Fn P w K mg base 1 "_law_shrunk" spShr) (F__law_put : Fn P w K mg base (J + 1) "_law_put" (spPut w J)) : Fn P w K mg base (J + 2) "_law_put" (spPut w (J + 1)) := by
  refine fn_mk F sc__law_put g b (fun ds W R h => by obtain ⟨a, _, _, _, _, _, _, _, _, rfl, _⟩ := h; rfl) fun cdv A outer s H E hr => ⟨_, 
      (s_cons (s_if (d_ninT (hr.u 20) (d_var 0) (d_var 4)) (s_one (s_ret (d_nget (hr.u 20) (d_var 4) (d_var 0)))) s_nil)
      (s_cons (s_set (i := 5) sc__law_put.nd rfl (by first | exact .inl rfl | exact .inr rfl) (d_fdiv (d_len B.len (da_cons (d_var 0) da_nil)) d_int))
      (s_cons (s_if (d_cmpT (op_eqD (hr.u 64)) od_eq (d_var 5) d_int (nomark _)) (s_one (s_expr (d_append (d_var 3) (da_cons (d_tup (da_cons d_str (da_cons (d_ix (d_var 2) (d_ix (d_var 0) d_int)) da_nil))) da_nil)))) (s_cons (s_set (i := 6) sc__law_put.nd rfl (by first | exact .inl rfl | exact .inr rfl) (d_call F__law_put (hr.mono (by omega)) (da_cons (d_call F__law_shrunk (hr.mono (by omega)) (da_cons (d_slice (d_var 0) do_no (do_some (d_var 5))) da_nil)) (da_cons (d_var 1) (da_cons (d_var 2) (da_cons (d_var 3) (da_cons (d_var 4) da_nil)))))))
      (s_cons (s_set (i := 7) sc__law_put.nd rfl (by first | exact .inl rfl | exact .inr rfl) (d_call F__law_put (hr.mono (by omega)) (da_cons (d_call F__law_shrunk (hr.mono (by omega)) (da_cons (d_slice (d_var 0) (do_some (d_var 5)) do_no) da_nil)) (da_cons (d_var 1) (da_cons (d_var 2) (da_cons (d_var 3) (da_cons (d_var 4) da_nil)))))))
      (s_one (s_expr (d_append (d_var 3) (da_cons (d_tup (da_cons (d_sub (d_var 1) (d_bits (d_var 5))) (da_cons (d_var 6) (da_cons (d_var 7) da_nil)))) da_nil)))))))
      (s_cons (s_nput (hr.u 20) (d_var 4) (d_var 0) (d_sub (d_len B.len (da_cons (d_var 3) da_nil)) d_int))
      (s_one (s_ret (d_nget (hr.u 20) (d_var 4) (d_var 0)))))))), fun ds W R h => ?_⟩
  obtain ⟨j, many, ns, v, nd, nm, vs, T, Rs, rfl, hl, hj, hjm, hm, hin, hv, hnd, hnm, hvn, ht, hz, q⟩ := h
  rw [start__law_put]
  refine E_start ?_
  have hnn : nd ≠ nm := fun e => by rw [e, hnm] at hnd; cases hnd
  have hvm : v ≠ nm := fun e => by rw [e, hnm] at hv; cases hv
  have gv : ∀ o, o = valN (kvsOf Rs) (keyN ns) → GetN w W nm (.tup (intsD ns)) o := fun o e => ⟨_, _, hnm, goodK 0 Rs, nkey_ok ns, e⟩
  repeat walk_at "d1"
  by_cases hmem : ns ∈ Rs
  · obtain ⟨i, hi, hval⟩ := valN_yes 0 hmem
    rw [Nat.zero_add] at hval
    refine ⟨nm, some (.int (i : Int)), rfl, gv _ hval.symm, ?_⟩
    refine E_bl ?_
    refine E_ite (fun _ => ?_) (fun h => by simp at h)
    repeat walk_at "d1"
    refine ⟨nm, _, rfl, gv _ hval.symm, ?_⟩
    refine E_end (q W T Rs i ht ⟨[], (List.append_nil _).symm⟩ (by have := Nat.two_pow_pos (j + 1); omega) (fun r h => .inl h) hi (fun h => absurd hmem h) hnd hnm fun b m _ _ h => h)
  have hlen : (((intsD ns).length : Nat) : Int) / 2 = ((2 ^ j / 2 : Nat) : Int) := by
    rw [intsD_len, hl]
    exact (Int.natCast_ediv (2 ^ j) 2).symm
  refine ⟨nm, none, rfl, gv _ (valN_no 0 hmem).symm, ?_⟩
  refine E_bl ?_
  refine E_ite (fun h => by simp at h) (fun _ => ?_)
  refine E_next ?_
  refine E_seq ?_
  repeat walk_at "dx"
  rw [hlen]
  refine E_join (fun ρ' W' => ∃ T' Rs' x o6 o7, ρ' = [some (.tup (intsD ns)), some (.int (many : Int)), some (.ref v), some (.ref nd), some (.ref nm), some (.int ((2 ^ j / 2 : Nat) : Int)), o6, o7] ∧ Tbl many vs.length T' Rs' ∧ Tbl many vs.length (T' ++ [x]) (Rs' ++ [ns]) ∧
    (∃ more, Rs' = Rs ++ more) ∧ T'.length + 1 < T.length + 2 ^ (j + 1) ∧ (∀ r ∈ Rs', r ∈ Rs ∨ r.length ≤ 2 ^ j) ∧ W' nd = some (.lst ((T' ++ [x]).map (ndD vs))) ∧ W' nm = some (.dn w (kvsOf Rs')) ∧ ∀ b m, b ≠ nd → b ≠ nm → W b = some m → W' b = some m) ?_ ?_
  · rintro ρ' W' ⟨T', Rs', x, o6, o7, rfl, t1, t2, ⟨more, rfl⟩, hz2, hrs, h1, h2, h3⟩
    have hns : ns ∉ Rs ++ more := fun h => by
      have := (List.nodup_append.mp t2.nd).2.2 ns h ns (List.mem_singleton_self _)
      exact this rfl
    repeat walk_at "d1"
    have e1 : ((((T' ++ [x]).map (ndD vs)).length : Nat) : Int) - 1 = ((Rs ++ more).length : Int) := by
      rw [List.length_map, List.length_append, t1.len, List.length_singleton]
      omega
    rw [e1]
    refine ⟨nm, _, rfl, ⟨_, _, h2, goodK 0 _, nkey_ok ns, ?_, rfl⟩, ?_⟩
    · rw [kvsOf, kvsI_len, sz_eq, ← t1.len]; omega
    rw [putN_new hns]
    have h4 : wset W' nm (.dn w (kvsOf (Rs ++ more ++ [ns]))) nm = some (.dn w (kvsOf (Rs ++ more ++ [ns]))) := wset_same
    repeat walk_at "d1"
    obtain ⟨i, hi, hval⟩ := valN_yes (Rs := Rs ++ more ++ [ns]) (ns := ns) 0 (by simp)
    rw [Nat.zero_add] at hval
    refine ⟨nm, _, rfl, ⟨_, _, h4, goodK 0 _, nkey_ok ns, hval.symm⟩, ?_⟩
    have hi2 : i = (Rs ++ more).length := by
      by_cases hlt : i < (Rs ++ more).length
      · rw [List.getElem?_append_left hlt] at hi
        exact absurd (List.mem_of_getElem? hi) hns
      · have := (List.getElem?_eq_some_iff.mp hi).1
        simp only [List.length_append, List.length_singleton] at this hlt ⊢
        omega
    refine E_end (q _ (T' ++ [x]) (Rs ++ more ++ [ns]) i t2 ⟨more ++ [ns], by rw [List.append_assoc]⟩ (by rw [List.length_append, List.length_singleton]; exact hz2) ?_ hi ?_ (by rw [wset_ne hnn]; exact h1) h4 ?_)
    · intro r hr
      rcases List.mem_append.mp hr with h | h
      · exact hrs r h
      · rw [List.mem_singleton.mp h, hl]; exact .inr (Nat.le_refl _)
    · intro _
      rw [hi2, ← t1.len, List.length_append, List.length_singleton]
    · intro b m hb1 hb2 hb
      rw [wset_ne hb2]
      exact h3 b m hb1 hb2 hb
  · intro N hN
    repeat walk_at "d1"
    refine ⟨_, _, rfl, rfl, rfl, rfl, ?_⟩
    rw [half_zero]
    repeat walk_at "d1"
    refine E_dec (fun hj0 => ?_) (fun hj0 => ?_)
    · subst hj0
      obtain ⟨n, rfl⟩ : ∃ n, ns = [n] := by
        match ns, hl with
        | [n], _ => exact ⟨n, rfl⟩
      obtain ⟨hn0, hn1⟩ := hin n (List.mem_singleton_self _)
      have hat : atI vs n = some (vs.getD n.toNat .non) := by
        rw [atI_ge hn0, List.getElem?_eq_getElem (by omega), List.getD_eq_getElem?_getD, List.getElem?_eq_getElem (by omega)]; rfl
      have hx : NdOk many vs.length (T ++ [.leaf n.toNat]) (Rs ++ [[n]]) T.length :=
        .inl ⟨n.toNat, by omega, by rw [List.getElem?_append_right (Nat.le_refl _), Nat.sub_self]; rfl, by rw [ht.len, List.getElem?_append_right (Nat.le_refl _), Nat.sub_self, Int.toNat_of_nonneg hn0]; rfl⟩
      repeat walk_at "d1"
      refine OptD.mk hat ?_
      repeat walk_at "d1"
      refine ⟨by show 2 ≤ sizeLine; rw [sz_eq]; omega, ?_⟩
      repeat walk_at "d1"
      refine ⟨_, _, rfl, hnd, by rw [List.length_map, sz_eq]; omega, ?_⟩
      refine hN _ _ ⟨T, Rs, .leaf n.toNat, none, none, rfl, ht, ht.snoc hmem hx, ⟨[], (List.append_nil _).symm⟩, by simp only [Nat.zero_add]; omega, fun r h => .inl h, by rw [wset_same, List.map_append]; rfl, by rw [wset_ne (Ne.symm hnn)]; exact hnm, fun b m h1 h2 h => by rw [wset_ne h1]; exact h⟩
    · obtain ⟨j, rfl⟩ : ∃ i, j = i + 1 := ⟨j - 1, by omega⟩
      have e1 : 2 ^ (j + 1) / 2 = 2 ^ j := by rw [Nat.pow_succ, Nat.mul_div_cancel _ (by decide)]
      rw [e1]
      have hp1 : 2 ^ (j + 1) = 2 * 2 ^ j := by rw [Nat.pow_succ]; omega
      have hp2 : 2 ^ (j + 1 + 1) = 4 * 2 ^ j := by rw [Nat.pow_succ, Nat.pow_succ]; omega
      have hl1 : (ns.take (2 ^ j)).length = 2 ^ j := by rw [List.length_take, hl]; omega
      have hl2 : (ns.drop (2 ^ j)).length = 2 ^ j := by rw [List.length_drop, hl]; omega
      obtain ⟨j1, hj1, hs1⟩ := shr_len j _ hl1
      obtain ⟨j2, hj2, hs2⟩ := shr_len j _ hl2
      have hq1 : 2 ^ j1 ≤ 2 ^ j := Nat.pow_le_pow_right (by decide) hj1
      have hq2 : 2 ^ j2 ≤ 2 ^ j := Nat.pow_le_pow_right (by decide) hj2
      have hr1 : 2 ^ (j1 + 1) = 2 * 2 ^ j1 := by rw [Nat.pow_succ]; omega
      have hr2 : 2 ^ (j2 + 1) = 2 * 2 ^ j2 := by rw [Nat.pow_succ]; omega
      have hpos := Nat.two_pow_pos j
      repeat walk_at "d1"
      rw [cut_to, intsD_take]
      refine ⟨j, _, rfl, hl1, by omega, ?_⟩
      repeat walk_at "d1"
      refine ⟨j1, many, _, v, nd, nm, vs, T, Rs, rfl, hs1, by omega, by omega, hm, fun x hx => hin x (List.mem_of_mem_take (shr_mem j _ x hx)), hv, hnd, hnm, hvn, ht, by omega, ?_⟩
      rintro W1 T1 _ i1 t1 ⟨m1, rfl⟩ z1 r1 g1 _ nd1 nm1 k1
      repeat walk_at "d1"
      rw [cut_from, intsD_drop]
      refine ⟨j, _, rfl, hl2, by omega, ?_⟩
      repeat walk_at "d1"
      refine ⟨j2, many, _, v, nd, nm, vs, T1, _, rfl, hs2, by omega, by omega, hm, fun x hx => hin x (List.mem_of_mem_drop (shr_mem j _ x hx)), k1 _ _ hvn hvm hv, nd1, nm1, hvn, t1, by omega, ?_⟩
      rintro W2 T2 _ i2 t2 ⟨m2, rfl⟩ z2 r2 g2 _ nd2 nm2 k2
      repeat walk_at "d1"
      refine ⟨by show 3 ≤ sizeLine; rw [sz_eq]; omega, ?_⟩
      repeat walk_at "d1"
      refine ⟨_, _, rfl, nd2, by rw [List.length_map, sz_eq]; omega, ?_⟩
      have hb : ((many : Int) - ((Builtin.Int.intBits ((2 ^ j : Nat) : Int) : Nat) : Int)) = ((many - (j + 1) : Nat) : Int) := by
        rw [bits_pow]; omega
      have hout : ns ∉ Rs ++ m1 ++ m2 := fun h => by
        rcases r2 ns h with h | h
        · rcases r1 ns h with h | h
          · exact hmem h
          · omega
        · omega
      have hi1 : i1 < (Rs ++ m1).length := (List.getElem?_eq_some_iff.mp g1).1
      have hi2 : i2 < (Rs ++ m1 ++ m2).length := (List.getElem?_eq_some_iff.mp g2).1
      have hi1' : i1 < (Rs ++ m1 ++ m2).length := by rw [List.length_append]; omega
      have hx : NdOk many vs.length (T2 ++ [.node (many - (j + 1)) i1 i2]) (Rs ++ m1 ++ m2 ++ [ns]) T2.length :=
        .inr ⟨j, i1, i2, ns, by rw [List.getElem?_append_right (Nat.le_refl _), Nat.sub_self]; rfl, by rw [t2.len, List.getElem?_append_right (Nat.le_refl _), Nat.sub_self]; rfl, hl, hjm, by rw [t2.len]; exact hi1', by rw [t2.len]; exact hi2,
          by rw [List.getElem?_append_left hi1', List.getElem?_append_left hi1]; exact g1, by rw [List.getElem?_append_left hi2]; exact g2⟩
      refine hN _ _ ⟨T2, Rs ++ m1 ++ m2, .node (many - (j + 1)) i1 i2, _, _, by rw [e1]; rfl, t2, t2.snoc hout hx, ⟨m1 ++ m2, by rw [List.append_assoc]⟩, by omega, ?_, by rw [wset_same, List.map_append, hb]; rfl, by rw [wset_ne (Ne.symm hnn)]; exact nm2, fun b m h1 h2 h => by rw [wset_ne h1]; exact k2 b m h1 h2 (k1 b m h1 h2 h)⟩
      intro r hr
      rcases r2 r hr with h | h
      · rcases r1 r h with h | h
        · exact .inl h
        · exact .inr (by omega)
      · exact .inr (by omega)
theorem ok_put {f : Addr} {fd : FuncData} (F : Fun K "_law_put" "_law_put" st__law_put f fd) (g : mg "_law_put" = some (.ref f)) (b : Binds K fd ["_law_row_here", "_law_many", "_law_values_here", "_law_nodes_here", "_law_names"] []) (B : Bi mg) (F__law_shrunk : Fn P w K mg base 1 "_law_shrunk" spShr) : ∀ J, Fn P w K mg base (J + 1) "_law_put" (spPut w J)
  | 0 => ((Fn.never F g b).mono (Nat.zero_le _)).imp fun ds W R h => by
    obtain ⟨_, _, _, _, _, _, _, _, _, _, _, hj, _⟩ := h
    exact absurd hj (Nat.not_lt_zero _)
  | J + 1 => ok_put_step F g b B J F__law_shrunk (ok_put F g b B F__law_shrunk J)
end
end K51

namespace K51
open PySem PySem.Spec L2 RZ DL
open PyProof.Rows hiding St
local macro_rules | `(tactic| walk_at "d1") => `(tactic| (first
  | with_reducible refine E_seq ?_ | with_reducible refine E_ifS ?_ | with_reducible refine E_ret ?_ | with_reducible refine E_retN ?_ | with_reducible refine E_asg ?_ | with_reducible refine E_drop ?_ | with_reducible refine E_next ?_ | with_reducible refine E_cont ?_ | with_reducible refine E_break ?_
  | with_reducible refine E_not ?_ | with_reducible refine E_truth ?_ | with_reducible refine E_and ?_ | with_reducible refine E_or ?_ | with_reducible refine E_test ?_ | with_reducible refine E_yes ?_ | with_reducible refine E_andV ?_ | with_reducible refine E_orV ?_ | with_reducible refine E_notV ?_ | with_reducible refine E_if ?_
  | with_reducible refine E_op ?_ | with_reducible refine E_un ?_ | with_reducible refine E_chain ?_ | with_reducible refine E_var rfl ?_ | with_reducible refine E_c ?_ | with_reducible refine E_cb ?_ | with_reducible refine E_call ?_ | with_reducible refine E_cons ?_ | with_reducible refine E_nil ?_
  | with_reducible refine E_tup ?_ | with_reducible refine E_lst ?_ | with_reducible refine E_sl ?_ | with_reducible refine E_part ?_ | with_reducible refine E_no ?_ | with_reducible refine E_ml ?_ | with_reducible refine E_bits ?_ | with_reducible refine E_rev ?_
  | with_reducible refine E_gN ?_ | with_reducible refine E_gT rfl ?_ | with_reducible refine E_gsC ?_ | with_reducible refine E_gsN ?_ | with_reducible refine E_gIx ?_ | with_reducible refine E_for ?_ | with_reducible refine E_lc ?_
  | with_reducible refine E_dget ?_ | with_reducible refine E_din ?_ | with_reducible refine E_dput ?_ | with_reducible refine E_dpop ?_ | with_reducible refine E_nget ?_ | with_reducible refine E_nin ?_ | with_reducible refine E_nput ?_
  | with_reducible refine E_aug rfl ?_ | with_reducible refine E_augIx ?_ | with_reducible refine E_iSeq ?_ | with_reducible refine E_iRg1 ?_ | with_reducible refine E_iZipT ?_
  | with_reducible refine E_I0 ?_ | with_reducible refine E_bl ?_ | with_reducible refine E_tbl ?_ | with_reducible refine E_int ?_ | with_reducible refine E_mlA (by assumption) ?_ | with_reducible refine E_ref ?_ | with_reducible refine E_slT ?_ | with_reducible refine E_lenT ?_ | with_reducible refine E_iteT ?_ | with_reducible refine E_iteF ?_ | with_reducible refine E_int1 ?_ | with_reducible refine E_int1b ?_ | with_reducible refine E_abs ?_
  | ((with_reducible refine E_I ?_ ?_); focus (first | assumption | exact Or.inl ⟨by decide, by decide⟩ | exact Or.inr ⟨by decide, by decide⟩ | exact ⟨by decide, by decide, by decide⟩ | exact ⟨by decide, by decide⟩ | exact pow_posI _ | (show (0 : Int) < _; decide) | (show (0 : Int) ≤ _; decide))) | with_reducible refine E_lenL (by assumption) ?_
  | with_reducible refine E_ixL (by assumption) ?_ | with_reducible refine E_ixT ?_ | with_reducible refine OptD.mk rfl ?_ | refine E_le rfl ?_))
local macro_rules | `(tactic| walk_at "dx") => `(tactic| (first
  | with_reducible refine E_seq ?_ | with_reducible refine E_ret ?_ | with_reducible refine E_retN ?_ | with_reducible refine E_asg ?_ | with_reducible refine E_drop ?_ | with_reducible refine E_next ?_ | with_reducible refine E_cont ?_ | with_reducible refine E_break ?_
  | with_reducible refine E_not ?_ | with_reducible refine E_truth ?_ | with_reducible refine E_and ?_ | with_reducible refine E_or ?_ | with_reducible refine E_test ?_ | with_reducible refine E_yes ?_ | with_reducible refine E_andV ?_ | with_reducible refine E_orV ?_ | with_reducible refine E_notV ?_ | with_reducible refine E_if ?_
  | with_reducible refine E_op ?_ | with_reducible refine E_un ?_ | with_reducible refine E_chain ?_ | with_reducible refine E_var rfl ?_ | with_reducible refine E_c ?_ | with_reducible refine E_cb ?_ | with_reducible refine E_call ?_ | with_reducible refine E_cons ?_ | with_reducible refine E_nil ?_
  | with_reducible refine E_tup ?_ | with_reducible refine E_lst ?_ | with_reducible refine E_sl ?_ | with_reducible refine E_part ?_ | with_reducible refine E_no ?_ | with_reducible refine E_ml ?_ | with_reducible refine E_bits ?_ | with_reducible refine E_rev ?_
  | with_reducible refine E_gN ?_ | with_reducible refine E_gT rfl ?_ | with_reducible refine E_gsC ?_ | with_reducible refine E_gsN ?_ | with_reducible refine E_gIx ?_ | with_reducible refine E_for ?_ | with_reducible refine E_lc ?_
  | with_reducible refine E_dget ?_ | with_reducible refine E_din ?_ | with_reducible refine E_dput ?_ | with_reducible refine E_dpop ?_ | with_reducible refine E_nget ?_ | with_reducible refine E_nin ?_ | with_reducible refine E_nput ?_
  | with_reducible refine E_aug rfl ?_ | with_reducible refine E_augIx ?_ | with_reducible refine E_iSeq ?_ | with_reducible refine E_iRg1 ?_ | with_reducible refine E_iZipT ?_
  | with_reducible refine E_I0 ?_ | with_reducible refine E_bl ?_ | with_reducible refine E_tbl ?_ | with_reducible refine E_int ?_ | with_reducible refine E_mlA (by assumption) ?_ | with_reducible refine E_ref ?_ | with_reducible refine E_slT ?_ | with_reducible refine E_lenT ?_ | with_reducible refine E_iteT ?_ | with_reducible refine E_iteF ?_ | with_reducible refine E_int1 ?_ | with_reducible refine E_int1b ?_ | with_reducible refine E_abs ?_
  | ((with_reducible refine E_I ?_ ?_); focus (first | assumption | exact Or.inl ⟨by decide, by decide⟩ | exact Or.inr ⟨by decide, by decide⟩ | exact ⟨by decide, by decide, by decide⟩ | exact ⟨by decide, by decide⟩ | exact pow_posI _ | (show (0 : Int) < _; decide) | (show (0 : Int) ≤ _; decide))) | with_reducible refine E_lenL (by assumption) ?_
  | with_reducible refine E_ixL (by assumption) ?_ | with_reducible refine E_ixT ?_ | with_reducible refine OptD.mk rfl ?_ | refine E_le rfl ?_))
def spNodes : SpD := fun ds W R => ∃ (r v : Addr) (many : Nat) (ns : List Int) (vs : List D), ds = [.ref r, .int (many : Int), .ref v] ∧ W r = some (.lst (intsD ns)) ∧ ns.length = 2 ^ many ∧ many ≤ 10 ∧ (∀ x ∈ ns, 0 ≤ x ∧ x < vs.length) ∧ W v = some (.lst vs) ∧
  ∀ T Rs, Tbl many vs.length T Rs → Rs[T.length - 1]? = some (shr many ns) → 0 < T.length → T.length ≤ 4096 → R (.tup (T.map (ndD vs))) W
/-- values, pairwise different -/
def Diff (a b : D) : Prop := ∃ p q, pyd a = some p ∧ pyd b = some q ∧ PyData.eqv p q = false ∧ PyData.eqv q p = false
def Goods (vs : List D) : Prop := (∀ d ∈ vs, ∃ q, pyd d = some q ∧ SeqAt.shaped q = true) ∧ vs.Pairwise Diff
def spValues : SpD := fun ds W R => ∃ a : Addr, ds = [.ref a] ∧ Draws W a ∧ ∀ p W' vs, W p = none → Goods vs → 0 < vs.length → vs.length ≤ 6 → DrawX a W W' → W' p = some (.lst vs) → R (.ref p) W'
theorem Diff.symm {a b : D} (h : Diff a b) : Diff b a := let ⟨p, q, h1, h2, h3, h4⟩ := h; ⟨q, p, h2, h1, h4, h3⟩
theorem Goods.perm {vs us : List D} (h : Goods vs) (p : us.Perm vs) : Goods us := ⟨fun d hd => h.1 d (p.mem_iff.mp hd), (p.pairwise_iff fun q => Diff.symm q).mpr h.2⟩
theorem Goods.take {vs : List D} (h : Goods vs) (n : Nat) : Goods (vs.take n) := ⟨fun d hd => h.1 d (List.mem_of_mem_take hd), h.2.sublist (List.take_sublist ..)⟩
def strD (s : String) : D := .str (Str.ofString s)
def rowsV (r : Int) : List D := [.tup [strD "none", .int 0, .tup [], .tup []], .tup [strD "let", .int r, .tup [strD "p1"], .tup []], .tup [strD "let", .int (r + 1), .tup [strD "p1"], .tup []], .tup [strD "bar", .int r, .tup [strD "p1"], .tup []],
  .tup [strD "let", .int r, .tup [strD "p1", strD "q2"], .tup []], .tup [strD "let", .int r, .tup [strD "p1"], .tup [strD "log"]]]
def rowsP (r : Int) : List PyData := [.tuple [.str (Str.ofString "none"), .int 0, .tuple [], .tuple []], .tuple [.str (Str.ofString "let"), .int r, .tuple [.str (Str.ofString "p1")], .tuple []], .tuple [.str (Str.ofString "let"), .int (r + 1), .tuple [.str (Str.ofString "p1")], .tuple []],
  .tuple [.str (Str.ofString "bar"), .int r, .tuple [.str (Str.ofString "p1")], .tuple []], .tuple [.str (Str.ofString "let"), .int r, .tuple [.str (Str.ofString "p1"), .str (Str.ofString "q2")], .tuple []], .tuple [.str (Str.ofString "let"), .int r, .tuple [.str (Str.ofString "p1")], .tuple [.str (Str.ofString "log")]]]
theorem goods_of : ∀ {vs : List D} {ps : List PyData}, pydL vs = some ps → (∀ p ∈ ps, SeqAt.shaped p = true) → ps.Pairwise (fun p q => PyData.eqv p q = false ∧ PyData.eqv q p = false) → Goods vs
  | [], _, _, _, _ => ⟨fun d h => (nomatch h), List.Pairwise.nil⟩
  | d :: ds, ps, h, hs, hp => by
    unfold pydL at h
    cases h1 : pyd d with
    | none => rw [h1] at h; cases h
    | some p =>
      cases h2 : pydL ds with
      | none => rw [h1, h2] at h; cases h
      | some qs =>
        rw [h1, h2] at h
        cases h
        obtain ⟨hp1, hp2⟩ := List.pairwise_cons.mp hp
        have ih := goods_of h2 (fun q hq => hs q (List.mem_cons_of_mem _ hq)) hp2
        refine ⟨fun x hx => ?_, List.pairwise_cons.mpr ⟨fun x hx => ?_, ih.2⟩⟩
        · rcases List.mem_cons.mp hx with rfl | hx
          · exact ⟨p, h1, hs p (List.mem_cons_self ..)⟩
          · exact ih.1 x hx
        · have : ∀ {es : List D} {rs : List PyData} {x : D}, pydL es = some rs → x ∈ es → ∃ r ∈ rs, pyd x = some r := by
            intro es
            induction es with
            | nil => intro rs x _ h; cases h
            | cons e es ih =>
              intro rs x h hx
              unfold pydL at h
              cases h1 : pyd e with
              | none => rw [h1] at h; cases h
              | some p =>
                cases h2 : pydL es with
                | none => rw [h1, h2] at h; cases h
                | some qs =>
                  rw [h1, h2] at h
                  cases h
                  rcases List.mem_cons.mp hx with rfl | hx
                  · exact ⟨p, List.mem_cons_self .., h1⟩
                  · obtain ⟨r, h3, h4⟩ := ih h2 hx
                    exact ⟨r, List.mem_cons_of_mem _ h3, h4⟩
          obtain ⟨r, h3, h4⟩ := this h2 hx
          obtain ⟨h5, h6⟩ := hp1 r h3
          exact ⟨p, r, h1, h4, h5, h6⟩
theorem goods_bl : Goods [.bl false, .bl true] := goods_of (ps := [.bool false, .bool true]) rfl (by decide) (by decide)
theorem str_ne1 : (Str.ofString "none" == Str.ofString "let") = false := by decide
theorem str_ne2 : (Str.ofString "none" == Str.ofString "bar") = false := by decide
theorem str_ne3 : (Str.ofString "let" == Str.ofString "bar") = false := by decide
theorem str_ne1' : (Str.ofString "let" == Str.ofString "none") = false := by decide
theorem str_ne2' : (Str.ofString "bar" == Str.ofString "none") = false := by decide
theorem str_ne3' : (Str.ofString "bar" == Str.ofString "let") = false := by decide
theorem so1 : PyData.strOk (Str.ofString "none") = true := by decide +kernel
theorem so2 : PyData.strOk (Str.ofString "let") = true := by decide +kernel
theorem so3 : PyData.strOk (Str.ofString "bar") = true := by decide +kernel
theorem so4 : PyData.strOk (Str.ofString "p1") = true := by decide +kernel
theorem so5 : PyData.strOk (Str.ofString "q2") = true := by decide +kernel
theorem so6 : PyData.strOk (Str.ofString "log") = true := by decide +kernel
theorem DrawX.free {a p : Addr} {W W' : Wd} (x : DrawX a W W') (h : W' p = none) : W p = none := by
  cases q : W p with
  | none => rfl
  | some m =>
    rw [x.2 p m (x.d.ne h) q] at h
    cases h
theorem teq (x y z u x' y' z' u' : PyData) : PyData.eqv (.tuple [x, y, z, u]) (.tuple [x', y', z', u']) = (PyData.eqv x x' && (PyData.eqv y y' && (PyData.eqv z z' && (PyData.eqv u u' && true)))) := by
  simp only [PyData.eqv, PyData.eqvAll]
theorem goods_rows (r : Int) : Goods (rowsV r) := by
  have n1 : (r == r + 1) = false := by simp; omega
  have n2 : (r + 1 == r) = false := by simp; omega
  refine goods_of (ps := rowsP r) rfl ?_ ?_
  · intro p hp
    simp only [rowsP, List.mem_cons, List.not_mem_nil, or_false] at hp
    rcases hp with rfl | rfl | rfl | rfl | rfl | rfl <;> (unfold SeqAt.shaped; simp only [PyData.canLay0, PyData.canLayAll0, PyData.depth, PyData.depthAll, so1, so2, so3, so4, so5, so6, Bool.and_true]; rfl)
  · have e0 : PyData.eqv (.int r) (.int (r + 1)) = false := by simp only [PyData.eqv]; exact n1
    have e1 : PyData.eqv (.int (r + 1)) (.int r) = false := by simp only [PyData.eqv]; exact n2
    have s1 : PyData.eqv (.str (Str.ofString "none")) (.str (Str.ofString "let")) = false := by simp only [PyData.eqv]; exact str_ne1
    have s2 : PyData.eqv (.str (Str.ofString "none")) (.str (Str.ofString "bar")) = false := by simp only [PyData.eqv]; exact str_ne2
    have s3 : PyData.eqv (.str (Str.ofString "let")) (.str (Str.ofString "bar")) = false := by simp only [PyData.eqv]; exact str_ne3
    have s1' : PyData.eqv (.str (Str.ofString "let")) (.str (Str.ofString "none")) = false := by simp only [PyData.eqv]; exact str_ne1'
    have s2' : PyData.eqv (.str (Str.ofString "bar")) (.str (Str.ofString "none")) = false := by simp only [PyData.eqv]; exact str_ne2'
    have s3' : PyData.eqv (.str (Str.ofString "bar")) (.str (Str.ofString "let")) = false := by simp only [PyData.eqv]; exact str_ne3'
    have t1 : ∀ a b : PyData, PyData.eqv (.tuple [a]) (.tuple [a, b]) = false := fun a b => by simp only [PyData.eqv, PyData.eqvAll, Bool.and_false]
    have t2 : ∀ a b : PyData, PyData.eqv (.tuple [a, b]) (.tuple [a]) = false := fun a b => by simp only [PyData.eqv, PyData.eqvAll, Bool.and_false]
    have t3 : ∀ a : PyData, PyData.eqv (.tuple []) (.tuple [a]) = false := fun a => by simp only [PyData.eqv, PyData.eqvAll]
    have t4 : ∀ a : PyData, PyData.eqv (.tuple [a]) (.tuple []) = false := fun a => by simp only [PyData.eqv, PyData.eqvAll]
    refine List.Pairwise.cons (fun q hq => ?_) (List.Pairwise.cons (fun q hq => ?_) (List.Pairwise.cons (fun q hq => ?_) (List.Pairwise.cons (fun q hq => ?_) (List.Pairwise.cons (fun q hq => ?_) (List.Pairwise.cons (fun q hq => ?_) List.Pairwise.nil)))))
    · simp only [List.mem_cons, List.not_mem_nil, or_false] at hq
      rcases hq with rfl | rfl | rfl | rfl | rfl <;> refine ⟨?_, ?_⟩ <;> rw [teq] <;> simp only [s1, s2, s1', s2', Bool.false_and]
    · simp only [List.mem_cons, List.not_mem_nil, or_false] at hq
      rcases hq with rfl | rfl | rfl | rfl <;> refine ⟨?_, ?_⟩ <;> rw [teq] <;> simp only [e0, e1, s3, s3', t1, t2, t3, t4, Bool.false_and, Bool.and_false]
    · simp only [List.mem_cons, List.not_mem_nil, or_false] at hq
      rcases hq with rfl | rfl | rfl <;> refine ⟨?_, ?_⟩ <;> rw [teq] <;> simp only [e0, e1, s3, s3', t1, t2, t3, t4, Bool.false_and, Bool.and_false]
    · simp only [List.mem_cons, List.not_mem_nil, or_false] at hq
      rcases hq with rfl | rfl <;> refine ⟨?_, ?_⟩ <;> rw [teq] <;> simp only [s3, s3', Bool.false_and]
    · simp only [List.mem_cons, List.not_mem_nil, or_false] at hq
      rcases hq with rfl <;> refine ⟨?_, ?_⟩ <;> rw [teq] <;> simp only [t1, t2, t3, t4, Bool.false_and, Bool.and_false]
    · cases hq
section
variable {P : Program} {w : World} {K : Frag} {mg : Str → Option Value} {base : Heap}
abbrev st__law_nodes : Stmt := topS 15
abbrev N__law_nodes : List Str := ["_law_row_here", "_law_many", "_law_values_here", "_law_nodes_here"]
theorem sc__law_nodes : FnScope N__law_nodes ["_law_row_here", "_law_many", "_law_values_here"] (defScope st__law_nodes) := ⟨rfl, rfl, rfl, by decide +kernel, rfl, by decide +kernel, by decide +kernel⟩
theorem start__law_nodes (x0 x1 x2 : D) : startD N__law_nodes [x0, x1, x2] = [some x0, some x1, some x2, none] := rfl
theorem ok_nodes {f : Addr} {fd : FuncData} (F : Fun K "_law_nodes" "_law_nodes" st__law_nodes f fd) (g : mg "_law_nodes" = some (.ref f)) (b : Binds K fd ["_law_row_here", "_law_many", "_law_values_here"] []) (B : Bi mg) (F__law_shrunk : Fn P w K mg base 1 "_law_shrunk" spShr) (F__law_put : Fn P w K mg base 12 "_law_put" (spPut w 11)) : Fn P w K mg base 13 "_law_nodes" spNodes := by
  refine fn_mk F sc__law_nodes g b (fun ds W R h => by obtain ⟨a, _, _, _, _, rfl, _⟩ := h; rfl) fun cdv A outer s H E hr => ⟨_, 
      (s_cons (s_set (i := 3) sc__law_nodes.nd rfl (by first | exact .inl rfl | exact .inr rfl) (d_lst da_nil))
      (s_cons (s_expr (d_call F__law_put (hr.mono (by decide)) (da_cons (d_call F__law_shrunk (hr.mono (by decide)) (da_cons (d_callTy call_tupleF cd_tuple B.tuple (by decide +kernel) (da_cons (d_var 0) da_nil)) da_nil)) (da_cons (d_var 1) (da_cons (d_var 2) (da_cons (d_var 3) (da_cons d_newN da_nil)))))))
      (s_one (s_ret (d_callTy call_tupleF cd_tuple B.tuple (by decide +kernel) (da_cons (d_var 3) da_nil)))))), fun ds W R h => ?_⟩
  obtain ⟨r, v, many, ns, vs, rfl, hr2, hl, hm, hin, hv, q⟩ := h
  rw [start__law_nodes]
  refine E_start ?_
  repeat walk_at "d1"
  intro L hL
  have hr3 : wset W L (.lst []) r = some (.lst (intsD ns)) := by rw [wset_ne (wne hL hr2)]; exact hr2
  have hv3 : wset W L (.lst []) v = some (.lst vs) := by rw [wset_ne (wne hL hv)]; exact hv
  repeat walk_at "d1"
  refine ⟨_, .inl hr3, ?_⟩
  repeat walk_at "d1"
  refine ⟨many, ns, rfl, hl, by omega, ?_⟩
  repeat walk_at "d1"
  intro p hp
  obtain ⟨j, hj, hs⟩ := shr_len many ns hl
  have hLp : L ≠ p := fun e => by rw [← e, wset_same] at hp; cases hp
  have hpW : W p = none := by rw [wset_ne (Ne.symm hLp)] at hp; exact hp
  repeat walk_at "d1"
  have hpow : 2 ^ (j + 1) ≤ 2 ^ 11 := Nat.pow_le_pow_right (by decide) (by omega)
  refine ⟨j, many, _, v, L, p, vs, [], [], rfl, hs, by omega, hj, hm, fun x hx => hin x (shr_mem _ _ x hx), by rw [wset_ne (wne hp hv3)]; exact hv3, by rw [wset_ne hLp, wset_same]; rfl, wset_same, wne hL hv, ⟨rfl, List.nodup_nil, fun i h => absurd h (Nat.not_lt_zero _)⟩, by simp only [List.length_nil]; omega, ?_⟩
  intro W' T' Rs' i t1 _ z1 _ g1 e1 nd1 nm1 k1
  have e2 := e1 (by simp)
  repeat walk_at "d1"
  refine ⟨_, .inl nd1, ?_⟩
  refine ⟨W, fun b m hb => ?_, q T' Rs' t1 (by rw [← e2]; exact g1) (by omega) (by simp only [List.length_nil] at z1; omega)⟩
  refine k1 b m (wne hL hb) (wne hpW hb) ?_
  rw [wset_ne (wne hpW hb), wset_ne (wne hL hb)]
  exact hb
abbrev st__law_values : Stmt := topS 16
abbrev N__law_values : List Str := ["_law_d", "_law_rank", "_law_rows"]
theorem sc__law_values : FnScope N__law_values ["_law_d"] (defScope st__law_values) := ⟨rfl, rfl, rfl, by decide +kernel, rfl, by decide +kernel, by decide +kernel⟩
theorem start__law_values (x0 : D) : startD N__law_values [x0] = [some x0, none, none] := rfl
theorem ok_values {f : Addr} {fd : FuncData} (F : Fun K "_law_values" "_law_values" st__law_values f fd) (g : mg "_law_values" = some (.ref f)) (b : Binds K fd ["_law_d"] []) (B : Bi mg) (F__law_draw : Fn P w K mg base 1 "_law_draw" spDraw) (F__law_shuffled : Fn P w K mg base 2 "_law_shuffled" spShuf) : Fn P w K mg base 3 "_law_values" spValues := by
  refine fn_mk F sc__law_values g b (fun ds W R h => by obtain ⟨a, rfl, _⟩ := h; rfl) fun cdv A outer s H E hr => ⟨_, 
      (s_cons (s_if (d_cmpT (op_eqD (hr.u 64)) od_eq (d_call F__law_draw (hr.mono (by decide)) (da_cons (d_var 0) (da_cons d_int da_nil))) d_int (nomark _)) (s_one (s_ret (d_call F__law_shuffled (hr.mono (by decide)) (da_cons (d_var 0) (da_cons (d_lst (da_cons d_bl (da_cons d_bl da_nil))) da_nil))))) s_nil)
      (s_cons (s_set (i := 1) sc__law_values.nd rfl (by first | exact .inl rfl | exact .inr rfl) (d_call F__law_draw (hr.mono (by decide)) (da_cons (d_var 0) (da_cons d_int da_nil))))
      (s_cons (s_set (i := 2) sc__law_values.nd rfl (by first | exact .inl rfl | exact .inr rfl) (d_lst (da_cons (d_tup (da_cons d_str (da_cons d_int (da_cons (d_tup da_nil) (da_cons (d_tup da_nil) da_nil))))) (da_cons (d_tup (da_cons d_str (da_cons (d_var 1) (da_cons (d_tup (da_cons d_str da_nil)) (da_cons (d_tup da_nil) da_nil))))) (da_cons (d_tup (da_cons d_str (da_cons (d_add (d_var 1) d_int) (da_cons (d_tup (da_cons d_str da_nil)) (da_cons (d_tup da_nil) da_nil))))) (da_cons (d_tup (da_cons d_str (da_cons (d_var 1) (da_cons (d_tup (da_cons d_str da_nil)) (da_cons (d_tup da_nil) da_nil))))) da_nil))))))
      (s_cons (s_set (i := 2) sc__law_values.nd rfl (by first | exact .inl rfl | exact .inr rfl) (d_catL (d_var 2) (d_lst (da_cons (d_tup (da_cons d_str (da_cons (d_var 1) (da_cons (d_tup (da_cons d_str (da_cons d_str da_nil))) (da_cons (d_tup da_nil) da_nil))))) (da_cons (d_tup (da_cons d_str (da_cons (d_var 1) (da_cons (d_tup (da_cons d_str da_nil)) (da_cons (d_tup (da_cons d_str da_nil)) da_nil))))) da_nil)))))
      (s_one (s_ret (d_slice (d_call F__law_shuffled (hr.mono (by decide)) (da_cons (d_var 0) (da_cons (d_var 2) da_nil))) do_no (do_some (d_add d_int (d_call F__law_draw (hr.mono (by decide)) (da_cons (d_var 0) (da_cons d_int da_nil)))))))))))), fun ds W R h => ?_⟩
  obtain ⟨a, rfl, hD, q⟩ := h
  rw [start__law_values]
  refine E_start ?_
  repeat walk_at "d1"
  refine ⟨a, _, rfl, by omega, by omega, hD, fun v1 W1 _ _ x1 => ?_⟩
  repeat walk_at "d1"
  refine ⟨_, _, rfl, rfl, rfl, rfl, ?_⟩
  repeat walk_at "d1"
  refine E_ite (fun _ => ?_) (fun _ => ?_)
  · repeat walk_at "d1"
    intro L hL
    have x2 := x1.trans (DrawX.new (m := .lst [.bl false, .bl true]) x1.d hL)
    repeat walk_at "d1"
    refine ⟨a, _, _, rfl, .inr ⟨L, rfl, wset_same⟩, by show 2 ≤ _; omega, x2.d, fun p W2 ys hp hy x3 h3 => ?_⟩
    exact E_end (q p W2 ys (x2.free hp) (goods_bl.perm hy) (by rw [hy.length_eq]; decide) (by rw [hy.length_eq]; decide) (x2.trans x3) h3)
  · repeat walk_at "d1"
    refine ⟨a, _, rfl, by omega, by omega, x1.d, fun rk W2 _ _ x2 => ?_⟩
    repeat walk_at "d1"
    intro p1 hp1
    have x3 := (x1.trans x2).trans (DrawX.new (m := .lst ((rowsV rk).take 4)) x2.d hp1)
    have l1 : wset W2 p1 (.lst ((rowsV rk).take 4)) p1 = some (.lst ((rowsV rk).take 4)) := wset_same
    repeat walk_at "d1"
    intro p2 hp2
    have hne : p1 ≠ p2 := fun e => by rw [← e, wset_same] at hp2; cases hp2
    have x4 := x3.trans (DrawX.new (m := .lst ((rowsV rk).drop 4)) x3.d hp2)
    refine ⟨p1, p2, (rowsV rk).take 4, (rowsV rk).drop 4, rfl, rfl, by rw [wset_ne hne]; exact l1, wset_same, Nat.le_of_ble_eq_true rfl, fun p3 hp3 => ?_⟩
    have x5 := x4.trans (DrawX.new (m := .lst (rowsV rk)) x4.d hp3)
    repeat walk_at "d1"
    refine ⟨a, _, rowsV rk, rfl, .inr ⟨p3, rfl, wset_same⟩, by show 6 ≤ _; omega, x5.d, fun p W3 ys hp hy x6 h6 => ?_⟩
    have x7 := x5.trans x6
    repeat walk_at "d1"
    refine ⟨a, _, rfl, by omega, by omega, x7.d, fun n W4 hn1 hn2 x8 => ?_⟩
    have h7 := x8.2 p _ (x5.d.ne hp) h6
    have x9 := x7.trans x8
    repeat walk_at "d1"
    refine ⟨ys, h7, fun p4 hp4 => ?_⟩
    have x10 := x9.trans (DrawX.new (m := .lst (cutD ys none (some (1 + n)))) x9.d hp4)
    have e1 : cutD ys none (some (1 + n)) = ys.take (1 + n).toNat := by
      have : (1 + n) = ((1 + n).toNat : Int) := (Int.toNat_of_nonneg (by omega)).symm
      rw [this, cut_to, Int.toNat_natCast]
    have hy6 : ys.length = 6 := by rw [hy.length_eq]; rfl
    refine E_end (q p4 _ (ys.take (1 + n).toNat) ?_ (((goods_rows rk).perm hy).take _) (by rw [List.length_take]; omega) (by rw [List.length_take]; omega) x10 (by rw [wset_same, e1]))
    exact x9.free hp4
end
end K51

namespace K51
open PySem PySem.Spec L2 RZ DL
open PyProof.Rows hiding St
local macro_rules | `(tactic| walk_at "d1") => `(tactic| (first
  | with_reducible refine E_seq ?_ | with_reducible refine E_ifS ?_ | with_reducible refine E_ret ?_ | with_reducible refine E_retN ?_ | with_reducible refine E_asg ?_ | with_reducible refine E_drop ?_ | with_reducible refine E_next ?_ | with_reducible refine E_cont ?_ | with_reducible refine E_break ?_
  | with_reducible refine E_not ?_ | with_reducible refine E_truth ?_ | with_reducible refine E_and ?_ | with_reducible refine E_or ?_ | with_reducible refine E_test ?_ | with_reducible refine E_yes ?_ | with_reducible refine E_andV ?_ | with_reducible refine E_orV ?_ | with_reducible refine E_notV ?_ | with_reducible refine E_if ?_
  | with_reducible refine E_op ?_ | with_reducible refine E_un ?_ | with_reducible refine E_chain ?_ | with_reducible refine E_var rfl ?_ | with_reducible refine E_c ?_ | with_reducible refine E_cb ?_ | with_reducible refine E_call ?_ | with_reducible refine E_cons ?_ | with_reducible refine E_nil ?_
  | with_reducible refine E_tup ?_ | with_reducible refine E_lst ?_ | with_reducible refine E_sl ?_ | with_reducible refine E_part ?_ | with_reducible refine E_no ?_ | with_reducible refine E_ml ?_ | with_reducible refine E_bits ?_ | with_reducible refine E_rev ?_
  | with_reducible refine E_gN ?_ | with_reducible refine E_gT rfl ?_ | with_reducible refine E_gsC ?_ | with_reducible refine E_gsN ?_ | with_reducible refine E_gIx ?_ | with_reducible refine E_for ?_ | with_reducible refine E_lc ?_
  | with_reducible refine E_dget ?_ | with_reducible refine E_din ?_ | with_reducible refine E_dput ?_ | with_reducible refine E_dpop ?_ | with_reducible refine E_nget ?_ | with_reducible refine E_nin ?_ | with_reducible refine E_nput ?_
  | with_reducible refine E_aug rfl ?_ | with_reducible refine E_augIx ?_ | with_reducible refine E_iSeq ?_ | with_reducible refine E_iRg1 ?_ | with_reducible refine E_iZipT ?_
  | with_reducible refine E_I0 ?_ | with_reducible refine E_bl ?_ | with_reducible refine E_tbl ?_ | with_reducible refine E_int ?_ | with_reducible refine E_mlA (by assumption) ?_ | with_reducible refine E_ref ?_ | with_reducible refine E_slT ?_ | with_reducible refine E_lenT ?_ | with_reducible refine E_iteT ?_ | with_reducible refine E_iteF ?_ | with_reducible refine E_int1 ?_ | with_reducible refine E_int1b ?_ | with_reducible refine E_abs ?_
  | ((with_reducible refine E_I ?_ ?_); focus (first | assumption | exact Or.inl ⟨by decide, by decide⟩ | exact Or.inr ⟨by decide, by decide⟩ | exact ⟨by decide, by decide, by decide⟩ | exact ⟨by decide, by decide⟩ | exact pow_posI _ | (show (0 : Int) < _; decide) | (show (0 : Int) ≤ _; decide))) | with_reducible refine E_lenL (by assumption) ?_
  | with_reducible refine E_ixL (by assumption) ?_ | with_reducible refine E_ixT ?_ | with_reducible refine OptD.mk rfl ?_ | refine E_le rfl ?_))
local macro_rules | `(tactic| walk_at "dx") => `(tactic| (first
  | with_reducible refine E_seq ?_ | with_reducible refine E_ret ?_ | with_reducible refine E_retN ?_ | with_reducible refine E_asg ?_ | with_reducible refine E_drop ?_ | with_reducible refine E_next ?_ | with_reducible refine E_cont ?_ | with_reducible refine E_break ?_
  | with_reducible refine E_not ?_ | with_reducible refine E_truth ?_ | with_reducible refine E_and ?_ | with_reducible refine E_or ?_ | with_reducible refine E_test ?_ | with_reducible refine E_yes ?_ | with_reducible refine E_andV ?_ | with_reducible refine E_orV ?_ | with_reducible refine E_notV ?_ | with_reducible refine E_if ?_
  | with_reducible refine E_op ?_ | with_reducible refine E_un ?_ | with_reducible refine E_chain ?_ | with_reducible refine E_var rfl ?_ | with_reducible refine E_c ?_ | with_reducible refine E_cb ?_ | with_reducible refine E_call ?_ | with_reducible refine E_cons ?_ | with_reducible refine E_nil ?_
  | with_reducible refine E_tup ?_ | with_reducible refine E_lst ?_ | with_reducible refine E_sl ?_ | with_reducible refine E_part ?_ | with_reducible refine E_no ?_ | with_reducible refine E_ml ?_ | with_reducible refine E_bits ?_ | with_reducible refine E_rev ?_
  | with_reducible refine E_gN ?_ | with_reducible refine E_gT rfl ?_ | with_reducible refine E_gsC ?_ | with_reducible refine E_gsN ?_ | with_reducible refine E_gIx ?_ | with_reducible refine E_for ?_ | with_reducible refine E_lc ?_
  | with_reducible refine E_dget ?_ | with_reducible refine E_din ?_ | with_reducible refine E_dput ?_ | with_reducible refine E_dpop ?_ | with_reducible refine E_nget ?_ | with_reducible refine E_nin ?_ | with_reducible refine E_nput ?_
  | with_reducible refine E_aug rfl ?_ | with_reducible refine E_augIx ?_ | with_reducible refine E_iSeq ?_ | with_reducible refine E_iRg1 ?_ | with_reducible refine E_iZipT ?_
  | with_reducible refine E_I0 ?_ | with_reducible refine E_bl ?_ | with_reducible refine E_tbl ?_ | with_reducible refine E_int ?_ | with_reducible refine E_mlA (by assumption) ?_ | with_reducible refine E_ref ?_ | with_reducible refine E_slT ?_ | with_reducible refine E_lenT ?_ | with_reducible refine E_iteT ?_ | with_reducible refine E_iteF ?_ | with_reducible refine E_int1 ?_ | with_reducible refine E_int1b ?_ | with_reducible refine E_abs ?_
  | ((with_reducible refine E_I ?_ ?_); focus (first | assumption | exact Or.inl ⟨by decide, by decide⟩ | exact Or.inr ⟨by decide, by decide⟩ | exact ⟨by decide, by decide, by decide⟩ | exact ⟨by decide, by decide⟩ | exact pow_posI _ | (show (0 : Int) < _; decide) | (show (0 : Int) ≤ _; decide))) | with_reducible refine E_lenL (by assumption) ?_
  | with_reducible refine E_ixL (by assumption) ?_ | with_reducible refine E_ixT ?_ | with_reducible refine OptD.mk rfl ?_ | refine E_le rfl ?_))
def spRow : SpD := fun ds W R => ∃ (a : Addr) (m : Nat) (k : Int), ds = [.ref a, .int (m : Int), .int k] ∧ m ≤ 10 ∧ 0 < k ∧ k ≤ 1000 ∧ Draws W a ∧
  ∀ p W' ns, W p = none → ns.length = 2 ^ m → (∀ x ∈ ns, 0 ≤ x ∧ x < k) → DrawX a W W' → W' p = some (.lst (intsD ns)) → R (.ref p) W'
theorem ints_of {k : Int} : ∀ {ys : List D}, (∀ y ∈ ys, ∃ n, y = .int n ∧ 0 ≤ n ∧ n < k) → ∃ ns, ys = intsD ns ∧ ∀ x ∈ ns, 0 ≤ x ∧ x < k
  | [], _ => ⟨[], rfl, fun x h => nomatch h⟩
  | y :: ys, h => by
    obtain ⟨n, rfl, h0, h1⟩ := h y (List.mem_cons_self ..)
    obtain ⟨ns, rfl, h2⟩ := ints_of (ys := ys) (k := k) fun z hz => h z (List.mem_cons_of_mem _ hz)
    refine ⟨n :: ns, rfl, fun x hx => ?_⟩
    rcases List.mem_cons.mp hx with rfl | hx
    · exact ⟨h0, h1⟩
    · exact h2 x hx
theorem all_of {E : D → D → Prop} {items ys : List D} {F : D → Prop} (hl : ys.length = items.length) (h : ∀ (i : Nat) x y, items[i]? = some x → ys[i]? = some y → E x y) (f : ∀ x y, E x y → F y) : ∀ y ∈ ys, F y := fun y hy => by
  obtain ⟨i, hi, rfl⟩ := List.getElem_of_mem hy
  exact f _ _ (h i _ _ (List.getElem?_eq_getElem (by omega)) (List.getElem?_eq_getElem hi))
theorem sum_bound : ∀ {l : List Int}, (∀ x ∈ l, 0 ≤ x ∧ x ≤ 2) → 0 ≤ l.sum ∧ l.sum ≤ 2 * l.length
  | [], _ => by simp
  | x :: l, h => by
    obtain ⟨h1, h2⟩ := sum_bound (l := l) fun y hy => h y (List.mem_cons_of_mem _ hy)
    obtain ⟨h3, h4⟩ := h x (List.mem_cons_self ..)
    rw [List.sum_cons, List.length_cons]
    omega
/-- numbers drawn into a new list -/
theorem comp_draw {g : TGD} {te : TED} {ρ0 : DSt} {L a : Addr} {Q : Wd → Prop} {W : Wd} {items : List D} {stay : Wd → Prop} {k : Int} {W0 : Wd} (h0 : DrawX a W0 W) (hL : W L = none) (hz : items.length ≤ sizeLine) (hst : ∀ W', DrawX a W W' → stay W')
    (hx : ∀ x, x ∈ items → ∀ W', DrawX a W W' → ∀ Q' : DQ, (∀ n W'', 0 ≤ n → n < k → DrawX a W' W'' → Q' (.int n) W'') → g x ρ0 W' fun ρ2 W2 => te ρ2 W2 Q')
    (q : ∀ ns W', DrawX a W W' → W' L = some (.lst (intsD ns)) → ns.length = items.length → (∀ x ∈ ns, 0 ≤ x ∧ x < k) → Q W') : compD g dYes te ρ0 L Q stay items [] (wset W L (.lst [])) := by
  have hne := h0.d.ne hL
  refine comp_inv (fun W' => DrawX a W W') (fun _ y => ∃ n, y = .int n ∧ 0 ≤ n ∧ n < k) hL hz (fun W' acc x => x.put hL) hst (DrawX.refl h0.d) (fun x hm W' acc i l Q' q' => hx x hm W' i Q' fun n W'' n0 n1 x2 => q' _ _ ⟨n, rfl, n0, n1⟩ (i.trans x2) (x2.2 _ _ hne l)) fun ys W' i l hl h => ?_
  obtain ⟨ns, rfl, hn⟩ := ints_of (all_of hl h fun _ _ e => e)
  exact q ns W' i l (by rw [← hl, intsD_len]) hn
section
variable {P : Program} {w : World} {K : Frag} {mg : Str → Option Value} {base : Heap}
abbrev st__law_row : Stmt := topS 20
abbrev N__law_row : List Str := ["_law_d", "_law_many", "_law_kinds", "_law_way", "_law_k", "_law_weights", "_law_worths", "_law_rows", "_law_truths", "_law_rules", "_law_last"]
theorem sc__law_row : FnScope N__law_row ["_law_d", "_law_many", "_law_kinds"] (defScope st__law_row) := ⟨rfl, rfl, rfl, by decide +kernel, rfl, by decide +kernel, by decide +kernel⟩
theorem start__law_row (x0 x1 x2 : D) : startD N__law_row [x0, x1, x2] = [some x0, some x1, some x2, none, none, none, none, none, none, none, none] := rfl
theorem ok_row {f : Addr} {fd : FuncData} (F : Fun K "_law_row" "_law_row" st__law_row f fd) (g : mg "_law_row" = some (.ref f)) (b : Binds K fd ["_law_d", "_law_many", "_law_kinds"] []) (B : Bi mg) (F__law_draw : Fn P w K mg base 1 "_law_draw" spDraw) (F__law_valuations : Fn P w K mg base 1 "_law_valuations" spVal) (F__law_pairs : Fn P w K mg base 2 "_law_pairs" spPairs) (F__law_by_rules : Fn P w K mg base 2 "_law_by_rules" spByRules) : Fn P w K mg base 3 "_law_row" spRow := by
  refine fn_mk F sc__law_row g b (fun ds W R h => by obtain ⟨a, _, _, rfl, _⟩ := h; rfl) fun cdv A outer s H E hr => ⟨_, 
      (s_cons (s_set (i := 3) sc__law_row.nd rfl (by first | exact .inl rfl | exact .inr rfl) (d_call F__law_draw (hr.mono (by decide)) (da_cons (d_var 0) (da_cons d_int da_nil))))
      (s_cons (s_if (d_cmpT (op_eqD (hr.u 64)) od_eq (d_var 3) d_int (nomark _)) (s_one (s_ret (d_lc rfl sc__law_row.nd (i_rng1 B.range (da_cons (d_shl d_int (d_var 1)) da_nil)) (blkOk_by (own := [("_law_k", 4)]) (N := N__law_row) (sc := defScope st__law_row) (by decide +kernel)) (fun _ _ _ _ _ => (g_name (i := 4) sc__law_row.nd rfl (by first | exact .inl rfl | exact .inr rfl) (fun _ h => by cases h; decide))) (fun _ _ _ _ _ => ts_nil) (fun _ _ _ _ _ => (d_call F__law_draw (hr.mono (by decide)) (da_cons (d_var 0) (da_cons (d_var 2) da_nil))))))) s_nil)
      (s_cons (s_if (d_cmpT (op_eqD (hr.u 64)) od_eq (d_var 3) d_int (nomark _)) (s_cons (s_set (i := 5) sc__law_row.nd rfl (by first | exact .inl rfl | exact .inr rfl) (d_lc rfl sc__law_row.nd (i_rng1 B.range (da_cons (d_var 1) da_nil)) (blkOk_by (own := [("_law_k", 4)]) (N := N__law_row) (sc := defScope st__law_row) (by decide +kernel)) (fun _ _ _ _ _ => (g_name (i := 4) sc__law_row.nd rfl (by first | exact .inl rfl | exact .inr rfl) (fun _ h => by cases h; decide))) (fun _ _ _ _ _ => ts_nil) (fun _ _ _ _ _ => (d_call F__law_draw (hr.mono (by decide)) (da_cons (d_var 0) (da_cons d_int da_nil))))))
      (s_cons (s_set (i := 6) sc__law_row.nd rfl (by first | exact .inl rfl | exact .inr rfl) (d_lc rfl sc__law_row.nd (i_rng1 B.range (da_cons (d_add (d_mul d_int (d_var 1)) d_int) da_nil)) (blkOk_by (own := [("_law_k", 4)]) (N := N__law_row) (sc := defScope st__law_row) (by decide +kernel)) (fun _ _ _ _ _ => (g_name (i := 4) sc__law_row.nd rfl (by first | exact .inl rfl | exact .inr rfl) (fun _ h => by cases h; decide))) (fun _ _ _ _ _ => ts_nil) (fun _ _ _ _ _ => (d_call F__law_draw (hr.mono (by decide)) (da_cons (d_var 0) (da_cons (d_var 2) da_nil))))))
      (s_cons (s_set (i := 7) sc__law_row.nd rfl (by first | exact .inl rfl | exact .inr rfl) (d_call F__law_valuations (hr.mono (by decide)) (da_cons (d_var 1) da_nil)))
      (s_one (s_ret (d_lc rfl sc__law_row.nd (i_seq (d_var 7)) (blkOk_by (own := [("_law_truths", 8)]) (N := N__law_row) (sc := defScope st__law_row) (by decide +kernel)) (fun _ _ _ _ _ => (g_name (i := 8) sc__law_row.nd rfl (by first | exact .inl rfl | exact .inr rfl) (fun _ h => by cases h; decide))) (fun _ _ _ _ _ => ts_nil) (fun _ _ _ _ _ => (d_ix (d_var 6) (d_callB (cr_sum rfl) cd_sum B.sum (by decide +kernel) (da_cons (d_lc rfl sc__law_row.nd (i_rng1 B.range (da_cons (d_var 1) da_nil)) (by refine blkOk_by (own := [("_law_k", 4)]) (N := N__law_row) (sc := relS _ (defScope st__law_row)) ?_; decide +kernel) (fun _ _ _ _ _ => (g_name (i := 4) sc__law_row.nd rfl (by first | exact .inl rfl | exact .inr rfl) (fun _ h => by cases h; decide))) (fun _ _ _ _ _ => ts_nil) (fun _ _ _ _ _ => (d_mul (d_ix (d_var 5) (d_var 4)) (d_callTy call_int1 cd_int1 B.int (by decide +kernel) (da_cons (d_ix (d_var 8) (d_var 4)) da_nil))))) da_nil)))))))))) s_nil)
      (s_cons (s_set (i := 9) sc__law_row.nd rfl (by first | exact .inl rfl | exact .inr rfl) (d_lc rfl sc__law_row.nd (i_rng1 B.range (da_cons (d_add d_int (d_call F__law_draw (hr.mono (by decide)) (da_cons (d_var 0) (da_cons d_int da_nil)))) da_nil)) (blkOk_by (own := [("_law_k", 4)]) (N := N__law_row) (sc := defScope st__law_row) (by decide +kernel)) (fun _ _ _ _ _ => (g_name (i := 4) sc__law_row.nd rfl (by first | exact .inl rfl | exact .inr rfl) (fun _ h => by cases h; decide))) (fun _ _ _ _ _ => ts_nil) (fun _ _ _ _ _ => (d_tup (da_cons (d_call F__law_pairs (hr.mono (by decide)) (da_cons (d_var 0) (da_cons (d_var 1) (da_cons d_int da_nil)))) (da_cons (d_call F__law_draw (hr.mono (by decide)) (da_cons (d_var 0) (da_cons (d_var 2) da_nil))) da_nil))))))
      (s_cons (s_set (i := 10) sc__law_row.nd rfl (by first | exact .inl rfl | exact .inr rfl) (d_call F__law_draw (hr.mono (by decide)) (da_cons (d_var 0) (da_cons (d_var 2) da_nil))))
      (s_one (s_ret (d_lc rfl sc__law_row.nd (i_seq (d_call F__law_valuations (hr.mono (by decide)) (da_cons (d_var 1) da_nil))) (blkOk_by (own := [("_law_truths", 8)]) (N := N__law_row) (sc := defScope st__law_row) (by decide +kernel)) (fun _ _ _ _ _ => (g_name (i := 8) sc__law_row.nd rfl (by first | exact .inl rfl | exact .inr rfl) (fun _ h => by cases h; decide))) (fun _ _ _ _ _ => ts_nil) (fun _ _ _ _ _ => (d_call F__law_by_rules (hr.mono (by decide)) (da_cons (d_var 9) (da_cons (d_var 8) (da_cons (d_var 10) da_nil))))))))))))), fun ds W R h => ?_⟩
  obtain ⟨a, m, k, rfl, hm, hk0, hk1, hD, q⟩ := h
  rw [start__law_row]
  refine E_start ?_
  have h10 : 2 ^ m ≤ 1024 := Nat.le_trans (Nat.pow_le_pow_right (by decide) hm) (by decide)
  have e2 : ((1 : Int) * 2 ^ (m : Int).toNat) = ((2 ^ m : Nat) : Int) := by rw [Int.one_mul, Int.toNat_natCast, Int.natCast_pow]; rfl
  have b1 : (0 : Int) ≤ ((2 ^ m : Nat) : Int) := Int.natCast_nonneg _
  have b2 : ((2 ^ m : Nat) : Int) ≤ 1024 := Int.ofNat_le.mpr h10
  repeat walk_at "d1"
  refine ⟨a, _, rfl, by omega, by omega, hD, fun v1 W1 _ _ x1 => ?_⟩
  repeat walk_at "d1"
  refine ⟨_, _, rfl, rfl, rfl, rfl, ?_⟩
  repeat walk_at "d1"
  refine E_ite (fun _ => ?_) (fun _ => ?_)
  · repeat walk_at "d1"
    refine E_I ⟨by omega, by omega, by decide⟩ ?_
    rw [e2]
    repeat walk_at "d1"
    refine ⟨_, rfl, Int.le_trans (by decide) b1, Int.lt_of_le_of_lt b2 (by decide), fun L hL => ?_⟩
    rw [Int.toNat_natCast]
    refine comp_draw (k := k) x1 hL (by rw [rngD_len, sz_eq]; omega) (fun _ _ => trivial) ?_ ?_
    · intro x hx W' x2 Q' q'
      obtain ⟨i, hi, rfl⟩ := rngD_mem hx
      repeat walk_at "d1"
      refine ⟨a, _, rfl, hk0, by omega, x2.d, fun v W'' h0 h1 x3 => q' v W'' h0 h1 x3⟩
    · intro ns W' x2 hl hn hin
      exact E_end (q L W' ns (x1.free hL) (by rw [hn, rngD_len]) hin (x1.trans x2) hl)
  repeat walk_at "d1"
  refine ⟨_, _, rfl, rfl, rfl, rfl, ?_⟩
  repeat walk_at "d1"
  refine E_ite (fun _ => ?_) (fun _ => ?_)
  · repeat walk_at "d1"
    refine ⟨_, rfl, by omega, by omega, fun L hL => ?_⟩
    rw [Int.toNat_natCast]
    refine comp_draw (k := 3) x1 hL (by rw [rngD_len, sz_eq]; omega) (fun _ _ => trivial) ?_ ?_
    · intro x hx W' x2 Q' q'
      obtain ⟨i, hi, rfl⟩ := rngD_mem hx
      repeat walk_at "d1"
      refine ⟨a, _, rfl, by omega, by omega, x2.d, fun v W'' h0 h1 x3 => q' v W'' h0 h1 x3⟩
    intro ws W2 x2 hws hwl hwin
    rw [rngD_len] at hwl
    repeat walk_at "d1"
    refine ⟨_, rfl, by omega, by omega, fun L2 hL2 => ?_⟩
    have e3 : (2 * (m : Int) + 1).toNat = 2 * m + 1 := by omega
    rw [e3]
    refine comp_draw (k := k) (x1.trans x2) hL2 (by rw [rngD_len, sz_eq]; omega) (fun _ _ => trivial) ?_ ?_
    · intro x hx W' x3 Q' q'
      obtain ⟨i, hi, rfl⟩ := rngD_mem hx
      repeat walk_at "d1"
      refine ⟨a, _, rfl, by omega, by omega, x3.d, fun v W'' h0 h1 x4 => q' v W'' h0 h1 x4⟩
    intro os W3 x3 hos hol hoin
    rw [rngD_len] at hol
    have hLa := x1.d.ne hL
    have hws3 := x3.2 _ _ hLa hws
    repeat walk_at "d1"
    refine ⟨m, rfl, hm, fun p7 hp7 => ?_⟩
    have x4 := (x1.trans (x2.trans x3)).trans (DrawX.new (m := .lst (rowsD m)) x3.d hp7)
    have y4 := DrawX.new (m := .lst (rowsD m)) x3.d hp7
    have hL2a := (x1.trans x2).d.ne hL2
    have hos4 := y4.2 _ _ hL2a hos
    have hws4 := y4.2 _ _ hLa hws3
    have hp7a := x3.d.ne hp7
    repeat walk_at "d1"
    refine ⟨rowsD m, .inl wset_same, fun L3 hL3 => ?_⟩
    refine comp_draw (k := k) x4 hL3 (by rw [rowsD_len, sz_eq]; omega) (fun W' x => .inl (x.2 _ _ hp7a wset_same)) ?_ ?_
    · intro x hx W' x5 Q' q'
      obtain ⟨kk, hkk, rfl⟩ := List.mem_map.mp hx
      have hos5 := x5.2 _ _ hL2a hos4
      have hws5 := x5.2 _ _ hLa hws4
      repeat walk_at "d1"
      refine ⟨_, rfl, by omega, by omega, fun L4 hL4 => ?_⟩
      rw [Int.toNat_natCast]
      refine comp_map (fun d => match d with | .int i => .int (ws.getD i.toNat 0 * b2i (kk.testBit (m - 1 - i.toNat))) | _ => .non) hL4 (by rw [rngD_len, sz_eq]; omega) (fun _ => trivial) ?_ ?_
      · intro z hz W'' hs Q2 q2
        obtain ⟨i, hi, rfl⟩ := rngD_mem hz
        have hws6 := hs _ _ hws5
        repeat walk_at "d1"
        refine OptD.mk (intsD_at (by omega)) ?_
        repeat walk_at "d1"
        refine OptD.mk (truthsD_at hi) ?_
        have hw := hwin (ws.getD i 0) (by rw [List.getD_eq_getElem?_getD, List.getElem?_eq_getElem (by omega)]; exact List.getElem_mem _)
        repeat walk_at "d1"
        refine E_I (.inl ⟨by omega, by omega⟩) ?_
        exact q2
      · repeat walk_at "d1"
        refine ⟨L4, (List.range m).map fun i => ws.getD i 0 * b2i (kk.testBit (m - 1 - i)), rfl, .inl ?_, ?_⟩
        · rw [wset_same, rngD_map, List.map_map]; rfl
        have hL4' : wset W' L4 (.lst ((rngD 0 m).map (fun d => match d with | .int i => .int (ws.getD i.toNat 0 * b2i (kk.testBit (m - 1 - i.toNat))) | _ => .non))) L2 = some (.lst (intsD os)) := by rw [wset_ne (wne hL4 hos5)]; exact hos5
        obtain ⟨s0, s1⟩ := sum_bound (l := (List.range m).map fun i => ws.getD i 0 * b2i (kk.testBit (m - 1 - i))) fun x hx => by
          obtain ⟨i, hi, rfl⟩ := List.mem_map.mp hx
          have hi := List.mem_range.mp hi
          have hw := hwin (ws.getD i 0) (by rw [List.getD_eq_getElem?_getD, List.getElem?_eq_getElem (by omega)]; exact List.getElem_mem _)
          cases kk.testBit (m - 1 - i) with
          | true => rw [show b2i true = 1 from rfl]; omega
          | false => rw [show b2i false = 0 from rfl]; omega
        rw [List.length_map, List.length_range] at s1
        repeat walk_at "d1"
        refine OptD.ints s0 (by rw [List.length_map, hol]; omega) fun n hn => ?_
        exact q' n _ (hoin n hn).1 (hoin n hn).2 (DrawX.new x5.d hL4)
    · intro ns W' x5 hl hn hin
      exact E_end (q L3 W' ns (x4.free hL3) (by rw [hn, rowsD_len]) hin (x4.trans x5) hl)
  · repeat walk_at "d1"
    refine ⟨a, _, rfl, by omega, by omega, x1.d, fun v2 W2 h20 h21 x2 => ?_⟩
    repeat walk_at "d1"
    refine ⟨_, rfl, by omega, by omega, fun L hL => ?_⟩
    have x12 := x1.trans x2
    have hLa := x12.d.ne hL
    refine comp_inv (fun W' => DrawX a W2 W') (fun _ y => ∃ ps n, y = .tup [.tup (pairsD ps), .int n] ∧ (∀ p ∈ ps, p.1 < m) ∧ ps.length ≤ 1000 ∧ 0 ≤ n ∧ n < k) hL (by rw [rngD_len, sz_eq]; omega) (fun W' acc x => x.put hL) (fun _ _ => trivial) (DrawX.refl x12.d) ?_ ?_
    · intro x hx W' acc x3 hl Q' q'
      obtain ⟨i, hi, rfl⟩ := rngD_mem hx
      repeat walk_at "d1"
      refine ⟨a, m, _, rfl, hm, by omega, by omega, x3.d, fun ps W4 hps hpl x4 => ?_⟩
      repeat walk_at "d1"
      refine ⟨a, _, rfl, by omega, by omega, x4.d, fun n W5 hn0 hn1 x5 => ?_⟩
      repeat walk_at "d1"
      exact q' _ _ ⟨ps, n, rfl, hps, by omega, hn0, hn1⟩ (x3.trans (x4.trans x5)) (x5.2 _ _ hLa (x4.2 _ _ hLa hl))
    intro rs W3 x3 hrs hrl hre
    have hall := all_of hrl hre (F := fun y => ∃ ps n, y = .tup [.tup (pairsD ps), .int n] ∧ (∀ p ∈ ps, p.1 < m) ∧ ps.length ≤ 1000 ∧ 0 ≤ n ∧ n < k) fun _ _ e => e
    repeat walk_at "d1"
    refine ⟨a, _, rfl, hk0, by omega, x3.d, fun o W4 ho0 ho1 x4 => ?_⟩
    have hrs4 := x4.2 _ _ hLa hrs
    repeat walk_at "d1"
    refine ⟨m, rfl, hm, fun p7 hp7 => ?_⟩
    have y4 := DrawX.new (m := .lst (rowsD m)) x4.d hp7
    have x5 := x12.trans (x3.trans (x4.trans y4))
    have hp7a := x4.d.ne hp7
    have hrs5 := y4.2 _ _ hLa hrs4
    refine ⟨rowsD m, .inl wset_same, fun L3 hL3 => ?_⟩
    refine comp_draw (k := k) x5 hL3 (by rw [rowsD_len, sz_eq]; omega) (fun W' x => .inl (x.2 _ _ hp7a wset_same)) ?_ ?_
    · intro x hx W' x6 Q' q'
      obtain ⟨kk, hkk, rfl⟩ := List.mem_map.mp hx
      have hrs6 := x6.2 _ _ hLa hrs5
      repeat walk_at "d1"
      refine ⟨L, m, kk, o, k, rs, rfl, hrs6, ho0, ho1, hall, fun n h0 h1 => q' n W' h0 h1 (DrawX.refl x6.d)⟩
    · intro ns W' x6 hl hn hin
      exact E_end (q L3 W' ns (x5.free hL3) (by rw [hn, rowsD_len]) hin (x5.trans x6) hl)
end
end K51

namespace K51
open PySem PySem.Spec L2 RZ DL
open PyProof.Rows hiding St
local macro_rules | `(tactic| walk_at "d1") => `(tactic| (first
  | with_reducible refine E_seq ?_ | with_reducible refine E_ifS ?_ | with_reducible refine E_ret ?_ | with_reducible refine E_retN ?_ | with_reducible refine E_asg ?_ | with_reducible refine E_drop ?_ | with_reducible refine E_next ?_ | with_reducible refine E_cont ?_ | with_reducible refine E_break ?_
  | with_reducible refine E_not ?_ | with_reducible refine E_truth ?_ | with_reducible refine E_and ?_ | with_reducible refine E_or ?_ | with_reducible refine E_test ?_ | with_reducible refine E_yes ?_ | with_reducible refine E_andV ?_ | with_reducible refine E_orV ?_ | with_reducible refine E_notV ?_ | with_reducible refine E_if ?_
  | with_reducible refine E_op ?_ | with_reducible refine E_un ?_ | with_reducible refine E_chain ?_ | with_reducible refine E_var rfl ?_ | with_reducible refine E_c ?_ | with_reducible refine E_cb ?_ | with_reducible refine E_call ?_ | with_reducible refine E_cons ?_ | with_reducible refine E_nil ?_
  | with_reducible refine E_tup ?_ | with_reducible refine E_lst ?_ | with_reducible refine E_sl ?_ | with_reducible refine E_part ?_ | with_reducible refine E_no ?_ | with_reducible refine E_ml ?_ | with_reducible refine E_bits ?_ | with_reducible refine E_rev ?_
  | with_reducible refine E_gN ?_ | with_reducible refine E_gT rfl ?_ | with_reducible refine E_gsC ?_ | with_reducible refine E_gsN ?_ | with_reducible refine E_gIx ?_ | with_reducible refine E_for ?_ | with_reducible refine E_lc ?_
  | with_reducible refine E_dget ?_ | with_reducible refine E_din ?_ | with_reducible refine E_dput ?_ | with_reducible refine E_dpop ?_ | with_reducible refine E_nget ?_ | with_reducible refine E_nin ?_ | with_reducible refine E_nput ?_
  | with_reducible refine E_aug rfl ?_ | with_reducible refine E_augIx ?_ | with_reducible refine E_iSeq ?_ | with_reducible refine E_iRg1 ?_ | with_reducible refine E_iZipT ?_
  | with_reducible refine E_I0 ?_ | with_reducible refine E_bl ?_ | with_reducible refine E_tbl ?_ | with_reducible refine E_int ?_ | with_reducible refine E_mlA (by assumption) ?_ | with_reducible refine E_ref ?_ | with_reducible refine E_slT ?_ | with_reducible refine E_lenT ?_ | with_reducible refine E_iteT ?_ | with_reducible refine E_iteF ?_ | with_reducible refine E_int1 ?_ | with_reducible refine E_int1b ?_ | with_reducible refine E_abs ?_
  | ((with_reducible refine E_I ?_ ?_); focus (first | assumption | exact Or.inl ⟨by decide, by decide⟩ | exact Or.inr ⟨by decide, by decide⟩ | exact ⟨by decide, by decide, by decide⟩ | exact ⟨by decide, by decide⟩ | exact pow_posI _ | (show (0 : Int) < _; decide) | (show (0 : Int) ≤ _; decide))) | with_reducible refine E_lenL (by assumption) ?_
  | with_reducible refine E_ixL (by assumption) ?_ | with_reducible refine E_ixT ?_ | with_reducible refine OptD.mk rfl ?_ | refine E_le rfl ?_))
local macro_rules | `(tactic| walk_at "dx") => `(tactic| (first
  | with_reducible refine E_seq ?_ | with_reducible refine E_ret ?_ | with_reducible refine E_retN ?_ | with_reducible refine E_asg ?_ | with_reducible refine E_drop ?_ | with_reducible refine E_next ?_ | with_reducible refine E_cont ?_ | with_reducible refine E_break ?_
  | with_reducible refine E_not ?_ | with_reducible refine E_truth ?_ | with_reducible refine E_and ?_ | with_reducible refine E_or ?_ | with_reducible refine E_test ?_ | with_reducible refine E_yes ?_ | with_reducible refine E_andV ?_ | with_reducible refine E_orV ?_ | with_reducible refine E_notV ?_ | with_reducible refine E_if ?_
  | with_reducible refine E_op ?_ | with_reducible refine E_un ?_ | with_reducible refine E_chain ?_ | with_reducible refine E_var rfl ?_ | with_reducible refine E_c ?_ | with_reducible refine E_cb ?_ | with_reducible refine E_call ?_ | with_reducible refine E_cons ?_ | with_reducible refine E_nil ?_
  | with_reducible refine E_tup ?_ | with_reducible refine E_lst ?_ | with_reducible refine E_sl ?_ | with_reducible refine E_part ?_ | with_reducible refine E_no ?_ | with_reducible refine E_ml ?_ | with_reducible refine E_bits ?_ | with_reducible refine E_rev ?_
  | with_reducible refine E_gN ?_ | with_reducible refine E_gT rfl ?_ | with_reducible refine E_gsC ?_ | with_reducible refine E_gsN ?_ | with_reducible refine E_gIx ?_ | with_reducible refine E_for ?_ | with_reducible refine E_lc ?_
  | with_reducible refine E_dget ?_ | with_reducible refine E_din ?_ | with_reducible refine E_dput ?_ | with_reducible refine E_dpop ?_ | with_reducible refine E_nget ?_ | with_reducible refine E_nin ?_ | with_reducible refine E_nput ?_
  | with_reducible refine E_aug rfl ?_ | with_reducible refine E_augIx ?_ | with_reducible refine E_iSeq ?_ | with_reducible refine E_iRg1 ?_ | with_reducible refine E_iZipT ?_
  | with_reducible refine E_I0 ?_ | with_reducible refine E_bl ?_ | with_reducible refine E_tbl ?_ | with_reducible refine E_int ?_ | with_reducible refine E_mlA (by assumption) ?_ | with_reducible refine E_ref ?_ | with_reducible refine E_slT ?_ | with_reducible refine E_lenT ?_ | with_reducible refine E_iteT ?_ | with_reducible refine E_iteF ?_ | with_reducible refine E_int1 ?_ | with_reducible refine E_int1b ?_ | with_reducible refine E_abs ?_
  | ((with_reducible refine E_I ?_ ?_); focus (first | assumption | exact Or.inl ⟨by decide, by decide⟩ | exact Or.inr ⟨by decide, by decide⟩ | exact ⟨by decide, by decide, by decide⟩ | exact ⟨by decide, by decide⟩ | exact pow_posI _ | (show (0 : Int) < _; decide) | (show (0 : Int) ≤ _; decide))) | with_reducible refine E_lenL (by assumption) ?_
  | with_reducible refine E_ixL (by assumption) ?_ | with_reducible refine E_ixT ?_ | with_reducible refine OptD.mk rfl ?_ | refine E_le rfl ?_))
def spMade : SpD := fun ds W R => ∃ a : Addr, ds = [.ref a] ∧ Draws W a ∧ ∀ (m : Nat) (ns : List Int) (vs : List D) (T : List Nd) (Rs : List (List Int)) (r v : Addr) (W' : Wd), m ≤ 7 → Goods vs → 0 < vs.length → vs.length ≤ 6 → ns.length = 2 ^ m → (∀ x ∈ ns, 0 ≤ x ∧ x < vs.length) → Tbl m vs.length T Rs → Rs[T.length - 1]? = some (shr m ns) → 0 < T.length → T.length ≤ 4096 →
  W r = none → W v = none → DrawX a W W' → W' r = some (.lst (intsD ns)) → W' v = some (.lst vs) → R (.tup [.tup (T.map (ndD vs)), .ref r, .int (m : Int), .ref v]) W'
section
variable {P : Program} {w : World} {K : Frag} {mg : Str → Option Value} {base : Heap}
abbrev st__law_made : Stmt := topS 21
abbrev N__law_made : List Str := ["_law_d", "_law_many", "_law_values_here", "_law_row_here"]
theorem sc__law_made : FnScope N__law_made ["_law_d"] (defScope st__law_made) := ⟨rfl, rfl, rfl, by decide +kernel, rfl, by decide +kernel, by decide +kernel⟩
theorem start__law_made (x0 : D) : startD N__law_made [x0] = [some x0, none, none, none] := rfl
theorem ok_made {f : Addr} {fd : FuncData} (F : Fun K "_law_made" "_law_made" st__law_made f fd) (g : mg "_law_made" = some (.ref f)) (b : Binds K fd ["_law_d"] []) (B : Bi mg) (F__law_draw : Fn P w K mg base 1 "_law_draw" spDraw) (F__law_rare : Fn P w K mg base 2 "_law_rare" spRare) (F__law_values : Fn P w K mg base 3 "_law_values" spValues) (F__law_row : Fn P w K mg base 3 "_law_row" spRow) (F__law_nodes : Fn P w K mg base 13 "_law_nodes" spNodes) : Fn P w K mg base 14 "_law_made" spMade := by
  refine fn_mk F sc__law_made g b (fun ds W R h => by obtain ⟨a, rfl, _⟩ := h; rfl) fun cdv A outer s H E hr => ⟨_, 
      (s_cons (s_set (i := 1) sc__law_made.nd rfl (by first | exact .inl rfl | exact .inr rfl) (d_call F__law_draw (hr.mono (by decide)) (da_cons (d_var 0) (da_cons d_int da_nil))))
      (s_cons (s_if (d_truth (d_call F__law_rare (hr.mono (by decide)) (da_cons (d_var 0) (da_cons d_int da_nil)))) (s_one (s_set (i := 1) sc__law_made.nd rfl (by first | exact .inl rfl | exact .inr rfl) (d_add (d_var 1) d_int))) s_nil)
      (s_cons (s_set (i := 2) sc__law_made.nd rfl (by first | exact .inl rfl | exact .inr rfl) (d_call F__law_values (hr.mono (by decide)) (da_cons (d_var 0) da_nil)))
      (s_cons (s_set (i := 3) sc__law_made.nd rfl (by first | exact .inl rfl | exact .inr rfl) (d_call F__law_row (hr.mono (by decide)) (da_cons (d_var 0) (da_cons (d_var 1) (da_cons (d_len B.len (da_cons (d_var 2) da_nil)) da_nil)))))
      (s_one (s_ret (d_tup (da_cons (d_call F__law_nodes (hr.mono (by decide)) (da_cons (d_var 3) (da_cons (d_var 1) (da_cons (d_var 2) da_nil)))) (da_cons (d_var 3) (da_cons (d_var 1) (da_cons (d_var 2) da_nil))))))))))), fun ds W R h => ?_⟩
  obtain ⟨a, rfl, hD, q⟩ := h
  rw [start__law_made]
  refine E_start ?_
  repeat walk_at "d1"
  refine ⟨a, _, rfl, by omega, by omega, hD, fun v1 W1 h10 h11 x1 => ?_⟩
  refine E_gN ?_
  refine E_seq ?_
  refine E_join (fun ρ' W' => ∃ m : Nat, m ≤ 7 ∧ ρ' = [some (.ref a), some (.int (m : Int)), none, none] ∧ DrawX a W W') ?_ ?_
  · rintro ρ W2 ⟨m, hm, rfl, x2⟩
    repeat walk_at "d1"
    refine ⟨a, rfl, x2.d, fun v W3 vs hv0 hg hl0 hl6 x3 hv => ?_⟩
    have hva := x2.d.ne hv0
    repeat walk_at "d1"
    refine ⟨a, m, _, rfl, by omega, by omega, by omega, x3.d, fun r W4 ns hr0 hlen hin x4 hr4 => ?_⟩
    have hv4 := x4.2 _ _ hva hv
    repeat walk_at "d1"
    refine ⟨r, v, m, ns, vs, rfl, hr4, hlen, by omega, hin, hv4, fun T Rs t h5 h6 h7 => ?_⟩
    repeat walk_at "d1"
    exact E_end (q m ns vs T Rs r v W4 hm hg hl0 hl6 hlen hin t h5 h6 h7 (x2.free (x3.free hr0)) (x2.free hv0) (x2.trans (x3.trans x4)) hr4 hv4)
  · intro N hN
    repeat walk_at "d1"
    refine ⟨a, rfl, x1.d, fun t W2 x2 => ?_⟩
    repeat walk_at "d1"
    have e1 : v1 = (v1.toNat : Int) := (Int.toNat_of_nonneg h10).symm
    have e2 : v1 + 2 = ((v1.toNat + 2 : Nat) : Int) := by omega
    refine E_ite (fun _ => ?_) (fun _ => ?_)
    · repeat walk_at "d1"
      refine hN _ _ ⟨v1.toNat + 2, by omega, ?_, x1.trans x2⟩
      rw [e2]
      rfl
    · repeat walk_at "d1"
      refine hN _ _ ⟨v1.toNat, by omega, ?_, x1.trans x2⟩
      rw [← e1]
      rfl
end
end K51

namespace K51
open PySem PySem.Spec L2 RZ DL
open PyProof.Rows hiding St
/-! ### what _law_met says -/
/-- one value alone, n, is left -/
def One (m : Nat) (ns : List Int) (ps : List (Nat × Bool)) (n : Int) : Prop := (∃ k, k < 2 ^ m ∧ agree m k ps = true) ∧ ∀ k, k < 2 ^ m → agree m k ps = true → ns.getD k 0 = n
theorem fold_met {m : Nat} {ns : List Int} {ps : List (Nat × Bool)} : ∀ (ks : List Nat) (acc : List Int), acc.Nodup → (ks.foldl (metS m ns ps) acc).Nodup ∧ ∀ x, x ∈ ks.foldl (metS m ns ps) acc ↔ x ∈ acc ∨ ∃ k ∈ ks, agree m k ps = true ∧ ns.getD k 0 = x
  | [], acc, h => ⟨h, fun x => by simp⟩
  | k :: ks, acc, h => by
    rw [List.foldl_cons]
    have h1 : (metS m ns ps acc k).Nodup ∧ ∀ x, x ∈ metS m ns ps acc k ↔ x ∈ acc ∨ (agree m k ps = true ∧ ns.getD k 0 = x) := by
      unfold metS
      by_cases c : ns.getD k 0 ∉ acc ∧ agree m k ps = true
      · rw [if_pos c]
        refine ⟨List.nodup_append.mpr ⟨h, by simp, fun a ha b hb e => ?_⟩, fun x => ?_⟩
        · rw [List.mem_singleton.mp hb] at e
          exact c.1 (e ▸ ha)
        · rw [List.mem_append, List.mem_singleton]
          constructor
          · rintro (z | rfl)
            · exact .inl z
            · exact .inr ⟨c.2, rfl⟩
          · rintro (z | ⟨_, rfl⟩)
            · exact .inl z
            · exact .inr rfl
      · rw [if_neg c]
        refine ⟨h, fun x => ⟨.inl, ?_⟩⟩
        rintro (z | ⟨h2, rfl⟩)
        · exact z
        · exact Decidable.byContradiction fun z => c ⟨z, h2⟩
    obtain ⟨h2, h3⟩ := fold_met ks _ h1.1
    refine ⟨h2, fun x => ?_⟩
    rw [h3, h1.2]
    constructor
    · rintro ((z | ⟨z1, z2⟩) | ⟨k', z1, z2⟩)
      · exact .inl z
      · exact .inr ⟨k, List.mem_cons_self .., z1, z2⟩
      · exact .inr ⟨k', List.mem_cons_of_mem _ z1, z2⟩
    · rintro (z | ⟨k', z1, z2⟩)
      · exact .inl (.inl z)
      · rcases List.mem_cons.mp z1 with rfl | z1
        · exact .inl (.inr z2)
        · exact .inr ⟨k', z1, z2⟩
theorem met_mem {m : Nat} {ns : List Int} {ps : List (Nat × Bool)} {x : Int} : x ∈ metL m ns ps ↔ ∃ k, k < 2 ^ m ∧ agree m k ps = true ∧ ns.getD k 0 = x := by
  rw [metL, (fold_met _ _ List.nodup_nil).2]
  constructor
  · rintro (h | ⟨k, h1, h2⟩)
    · cases h
    · exact ⟨k, List.mem_range.mp h1, h2⟩
  · rintro ⟨k, h1, h2⟩
    exact .inr ⟨k, List.mem_range.mpr h1, h2⟩
theorem met_nodup {m : Nat} {ns : List Int} {ps : List (Nat × Bool)} : (metL m ns ps).Nodup := (fold_met _ _ List.nodup_nil).1
theorem one_met {m : Nat} {ns : List Int} {ps : List (Nat × Bool)} {n : Int} (h : One m ns ps n) : metL m ns ps = [n] := by
  obtain ⟨⟨k, h1, h2⟩, h3⟩ := h
  have hn : n ∈ metL m ns ps := met_mem.mpr ⟨k, h1, h2, h3 k h1 h2⟩
  have ha : ∀ x ∈ metL m ns ps, x = n := fun x hx => by
    obtain ⟨k', h4, h5, rfl⟩ := met_mem.mp hx
    exact h3 k' h4 h5
  have hd := met_nodup (m := m) (ns := ns) (ps := ps)
  generalize metL m ns ps = l at *
  match l with
  | [] => cases hn
  | [x] => rw [ha x (List.mem_cons_self ..)]
  | x :: y :: r =>
    exfalso
    have e1 := ha x (List.mem_cons_self ..)
    have e2 := ha y (List.mem_cons_of_mem _ (List.mem_cons_self ..))
    exact (List.nodup_cons.mp hd).1 (by rw [e1, ← e2]; exact List.mem_cons_self ..)
theorem met_one {m : Nat} {ns : List Int} {ps : List (Nat × Bool)} (h : (metL m ns ps).length = 1) : ∃ n, One m ns ps n ∧ metL m ns ps = [n] := by
  match e : metL m ns ps, h with
  | [n], _ =>
    refine ⟨n, ⟨?_, fun k h1 h2 => ?_⟩, rfl⟩
    · obtain ⟨k, h1, h2, _⟩ := met_mem.mp (show n ∈ metL m ns ps by rw [e]; exact List.mem_cons_self ..)
      exact ⟨k, h1, h2⟩
    · have : ns.getD k 0 ∈ metL m ns ps := met_mem.mpr ⟨k, h1, h2, rfl⟩
      rw [e] at this
      exact List.mem_singleton.mp this
theorem met_len {m : Nat} {ns : List Int} {ps : List (Nat × Bool)} : (metL m ns ps).length = 1 ↔ ∃ n, One m ns ps n :=
  ⟨fun h => let ⟨n, h, _⟩ := met_one h; ⟨n, h⟩, fun ⟨n, h⟩ => by rw [one_met h]; rfl⟩
theorem agree_sub {m k : Nat} {ps qs : List (Nat × Bool)} (h : ∀ p ∈ qs, p ∈ ps) (a : agree m k ps = true) : agree m k qs = true :=
  List.all_eq_true.mpr fun p hp => List.all_eq_true.mp a p (h p hp)
theorem One.more {m : Nat} {ns : List Int} {ps qs : List (Nat × Bool)} {n : Int} (h : One m ns qs n) (s : ∀ p ∈ qs, p ∈ ps) (e : ∃ k, k < 2 ^ m ∧ agree m k ps = true) : One m ns ps n := ⟨e, fun k h1 h2 => h.2 k h1 (agree_sub s h2)⟩
end K51

namespace K51
open PySem PySem.Spec L2 RZ DL
open PyProof.Rows hiding St
local macro_rules | `(tactic| walk_at "d1") => `(tactic| (first
  | with_reducible refine E_seq ?_ | with_reducible refine E_ifS ?_ | with_reducible refine E_ret ?_ | with_reducible refine E_retN ?_ | with_reducible refine E_asg ?_ | with_reducible refine E_drop ?_ | with_reducible refine E_next ?_ | with_reducible refine E_cont ?_ | with_reducible refine E_break ?_
  | with_reducible refine E_not ?_ | with_reducible refine E_truth ?_ | with_reducible refine E_and ?_ | with_reducible refine E_or ?_ | with_reducible refine E_test ?_ | with_reducible refine E_yes ?_ | with_reducible refine E_andV ?_ | with_reducible refine E_orV ?_ | with_reducible refine E_notV ?_ | with_reducible refine E_if ?_
  | with_reducible refine E_op ?_ | with_reducible refine E_un ?_ | with_reducible refine E_chain ?_ | with_reducible refine E_var rfl ?_ | with_reducible refine E_c ?_ | with_reducible refine E_cb ?_ | with_reducible refine E_call ?_ | with_reducible refine E_cons ?_ | with_reducible refine E_nil ?_
  | with_reducible refine E_tup ?_ | with_reducible refine E_lst ?_ | with_reducible refine E_sl ?_ | with_reducible refine E_part ?_ | with_reducible refine E_no ?_ | with_reducible refine E_ml ?_ | with_reducible refine E_bits ?_ | with_reducible refine E_rev ?_
  | with_reducible refine E_gN ?_ | with_reducible refine E_gT rfl ?_ | with_reducible refine E_gsC ?_ | with_reducible refine E_gsN ?_ | with_reducible refine E_gIx ?_ | with_reducible refine E_for ?_ | with_reducible refine E_lc ?_
  | with_reducible refine E_dget ?_ | with_reducible refine E_din ?_ | with_reducible refine E_dput ?_ | with_reducible refine E_dpop ?_ | with_reducible refine E_nget ?_ | with_reducible refine E_nin ?_ | with_reducible refine E_nput ?_
  | with_reducible refine E_aug rfl ?_ | with_reducible refine E_augIx ?_ | with_reducible refine E_iSeq ?_ | with_reducible refine E_iRg1 ?_ | with_reducible refine E_iZipT ?_
  | with_reducible refine E_I0 ?_ | with_reducible refine E_bl ?_ | with_reducible refine E_tbl ?_ | with_reducible refine E_int ?_ | with_reducible refine E_mlA (by assumption) ?_ | with_reducible refine E_ref ?_ | with_reducible refine E_slT ?_ | with_reducible refine E_lenT ?_ | with_reducible refine E_iteT ?_ | with_reducible refine E_iteF ?_ | with_reducible refine E_int1 ?_ | with_reducible refine E_int1b ?_ | with_reducible refine E_abs ?_
  | ((with_reducible refine E_I ?_ ?_); focus (first | assumption | exact Or.inl ⟨by decide, by decide⟩ | exact Or.inr ⟨by decide, by decide⟩ | exact ⟨by decide, by decide, by decide⟩ | exact ⟨by decide, by decide⟩ | exact pow_posI _ | (show (0 : Int) < _; decide) | (show (0 : Int) ≤ _; decide))) | with_reducible refine E_lenL (by assumption) ?_
  | with_reducible refine E_ixL (by assumption) ?_ | with_reducible refine E_ixT ?_ | with_reducible refine OptD.mk rfl ?_ | refine E_le rfl ?_))
local macro_rules | `(tactic| walk_at "dx") => `(tactic| (first
  | with_reducible refine E_seq ?_ | with_reducible refine E_ret ?_ | with_reducible refine E_retN ?_ | with_reducible refine E_asg ?_ | with_reducible refine E_drop ?_ | with_reducible refine E_next ?_ | with_reducible refine E_cont ?_ | with_reducible refine E_break ?_
  | with_reducible refine E_not ?_ | with_reducible refine E_truth ?_ | with_reducible refine E_and ?_ | with_reducible refine E_or ?_ | with_reducible refine E_test ?_ | with_reducible refine E_yes ?_ | with_reducible refine E_andV ?_ | with_reducible refine E_orV ?_ | with_reducible refine E_notV ?_ | with_reducible refine E_if ?_
  | with_reducible refine E_op ?_ | with_reducible refine E_un ?_ | with_reducible refine E_chain ?_ | with_reducible refine E_var rfl ?_ | with_reducible refine E_c ?_ | with_reducible refine E_cb ?_ | with_reducible refine E_call ?_ | with_reducible refine E_cons ?_ | with_reducible refine E_nil ?_
  | with_reducible refine E_tup ?_ | with_reducible refine E_lst ?_ | with_reducible refine E_sl ?_ | with_reducible refine E_part ?_ | with_reducible refine E_no ?_ | with_reducible refine E_ml ?_ | with_reducible refine E_bits ?_ | with_reducible refine E_rev ?_
  | with_reducible refine E_gN ?_ | with_reducible refine E_gT rfl ?_ | with_reducible refine E_gsC ?_ | with_reducible refine E_gsN ?_ | with_reducible refine E_gIx ?_ | with_reducible refine E_for ?_ | with_reducible refine E_lc ?_
  | with_reducible refine E_dget ?_ | with_reducible refine E_din ?_ | with_reducible refine E_dput ?_ | with_reducible refine E_dpop ?_ | with_reducible refine E_nget ?_ | with_reducible refine E_nin ?_ | with_reducible refine E_nput ?_
  | with_reducible refine E_aug rfl ?_ | with_reducible refine E_augIx ?_ | with_reducible refine E_iSeq ?_ | with_reducible refine E_iRg1 ?_ | with_reducible refine E_iZipT ?_
  | with_reducible refine E_I0 ?_ | with_reducible refine E_bl ?_ | with_reducible refine E_tbl ?_ | with_reducible refine E_int ?_ | with_reducible refine E_mlA (by assumption) ?_ | with_reducible refine E_ref ?_ | with_reducible refine E_slT ?_ | with_reducible refine E_lenT ?_ | with_reducible refine E_iteT ?_ | with_reducible refine E_iteF ?_ | with_reducible refine E_int1 ?_ | with_reducible refine E_int1b ?_ | with_reducible refine E_abs ?_
  | ((with_reducible refine E_I ?_ ?_); focus (first | assumption | exact Or.inl ⟨by decide, by decide⟩ | exact Or.inr ⟨by decide, by decide⟩ | exact ⟨by decide, by decide, by decide⟩ | exact ⟨by decide, by decide⟩ | exact pow_posI _ | (show (0 : Int) < _; decide) | (show (0 : Int) ≤ _; decide))) | with_reducible refine E_lenL (by assumption) ?_
  | with_reducible refine E_ixL (by assumption) ?_ | with_reducible refine E_ixT ?_ | with_reducible refine OptD.mk rfl ?_ | refine E_le rfl ?_))
def spLeast : SpD := fun ds W R => ∃ (a l r : Addr) (m : Nat) (ns : List Int) (ps : List (Nat × Bool)), ds = [.ref a, .ref l, .ref r, .tup (pairsD ps)] ∧ W l = some (.lst (rowsD m)) ∧ W r = some (.lst (intsD ns)) ∧ l ≠ a ∧ r ≠ a ∧ ns.length = 2 ^ m ∧ m ≤ 10 ∧
  (∀ p ∈ ps, p.1 < m) ∧ ps.length ≤ 1000 ∧ (∃ k, k < 2 ^ m ∧ agree m k ps = true) ∧ (metL m ns ps).length = 1 ∧ Draws W a ∧
  ∀ qs W', (∀ q ∈ qs, q ∈ ps) → qs.Sublist ps → (metL m ns qs).length = 1 → tight m ns qs = true → DrawX a W W' → R (.tup (pairsD qs)) W'
theorem pairD_inj {p q : Nat × Bool} (h : pairD p = pairD q) : p = q := by
  have := congrArg toPair h
  rw [toPair_D, toPair_D] at this
  exact Option.some.inj this
section
variable {P : Program} {w : World} {K : Frag} {mg : Str → Option Value} {base : Heap}
abbrev st__law_least_pairs : Stmt := topS 26
abbrev N__law_least_pairs : List Str := ["_law_d", "_law_rows", "_law_row_here", "_law_whole", "_law_pairs_here", "_law_pair", "_law_rest"]
theorem sc__law_least_pairs : FnScope N__law_least_pairs ["_law_d", "_law_rows", "_law_row_here", "_law_whole"] (defScope st__law_least_pairs) := ⟨rfl, rfl, rfl, by decide +kernel, rfl, by decide +kernel, by decide +kernel⟩
theorem start__law_least_pairs (x0 x1 x2 x3 : D) : startD N__law_least_pairs [x0, x1, x2, x3] = [some x0, some x1, some x2, some x3, none, none, none] := rfl
theorem ok_least {f : Addr} {fd : FuncData} (F : Fun K "_law_least_pairs" "_law_least_pairs" st__law_least_pairs f fd) (g : mg "_law_least_pairs" = some (.ref f)) (b : Binds K fd ["_law_d", "_law_rows", "_law_row_here", "_law_whole"] []) (B : Bi mg) (F__law_shuffled : Fn P w K mg base 2 "_law_shuffled" spShuf) (F__law_met : Fn P w K mg base 2 "_law_met" spMet) (F__law_without : Fn P w K mg base 1 "_law_without" spWithout) : Fn P w K mg base 3 "_law_least_pairs" spLeast := by
  refine fn_mk F sc__law_least_pairs g b (fun ds W R h => by obtain ⟨a, _, _, _, _, _, rfl, _⟩ := h; rfl) fun cdv A outer s H E hr => ⟨_, 
      (s_cons (s_set (i := 4) sc__law_least_pairs.nd rfl (by first | exact .inl rfl | exact .inr rfl) (d_var 3))
      (s_cons (s_for PassesOwn.never rfl (i_seq (d_call F__law_shuffled (hr.mono (by decide)) (da_cons (d_var 0) (da_cons (d_var 3) da_nil)))) (g_name (i := 5) sc__law_least_pairs.nd rfl (by first | exact .inl rfl | exact .inr rfl) (fun _ h => nomatch h)) (s_cons (s_set (i := 6) sc__law_least_pairs.nd rfl (by first | exact .inl rfl | exact .inr rfl) (d_call F__law_without (hr.mono (by decide)) (da_cons (d_var 4) (da_cons (d_ix (d_var 5) d_int) da_nil))))
      (s_one (s_if (d_cmpT (op_eqD (hr.u 64)) od_eq (d_len B.len (da_cons (d_call F__law_met (hr.mono (by decide)) (da_cons (d_var 1) (da_cons (d_var 2) (da_cons (d_var 6) da_nil)))) da_nil)) d_int (nomark _)) (s_one (s_set (i := 4) sc__law_least_pairs.nd rfl (by first | exact .inl rfl | exact .inr rfl) (d_var 6))) s_nil))))
      (s_one (s_ret (d_var 4))))), fun ds W R h => ?_⟩
  obtain ⟨a, l, r, m, ns, ps, rfl, hl, hrr, hla, hra, hlen, hm, hps, hz, ⟨k0, hk0, hk1⟩, hone, hD, q⟩ := h
  rw [start__law_least_pairs]
  refine E_start ?_
  repeat walk_at "d1"
  refine ⟨a, _, pairsD ps, rfl, .inl rfl, by rw [pairsD_len]; omega, hD, fun p W1 ys hp hy x1 h1 => ?_⟩
  refine ⟨ys, .inl h1, ?_⟩
  have hpa := hD.ne hp
  refine loop_ind (fun rest ρ W' => ∃ cur done o5 o6, ys = done ++ rest ∧ ρ = [some (.ref a), some (.ref l), some (.ref r), some (.tup (pairsD ps)), some (.tup (pairsD cur)), o5, o6] ∧ cur.Sublist ps ∧ (metL m ns cur).length = 1 ∧ DrawX a W W' ∧ W' p = some (.lst ys) ∧
    ∀ x ∈ done, ∀ q ∈ cur, x = pairD q → (metL m ns (cur.filter fun z => z.1 != q.1)).length ≠ 1) ?_ ?_ _ _ _ ⟨ps, [], none, none, rfl, rfl, List.Sublist.refl _, hone, x1, h1, fun x h => nomatch h⟩
  · rintro ρ W' ⟨cur, done, o5, o6, e, rfl, hs, h2, x, h3, h4⟩
    refine ⟨.inl h3, ?_⟩
    rw [List.append_nil] at e
    subst e
    repeat walk_at "d1"
    refine E_end (q cur W' (fun z hz => hs.subset hz) hs h2 (List.all_eq_true.mpr fun z hz => bne_iff_ne.mpr ?_) x)
    exact h4 (pairD z) (hy.mem_iff.mpr (List.mem_map_of_mem (hs.subset hz))) z hz rfl
  · rintro x rest N hN ρ W' ⟨cur, done, o5, o6, e, rfl, hs, h2, xx, h3, h4⟩
    refine ⟨.inl h3, ?_⟩
    obtain ⟨⟨a0, t⟩, hm0, rfl⟩ := pairsD_mem (hy.mem_iff.mp (show x ∈ ys by rw [e]; simp))
    have hcl : cur.length ≤ 1000 := Nat.le_trans hs.length_le hz
    repeat walk_at "d1"
    refine OptD.mk rfl ?_
    repeat walk_at "d1"
    refine ⟨cur, a0, rfl, hcl, ?_⟩
    repeat walk_at "d1"
    have hl' := xx.2 _ _ hla hl
    have hr' := xx.2 _ _ hra hrr
    refine ⟨l, r, m, ns, _, rfl, hl', hr', hlen, hm, fun z hz => hps z (hs.subset (List.mem_filter.mp hz).1), Nat.le_trans (List.length_filter_le _ _) hcl, fun T hT => ?_⟩
    have hT2 : wset W' T (.lst (intsD (metL m ns (cur.filter fun q => q.1 != a0)))) T = some (.lst (intsD (metL m ns (cur.filter fun q => q.1 != a0)))) := wset_same
    have hp' : wset W' T (.lst (intsD (metL m ns (cur.filter fun q => q.1 != a0)))) p = some (.lst ys) := by rw [wset_ne (wne hT h3)]; exact h3
    have x2 := xx.trans (DrawX.new (m := .lst (intsD (metL m ns (cur.filter fun q => q.1 != a0)))) xx.d hT)
    repeat walk_at "d1"
    refine ⟨_, _, rfl, rfl, rfl, rfl, ?_⟩
    rw [eqv_one, intsD_len]
    have eys : ys = (done ++ [pairD (a0, t)]) ++ rest := by rw [e, List.append_assoc]; rfl
    repeat walk_at "d1"
    refine E_ite (fun c => ?_) (fun c => ?_)
    · repeat walk_at "d1"
      refine hN _ _ ⟨cur.filter (fun q => q.1 != a0), done ++ [pairD (a0, t)], _, _, eys, rfl, (List.filter_sublist ..).trans hs, by simpa using c, x2, hp', fun x hx z hz exz => ?_⟩
      obtain ⟨hz1, hz2⟩ := List.mem_filter.mp hz
      rcases List.mem_append.mp hx with hx | hx
      · intro h5
        refine h4 x hx z hz1 exz ?_
        obtain ⟨n, h6⟩ := met_len.mp h5
        refine met_len.mpr ⟨n, h6.more (fun y hy => ?_) ⟨k0, hk0, agree_sub (fun y hy => hs.subset (List.mem_filter.mp hy).1) hk1⟩⟩
        obtain ⟨hy1, hy2⟩ := List.mem_filter.mp hy
        exact List.mem_filter.mpr ⟨(List.mem_filter.mp hy1).1, hy2⟩
      · rw [List.mem_singleton.mp hx] at exz
        have := pairD_inj exz
        rw [← this] at hz2
        simp at hz2
    · repeat walk_at "d1"
      refine hN _ _ ⟨cur, done ++ [pairD (a0, t)], _, _, eys, rfl, hs, h2, x2, hp', fun x hx z hz exz => ?_⟩
      rcases List.mem_append.mp hx with hx | hx
      · exact h4 x hx z hz exz
      · rw [List.mem_singleton.mp hx] at exz
        have := pairD_inj exz
        rw [← this]
        simpa using c
end
end K51

namespace K51
open PySem PySem.Spec L2 RZ DL
open PyProof.Rows hiding St
local macro_rules | `(tactic| walk_at "d1") => `(tactic| (first
  | with_reducible refine E_seq ?_ | with_reducible refine E_ifS ?_ | with_reducible refine E_ret ?_ | with_reducible refine E_retN ?_ | with_reducible refine E_asg ?_ | with_reducible refine E_drop ?_ | with_reducible refine E_next ?_ | with_reducible refine E_cont ?_ | with_reducible refine E_break ?_
  | with_reducible refine E_not ?_ | with_reducible refine E_truth ?_ | with_reducible refine E_and ?_ | with_reducible refine E_or ?_ | with_reducible refine E_test ?_ | with_reducible refine E_yes ?_ | with_reducible refine E_andV ?_ | with_reducible refine E_orV ?_ | with_reducible refine E_notV ?_ | with_reducible refine E_if ?_
  | with_reducible refine E_op ?_ | with_reducible refine E_un ?_ | with_reducible refine E_chain ?_ | with_reducible refine E_var rfl ?_ | with_reducible refine E_c ?_ | with_reducible refine E_cb ?_ | with_reducible refine E_call ?_ | with_reducible refine E_cons ?_ | with_reducible refine E_nil ?_
  | with_reducible refine E_tup ?_ | with_reducible refine E_lst ?_ | with_reducible refine E_sl ?_ | with_reducible refine E_part ?_ | with_reducible refine E_no ?_ | with_reducible refine E_ml ?_ | with_reducible refine E_bits ?_ | with_reducible refine E_rev ?_
  | with_reducible refine E_gN ?_ | with_reducible refine E_gT rfl ?_ | with_reducible refine E_gsC ?_ | with_reducible refine E_gsN ?_ | with_reducible refine E_gIx ?_ | with_reducible refine E_for ?_ | with_reducible refine E_lc ?_
  | with_reducible refine E_dget ?_ | with_reducible refine E_din ?_ | with_reducible refine E_dput ?_ | with_reducible refine E_dpop ?_ | with_reducible refine E_nget ?_ | with_reducible refine E_nin ?_ | with_reducible refine E_nput ?_
  | with_reducible refine E_aug rfl ?_ | with_reducible refine E_augIx ?_ | with_reducible refine E_iSeq ?_ | with_reducible refine E_iRg1 ?_ | with_reducible refine E_iZipT ?_
  | with_reducible refine E_I0 ?_ | with_reducible refine E_bl ?_ | with_reducible refine E_tbl ?_ | with_reducible refine E_int ?_ | with_reducible refine E_mlA (by assumption) ?_ | with_reducible refine E_ref ?_ | with_reducible refine E_slT ?_ | with_reducible refine E_lenT ?_ | with_reducible refine E_iteT ?_ | with_reducible refine E_iteF ?_ | with_reducible refine E_int1 ?_ | with_reducible refine E_int1b ?_ | with_reducible refine E_abs ?_
  | ((with_reducible refine E_I ?_ ?_); focus (first | assumption | exact Or.inl ⟨by decide, by decide⟩ | exact Or.inr ⟨by decide, by decide⟩ | exact ⟨by decide, by decide, by decide⟩ | exact ⟨by decide, by decide⟩ | exact pow_posI _ | (show (0 : Int) < _; decide) | (show (0 : Int) ≤ _; decide))) | with_reducible refine E_lenL (by assumption) ?_
  | with_reducible refine E_ixL (by assumption) ?_ | with_reducible refine E_ixT ?_ | with_reducible refine OptD.mk rfl ?_ | refine E_le rfl ?_ | with_reducible refine E_revT ?_))
local macro_rules | `(tactic| walk_at "dx") => `(tactic| (first
  | with_reducible refine E_seq ?_ | with_reducible refine E_ret ?_ | with_reducible refine E_retN ?_ | with_reducible refine E_asg ?_ | with_reducible refine E_drop ?_ | with_reducible refine E_next ?_ | with_reducible refine E_cont ?_ | with_reducible refine E_break ?_
  | with_reducible refine E_not ?_ | with_reducible refine E_truth ?_ | with_reducible refine E_and ?_ | with_reducible refine E_or ?_ | with_reducible refine E_test ?_ | with_reducible refine E_yes ?_ | with_reducible refine E_andV ?_ | with_reducible refine E_orV ?_ | with_reducible refine E_notV ?_ | with_reducible refine E_if ?_
  | with_reducible refine E_op ?_ | with_reducible refine E_un ?_ | with_reducible refine E_chain ?_ | with_reducible refine E_var rfl ?_ | with_reducible refine E_c ?_ | with_reducible refine E_cb ?_ | with_reducible refine E_call ?_ | with_reducible refine E_cons ?_ | with_reducible refine E_nil ?_
  | with_reducible refine E_tup ?_ | with_reducible refine E_lst ?_ | with_reducible refine E_sl ?_ | with_reducible refine E_part ?_ | with_reducible refine E_no ?_ | with_reducible refine E_ml ?_ | with_reducible refine E_bits ?_ | with_reducible refine E_rev ?_
  | with_reducible refine E_gN ?_ | with_reducible refine E_gT rfl ?_ | with_reducible refine E_gsC ?_ | with_reducible refine E_gsN ?_ | with_reducible refine E_gIx ?_ | with_reducible refine E_for ?_ | with_reducible refine E_lc ?_
  | with_reducible refine E_dget ?_ | with_reducible refine E_din ?_ | with_reducible refine E_dput ?_ | with_reducible refine E_dpop ?_ | with_reducible refine E_nget ?_ | with_reducible refine E_nin ?_ | with_reducible refine E_nput ?_
  | with_reducible refine E_aug rfl ?_ | with_reducible refine E_augIx ?_ | with_reducible refine E_iSeq ?_ | with_reducible refine E_iRg1 ?_ | with_reducible refine E_iZipT ?_
  | with_reducible refine E_I0 ?_ | with_reducible refine E_bl ?_ | with_reducible refine E_tbl ?_ | with_reducible refine E_int ?_ | with_reducible refine E_mlA (by assumption) ?_ | with_reducible refine E_ref ?_ | with_reducible refine E_slT ?_ | with_reducible refine E_lenT ?_ | with_reducible refine E_iteT ?_ | with_reducible refine E_iteF ?_ | with_reducible refine E_int1 ?_ | with_reducible refine E_int1b ?_ | with_reducible refine E_abs ?_
  | ((with_reducible refine E_I ?_ ?_); focus (first | assumption | exact Or.inl ⟨by decide, by decide⟩ | exact Or.inr ⟨by decide, by decide⟩ | exact ⟨by decide, by decide, by decide⟩ | exact ⟨by decide, by decide⟩ | exact pow_posI _ | (show (0 : Int) < _; decide) | (show (0 : Int) ≤ _; decide))) | with_reducible refine E_lenL (by assumption) ?_
  | with_reducible refine E_ixL (by assumption) ?_ | with_reducible refine E_ixT ?_ | with_reducible refine OptD.mk rfl ?_ | refine E_le rfl ?_ | with_reducible refine E_revT ?_))
/-- a tuple of plain data -/
def Thing (d : D) : Prop := ∃ xs, d = .tup xs ∧ (pydL xs).isSome = true ∧ xs.length ≤ 1000
def Things : List D → Prop
  | [] => True
  | d :: ds => Thing d ∧ Things ds
theorem Things.app : ∀ {a b : List D}, Things a → Things b → Things (a ++ b)
  | [], b, _, h => h
  | d :: a, b, h, k => ⟨h.1, Things.app h.2 k⟩
theorem Things.mem : ∀ {a : List D} {x : D}, Things a → x ∈ a → Thing x
  | d :: a, x, h, hx => by
    rcases List.mem_cons.mp hx with rfl | hx
    · exact h.1
    · exact Things.mem h.2 hx
theorem things_of : ∀ {a : List D}, (∀ x ∈ a, Thing x) → Things a
  | [], _ => trivial
  | d :: a, h => ⟨h d (List.mem_cons_self ..), things_of fun x hx => h x (List.mem_cons_of_mem _ hx)⟩
theorem ok_nil : (pydL []).isSome = true := rfl
theorem ok_cons (d : D) (ds : List D) : (pydL (d :: ds)).isSome = ((pyd d).isSome && (pydL ds).isSome) := by
  show (match pyd d, pydL ds with | some p, some ps => some (p :: ps) | _, _ => none).isSome = _
  cases pyd d <;> cases pydL ds <;> rfl
theorem ok_app : ∀ (a b : List D), (pydL (a ++ b)).isSome = ((pydL a).isSome && (pydL b).isSome)
  | [], b => by rw [List.nil_append, ok_nil, Bool.true_and]
  | d :: a, b => by rw [List.cons_append, ok_cons, ok_cons, ok_app a b, Bool.and_assoc]
theorem ok_rev : ∀ (a : List D), (pydL a.reverse).isSome = (pydL a).isSome
  | [] => rfl
  | d :: a => by rw [List.reverse_cons, ok_app, ok_rev a, ok_cons, ok_cons, ok_nil, Bool.and_true, Bool.and_comm]
theorem ok_tup (a : List D) : (pyd (.tup a)).isSome = (pydL a).isSome := by
  simp only [pyd]
  cases pydL a <;> rfl
theorem ok_int (i : Int) : (pyd (.int i)).isSome = true := rfl
theorem ok_bl (i : Bool) : (pyd (.bl i)).isSome = true := rfl
theorem ok_str (i : Str) : (pyd (.str i)).isSome = true := rfl
theorem ok_non : (pyd .non).isSome = true := rfl
theorem ok_pairs' : ∀ ps, (pydL (pairsD ps)).isSome = true
  | [] => rfl
  | p :: ps => by
    show (pydL (pairD p :: pairsD ps)).isSome = true
    rw [ok_cons, ok_pairs' ps]; rfl
def spSpoilt : SpD := fun ds W R => ∃ (ps : List (Nat × Bool)) (m : Nat), ds = [.tup (pairsD ps), .int (m : Int)] ∧ ps.length ≤ 500 ∧ ∀ p xs W', W p = none → Things xs → xs.length ≤ 100 → Sub W W' → W' p = some (.lst xs) → R (.ref p) W'
def SpSt (xs : List D) (m : Nat) (f : D) (rs : List D) (W0 : Wd) (n : Nat) (ρ : DSt) (W : Wd) : Prop := ∃ (p : Addr) (F : List D), ρ = [some (.tup xs), some (.int (m : Int)), some f, some (.tup rs), some (.ref p)] ∧ W0 p = none ∧ Sub W0 W ∧ W p = some (.lst F) ∧ Things F ∧ F.length ≤ n
theorem sp_catR {W0 W : Wd} {p p2 : Addr} {F G : List D} {n k : Nat} {Q : DQ} (s : Sub W0 W) (hp : W p = some (.lst F)) (tF : Things F) (lF : F.length ≤ n) (hp2 : W p2 = none) (tG : Things G) (lG : G.length ≤ k) (hn : n + k ≤ 100)
    (hN : ∀ p3 W' X, W0 p3 = none → Things X → X.length ≤ n + k → Sub W0 W' → W' p3 = some (.lst X) → Q (.ref p3) W') : fCatL (.ref p) (.ref p2) (wset W p2 (.lst G)) Q := by
  refine ⟨p, p2, F, G, rfl, rfl, by rw [wset_ne (wne hp2 hp)]; exact hp, wset_same, by rw [sz_eq]; omega, fun p3 hp3 => ?_⟩
  have s2 : Sub W0 (wset W p2 (.lst G)) := Sub.set (Sub.free s hp2) s
  exact hN p3 _ _ (Sub.free s2 hp3) (tF.app tG) (by rw [List.length_append]; omega) (Sub.set (Sub.free s2 hp3) s2) wset_same
theorem sp_cat {xs rs : List D} {m : Nat} {f : D} {W0 W : Wd} {p p2 : Addr} {F G : List D} {n k : Nat} {N : DSt → Wd → Prop} (s : Sub W0 W) (hp : W p = some (.lst F)) (tF : Things F) (lF : F.length ≤ n) (hp2 : W p2 = none) (tG : Things G) (lG : G.length ≤ k) (hn : n + k ≤ 100)
    (hN : ∀ ρ W', SpSt xs m f rs W0 (n + k) ρ W' → N ρ W') : fCatL (.ref p) (.ref p2) (wset W p2 (.lst G)) fun d W1 => gN 4 d [some (.tup xs), some (.int (m : Int)), some f, some (.tup rs), some (.ref p)] W1 N :=
  sp_catR s hp tF lF hp2 tG lG hn fun p3 W' X h0 tX lX s' h' => hN _ _ ⟨p3, X, rfl, h0, s', h', tX, lX⟩
section
variable {P : Program} {w : World} {K : Frag} {mg : Str → Option Value} {base : Heap}
abbrev st__law_spoilt : Stmt := topS 27
abbrev N__law_spoilt : List Str := ["_law_pairs_here", "_law_many", "_law_first", "_law_rest", "_law_found"]
theorem sc__law_spoilt : FnScope N__law_spoilt ["_law_pairs_here", "_law_many"] (defScope st__law_spoilt) := ⟨rfl, rfl, rfl, by decide +kernel, rfl, by decide +kernel, by decide +kernel⟩
theorem start__law_spoilt (x0 x1 : D) : startD N__law_spoilt [x0, x1] = [some x0, some x1, none, none, none] := rfl
theorem ok_spoilt {f : Addr} {fd : FuncData} (F : Fun K "_law_spoilt" "_law_spoilt" st__law_spoilt f fd) (g : mg "_law_spoilt" = some (.ref f)) (b : Binds K fd ["_law_pairs_here", "_law_many"] []) (B : Bi mg) : Fn P w K mg base 1 "_law_spoilt" spSpoilt := by
  refine fn_mk F sc__law_spoilt g b (fun ds W R h => by obtain ⟨a, _, rfl, _⟩ := h; rfl) fun cdv A outer s H E hr => ⟨_, 
      (s_cons (s_set (i := 2) sc__law_spoilt.nd rfl (by first | exact .inl rfl | exact .inr rfl) (d_if (d_cmpT op_gt od_gt (d_len B.len (da_cons (d_var 0) da_nil)) d_int (nomark _)) (d_ix (d_var 0) d_int) (d_tup (da_cons d_int (da_cons d_bl da_nil)))))
      (s_cons (s_set (i := 3) sc__law_spoilt.nd rfl (by first | exact .inl rfl | exact .inr rfl) (d_slice (d_var 0) (do_some d_int) do_no))
      (s_cons (s_set (i := 4) sc__law_spoilt.nd rfl (by first | exact .inl rfl | exact .inr rfl) (d_lst (da_cons (d_catT (d_var 0) (d_tup (da_cons (d_var 2) da_nil))) (da_cons (d_catT (d_tup (da_cons (d_var 2) da_nil)) (d_var 0)) (da_cons (d_rev (d_var 0)) (da_cons (d_catT (d_tup (da_cons (d_tup (da_cons (d_ix (d_var 2) d_int) (da_cons (d_notV (d_ix (d_var 2) d_int)) da_nil))) da_nil)) (d_var 3)) da_nil))))))
      (s_cons (s_set (i := 4) sc__law_spoilt.nd rfl (by first | exact .inl rfl | exact .inr rfl) (d_catL (d_var 4) (d_lst (da_cons (d_catT (d_tup (da_cons (d_tup (da_cons (d_ix (d_var 2) d_int) (da_cons (d_callTy call_int1 cd_int1 B.int (by decide +kernel) (da_cons (d_ix (d_var 2) d_int) da_nil)) da_nil))) da_nil)) (d_var 3)) (da_cons (d_catT (d_tup (da_cons (d_tup (da_cons (d_ix (d_var 2) d_int) (da_cons d_non da_nil))) da_nil)) (d_var 3)) (da_cons (d_catT (d_tup (da_cons (d_tup (da_cons (d_ix (d_var 2) d_int) (da_cons (d_ix (d_var 2) d_int) da_nil))) da_nil)) (d_var 3)) da_nil))))))
      (s_cons (s_expr (d_append (d_var 4) (da_cons (d_catT (d_tup (da_cons (d_tup (da_cons (d_ix (d_var 2) d_int) (da_cons d_bl da_nil))) (da_cons (d_tup (da_cons (d_ix (d_var 2) d_int) (da_cons d_bl da_nil))) da_nil))) (d_var 3)) da_nil)))
      (s_cons (s_set (i := 4) sc__law_spoilt.nd rfl (by first | exact .inl rfl | exact .inr rfl) (d_catL (d_var 4) (d_lst (da_cons (d_catT (d_tup (da_cons (d_tup (da_cons (d_ix (d_var 2) d_int) (da_cons d_str da_nil))) da_nil)) (d_var 3)) (da_cons (d_catT (d_tup (da_cons (d_tup (da_cons d_str (da_cons (d_ix (d_var 2) d_int) da_nil))) da_nil)) (d_var 3)) (da_cons (d_catT (d_tup (da_cons (d_tup (da_cons d_non (da_cons (d_ix (d_var 2) d_int) da_nil))) da_nil)) (d_var 3)) da_nil))))))
      (s_cons (s_set (i := 4) sc__law_spoilt.nd rfl (by first | exact .inl rfl | exact .inr rfl) (d_catL (d_var 4) (d_lst (da_cons (d_catT (d_tup (da_cons (d_catT (d_var 2) (d_tup (da_cons d_bl da_nil))) da_nil)) (d_var 3)) (da_cons (d_catT (d_tup (da_cons (d_slice (d_var 2) do_no (do_some d_int)) da_nil)) (d_var 3)) (da_cons (d_catT (d_tup (da_cons (d_ix (d_var 2) d_int) da_nil)) (d_var 3)) (da_cons (d_catT (d_tup (da_cons (d_tup da_nil) da_nil)) (d_var 3)) (da_cons (d_tup (da_cons (d_var 2) (da_cons (d_tup (da_cons (d_var 0) da_nil)) da_nil))) da_nil))))))))
      (s_cons (s_set (i := 4) sc__law_spoilt.nd rfl (by first | exact .inl rfl | exact .inr rfl) (d_catL (d_var 4) (d_lst (da_cons (d_catT (d_tup (da_cons (d_tup (da_cons (d_cmp (op_eqD (hr.u 64)) od_eq (d_ix (d_var 2) d_int) d_int (nomark _)) (da_cons (d_ix (d_var 2) d_int) da_nil))) da_nil)) (d_var 3)) (da_cons (d_catT (d_tup (da_cons (d_tup (da_cons (d_ix (d_var 2) d_int) (da_cons (d_ix (d_var 2) d_int) da_nil))) da_nil)) (d_var 3)) (da_cons (d_catT (d_tup (da_cons (d_tup (da_cons d_str (da_cons (d_ix (d_var 2) d_int) da_nil))) da_nil)) (d_var 3)) da_nil))))))
      (s_cons (s_set (i := 4) sc__law_spoilt.nd rfl (by first | exact .inl rfl | exact .inr rfl) (d_catL (d_var 4) (d_lst (da_cons (d_catT (d_var 0) (d_tup (da_cons (d_tup (da_cons (d_var 1) (da_cons d_bl da_nil))) da_nil))) (da_cons (d_catT (d_var 0) (d_tup (da_cons (d_tup (da_cons (d_add (d_var 1) d_int) (da_cons d_bl da_nil))) da_nil))) (da_cons (d_catT (d_tup (da_cons (d_tup (da_cons (d_neg d_int) (da_cons d_bl da_nil))) da_nil)) (d_var 0)) (da_cons (d_catT (d_tup (da_cons (d_tup (da_cons (d_neg d_int) (da_cons d_bl da_nil))) da_nil)) (d_var 0)) da_nil)))))))
      (s_one (s_ret (d_catL (d_var 4) (d_lst (da_cons (d_catT (d_var 0) (d_tup (da_cons (d_tup (da_cons d_int (da_cons d_bl da_nil))) da_nil))) (da_cons (d_catT (d_tup (da_cons (d_tup (da_cons d_int (da_cons d_bl da_nil))) da_nil)) (d_var 0)) (da_cons (d_tup (da_cons d_str (da_cons d_int da_nil))) (da_cons (d_tup (da_cons d_str da_nil)) (da_cons (d_tup (da_cons d_non da_nil)) (da_cons (d_tup (da_cons d_bl (da_cons d_bl da_nil))) da_nil))))))))))))))))))), fun ds W R h => ?_⟩
  obtain ⟨ps, m, rfl, hz, q⟩ := h
  rw [start__law_spoilt]
  refine E_start ?_
  have hsz := sz_eq
  refine E_seq ?_
  have hlp : (pairsD ps).length ≤ 500 := by rw [pairsD_len]; exact hz
  have okp := ok_pairs' ps
  generalize hxs : pairsD ps = xs at *
  refine E_join (fun ρ' W' => ∃ (a : Int) (t : Bool), ρ' = [some (.tup xs), some (.int (m : Int)), some (.tup [.int a, .bl t]), none, none] ∧ W' = W) ?_ ?_
  · rintro ρ W1 ⟨a, t, rfl, rfl⟩
    refine E_seq ?_
    refine E_join (fun ρ' W' => ∃ rs, ρ' = [some (.tup xs), some (.int (m : Int)), some (.tup [.int a, .bl t]), some (.tup rs), none] ∧ W' = W1 ∧ rs.length ≤ 500 ∧ (pydL rs).isSome = true) ?_ ?_
    · rintro ρ W2 ⟨rs, rfl, rfl, hlr, okr⟩
      refine E_seq ?_
      have hcut : cutD [.int a, .bl t] none (some 1) = [.int a] := rfl
      refine E_join (SpSt xs m (.tup [.int a, .bl t]) rs W2 4) ?_ ?_
      · rintro ρ W3 ⟨p, F, rfl, h0, hs, hp, tF, lF⟩
        refine E_seq ?_
        refine E_join (SpSt xs m (.tup [.int a, .bl t]) rs W2 7) ?_ ?_
        · clear hp tF lF hs h0 F p W3
          rintro ρ W3 ⟨p, F, rfl, h0, hs, hp, tF, lF⟩
          refine E_seq ?_
          refine E_join (SpSt xs m (.tup [.int a, .bl t]) rs W2 8) ?_ ?_
          · clear hp tF lF hs h0 F p W3
            rintro ρ W3 ⟨p, F, rfl, h0, hs, hp, tF, lF⟩
            refine E_seq ?_
            refine E_join (SpSt xs m (.tup [.int a, .bl t]) rs W2 11) ?_ ?_
            · clear hp tF lF hs h0 F p W3
              rintro ρ W3 ⟨p, F, rfl, h0, hs, hp, tF, lF⟩
              refine E_seq ?_
              refine E_join (SpSt xs m (.tup [.int a, .bl t]) rs W2 16) ?_ ?_
              · clear hp tF lF hs h0 F p W3
                rintro ρ W3 ⟨p, F, rfl, h0, hs, hp, tF, lF⟩
                refine E_seq ?_
                refine E_join (SpSt xs m (.tup [.int a, .bl t]) rs W2 19) ?_ ?_
                · clear hp tF lF hs h0 F p W3
                  rintro ρ W3 ⟨p, F, rfl, h0, hs, hp, tF, lF⟩
                  refine E_seq ?_
                  refine E_join (SpSt xs m (.tup [.int a, .bl t]) rs W2 23) ?_ ?_
                  · clear hp tF lF hs h0 F p W3
                    rintro ρ W3 ⟨p, F, rfl, h0, hs, hp, tF, lF⟩
                    repeat (first | walk_at "dx" | (with_reducible refine E_catT ?_ ?_; focus (simp only [List.length_cons, List.length_nil, List.length_append, hcut]; omega)))
                    intro p2 hp2
                    refine sp_catR hs hp tF lF hp2 (k := 6) ?_ (Nat.le_of_ble_eq_true rfl) (by omega) fun p3 W4 X hp3 tX lX hs4 h4 => E_end (q p3 X W4 hp3 tX (by omega) hs4 h4)
                    ((repeat' (first | exact trivial | refine And.intro ⟨_, rfl, ?_, ?_⟩ ?_)) <;> first
                      | (simp only [hcut, ok_app, ok_cons, ok_nil, ok_tup, ok_int, ok_bl, ok_str, ok_non, ok_rev, okp, okr, Bool.and_true, Bool.true_and, Bool.and_self]; done)
                      | (simp only [List.length_append, List.length_cons, List.length_nil, List.length_reverse]; omega))
                  · intro N hN
                    repeat (first | walk_at "dx" | (with_reducible refine E_catT ?_ ?_; focus (simp only [List.length_cons, List.length_nil, List.length_append, hcut]; omega)))
                    intro p2 hp2
                    refine sp_cat hs hp tF lF hp2 (k := 4) ?_ (Nat.le_of_ble_eq_true rfl) (by omega) hN
                    ((repeat' (first | exact trivial | refine And.intro ⟨_, rfl, ?_, ?_⟩ ?_)) <;> first
                      | (simp only [hcut, ok_app, ok_cons, ok_nil, ok_tup, ok_int, ok_bl, ok_str, ok_non, ok_rev, okp, okr, Bool.and_true, Bool.true_and, Bool.and_self]; done)
                      | (simp only [List.length_append, List.length_cons, List.length_nil, List.length_reverse]; omega))
                · intro N hN
                  repeat (first | walk_at "dx" | (with_reducible refine E_catT ?_ ?_; focus (simp only [List.length_cons, List.length_nil, List.length_append, hcut]; omega)))
                  refine ⟨_, _, rfl, rfl, rfl, rfl, ?_⟩
                  repeat (first | walk_at "dx" | (with_reducible refine E_catT ?_ ?_; focus (simp only [List.length_cons, List.length_nil, List.length_append, hcut]; omega)))
                  intro p2 hp2
                  refine sp_cat hs hp tF lF hp2 (k := 3) ?_ (Nat.le_of_ble_eq_true rfl) (by omega) hN
                  ((repeat' (first | exact trivial | refine And.intro ⟨_, rfl, ?_, ?_⟩ ?_)) <;> first
                      | (simp only [hcut, ok_app, ok_cons, ok_nil, ok_tup, ok_int, ok_bl, ok_str, ok_non, ok_rev, okp, okr, Bool.and_true, Bool.true_and, Bool.and_self]; done)
                      | (simp only [List.length_append, List.length_cons, List.length_nil, List.length_reverse]; omega))
              · intro N hN
                repeat (first | walk_at "dx" | (with_reducible refine E_catT ?_ ?_; focus (simp only [List.length_cons, List.length_nil, List.length_append, hcut]; omega)))
                intro p2 hp2
                refine sp_cat hs hp tF lF hp2 (k := 5) ?_ (Nat.le_of_ble_eq_true rfl) (by omega) hN
                ((repeat' (first | exact trivial | refine And.intro ⟨_, rfl, ?_, ?_⟩ ?_)) <;> first
                      | (simp only [hcut, ok_app, ok_cons, ok_nil, ok_tup, ok_int, ok_bl, ok_str, ok_non, ok_rev, okp, okr, Bool.and_true, Bool.true_and, Bool.and_self]; done)
                      | (simp only [List.length_append, List.length_cons, List.length_nil, List.length_reverse]; omega))
            · intro N hN
              repeat (first | walk_at "dx" | (with_reducible refine E_catT ?_ ?_; focus (simp only [List.length_cons, List.length_nil, List.length_append, hcut]; omega)))
              intro p2 hp2
              refine sp_cat hs hp tF lF hp2 (k := 3) ?_ (Nat.le_of_ble_eq_true rfl) (by omega) hN
              ((repeat' (first | exact trivial | refine And.intro ⟨_, rfl, ?_, ?_⟩ ?_)) <;> first
                      | (simp only [hcut, ok_app, ok_cons, ok_nil, ok_tup, ok_int, ok_bl, ok_str, ok_non, ok_rev, okp, okr, Bool.and_true, Bool.true_and, Bool.and_self]; done)
                      | (simp only [List.length_append, List.length_cons, List.length_nil, List.length_reverse]; omega))
          · intro N hN
            repeat (first | walk_at "dx" | (with_reducible refine E_catT ?_ ?_; focus (simp only [List.length_cons, List.length_nil, List.length_append, hcut]; omega)))
            refine ⟨_, F, rfl, hp, by omega, ?_⟩
            refine hN _ _ ⟨p, _, rfl, h0, Sub.set h0 hs, wset_same, tF.app ?_, by rw [List.length_append]; exact Nat.add_le_add_right lF 1⟩
            ((repeat' (first | exact trivial | refine And.intro ⟨_, rfl, ?_, ?_⟩ ?_)) <;> first
                      | (simp only [hcut, ok_app, ok_cons, ok_nil, ok_tup, ok_int, ok_bl, ok_str, ok_non, ok_rev, okp, okr, Bool.and_true, Bool.true_and, Bool.and_self]; done)
                      | (simp only [List.length_append, List.length_cons, List.length_nil, List.length_reverse]; omega))
        · intro N hN
          repeat (first | walk_at "dx" | (with_reducible refine E_catT ?_ ?_; focus (simp only [List.length_cons, List.length_nil, List.length_append, hcut]; omega)))
          intro p2 hp2
          refine sp_cat hs hp tF lF hp2 (k := 3) ?_ (Nat.le_of_ble_eq_true rfl) (by omega) hN
          ((repeat' (first | exact trivial | refine And.intro ⟨_, rfl, ?_, ?_⟩ ?_)) <;> first
                      | (simp only [hcut, ok_app, ok_cons, ok_nil, ok_tup, ok_int, ok_bl, ok_str, ok_non, ok_rev, okp, okr, Bool.and_true, Bool.true_and, Bool.and_self]; done)
                      | (simp only [List.length_append, List.length_cons, List.length_nil, List.length_reverse]; omega))
      · intro N hN
        repeat (first | walk_at "dx" | (with_reducible refine E_catT ?_ ?_; focus (simp only [List.length_cons, List.length_nil, List.length_append, hcut]; omega)))
        intro p1 hp1
        refine hN _ _ ⟨p1, _, rfl, hp1, Sub.new hp1, wset_same, ?_, Nat.le_of_ble_eq_true rfl⟩
        ((repeat' (first | exact trivial | refine And.intro ⟨_, rfl, ?_, ?_⟩ ?_)) <;> first
                      | (simp only [hcut, ok_app, ok_cons, ok_nil, ok_tup, ok_int, ok_bl, ok_str, ok_non, ok_rev, okp, okr, Bool.and_true, Bool.true_and, Bool.and_self]; done)
                      | (simp only [List.length_append, List.length_cons, List.length_nil, List.length_reverse]; omega))
    · intro N hN
      repeat walk_at "d1"
      have e1 : cutD xs (some 1) none = xs.drop 1 := cut_from (ds := xs) (h := 1)
      refine hN _ _ ⟨_, rfl, rfl, ?_, ?_⟩
      · rw [e1, List.length_drop]; omega
      · rw [e1]
        cases xs with
        | nil => rfl
        | cons x xs =>
          rw [ok_cons, Bool.and_eq_true] at okp
          exact okp.2
  · intro N hN
    repeat walk_at "d1"
    refine E_dec (fun c => ?_) (fun c => ?_)
    · repeat walk_at "d1"
      obtain ⟨p0, ps', rfl⟩ : ∃ p0 ps', ps = p0 :: ps' := by
        cases ps with
        | nil => subst hxs; cases c
        | cons p0 ps' => exact ⟨p0, ps', rfl⟩
      subst hxs
      refine OptD.mk (show atI (pairsD (p0 :: ps')) 0 = some (pairD p0) from by rw [atI_ge (by decide)]; rfl) ?_
      repeat walk_at "d1"
      exact hN _ _ ⟨_, _, rfl, rfl⟩
    · repeat walk_at "d1"
      exact hN _ _ ⟨_, _, rfl, rfl⟩
end
end K51

namespace K51
open PySem PySem.Spec L2 RZ DL
open PyProof.Rows hiding St
/-! ### what the table answers -/
abbrev Fix := Nat → Option Bool
def nxt (fix : Fix) : Nd → List Nat
  | .leaf _ => []
  | .node a lo hi => match fix a with
    | some true => [hi]
    | some false => [lo]
    | none => [lo, hi]
inductive Rch (T : List Nd) (fix : Fix) : Nat → Nat → Prop where
  | refl (i : Nat) : Rch T fix i i
  | head {i k j : Nat} {x : Nd} : T[i]? = some x → k ∈ nxt fix x → Rch T fix k j → Rch T fix i j
theorem Rch.tail {T : List Nd} {fix : Fix} {i j k : Nat} {x : Nd} (h : Rch T fix i j) (hx : T[j]? = some x) (hk : k ∈ nxt fix x) : Rch T fix i k := by
  induction h with
  | refl i => exact .head hx hk (.refl _)
  | head h1 h2 _ ih => exact .head h1 h2 (ih hx)
theorem Rch.inside {T : List Nd} {fix : Fix} {i j : Nat} {M : Nat → Prop} (h : Rch T fix i j) (hi : M i) (hM : ∀ i, M i → ∀ x, T[i]? = some x → ∀ k ∈ nxt fix x, M k) : M j := by
  induction h with
  | refl i => exact hi
  | head h1 h2 _ ih => exact ih (hM _ hi _ h1 _ h2)
/-- a valuation of the last j atoms that fits -/
def ConsJ (many j : Nat) (fix : Fix) (k : Nat) : Prop := ∀ a, many - j ≤ a → a < many → ∀ b, fix a = some b → k.testBit (many - 1 - a) = b
def AttJ (many j : Nat) (fix : Fix) (ns : List Int) (n : Int) : Prop := ∃ k, k < 2 ^ j ∧ ConsJ many j fix k ∧ ns.getD k 0 = n
theorem getD_take {ns : List Int} {k j : Nat} (h : k < j) : (ns.take j).getD k 0 = ns.getD k 0 := by
  rw [List.getD_eq_getElem?_getD, List.getD_eq_getElem?_getD, List.getElem?_take_of_lt h]
theorem getD_drop {ns : List Int} {k j : Nat} : (ns.drop j).getD k 0 = ns.getD (j + k) 0 := by
  rw [List.getD_eq_getElem?_getD, List.getD_eq_getElem?_getD, List.getElem?_drop]
theorem half_att {many j : Nat} {fix : Fix} {ns : List Int} {n : Int} (hj : j + 1 ≤ many) :
    AttJ many (j + 1) fix ns n ↔ (fix (many - (j + 1)) ≠ some true ∧ AttJ many j fix (ns.take (2 ^ j)) n) ∨ (fix (many - (j + 1)) ≠ some false ∧ AttJ many j fix (ns.drop (2 ^ j)) n) := by
  have hp : 2 ^ (j + 1) = 2 ^ j + 2 ^ j := by rw [Nat.pow_succ]; omega
  have hb : many - 1 - (many - (j + 1)) = j := by omega
  constructor
  · rintro ⟨k, h1, h2, h3⟩
    by_cases hk : k < 2 ^ j
    · refine .inl ⟨fun e => ?_, k, hk, fun a ha1 ha2 b e => h2 a (by omega) ha2 b e, by rw [getD_take hk]; exact h3⟩
      have := h2 _ (Nat.le_refl _) (by omega) _ e
      rw [hb, Nat.testBit_lt_two_pow hk] at this
      cases this
    · have hk2 : k = 2 ^ j + (k - 2 ^ j) := by omega
      have hlt : k - 2 ^ j < 2 ^ j := by omega
      refine .inr ⟨fun e => ?_, k - 2 ^ j, hlt, fun a ha1 ha2 b e => ?_, by rw [getD_drop, ← hk2]; exact h3⟩
      · have := h2 _ (Nat.le_refl _) (by omega) _ e
        rw [hb, hk2, Nat.testBit_two_pow_add_eq, Nat.testBit_lt_two_pow hlt] at this
        cases this
      · have := h2 a (by omega) ha2 b e
        rw [hk2, Nat.testBit_two_pow_add_gt (by omega)] at this
        exact this
  · rintro (⟨h0, k, h1, h2, h3⟩ | ⟨h0, k, h1, h2, h3⟩)
    · refine ⟨k, by omega, fun a ha1 ha2 b e => ?_, by rw [← getD_take h1]; exact h3⟩
      by_cases ha : many - j ≤ a
      · exact h2 a ha ha2 b e
      · have : a = many - (j + 1) := by omega
        subst this
        rw [hb, Nat.testBit_lt_two_pow h1]
        cases b with
        | false => rfl
        | true => exact absurd e h0
    · refine ⟨2 ^ j + k, by omega, fun a ha1 ha2 b e => ?_, by rw [← getD_drop]; exact h3⟩
      by_cases ha : many - j ≤ a
      · rw [Nat.testBit_two_pow_add_gt (by omega)]
        exact h2 a ha ha2 b e
      · have : a = many - (j + 1) := by omega
        subst this
        rw [hb, Nat.testBit_two_pow_add_eq, Nat.testBit_lt_two_pow h1]
        cases b with
        | true => rfl
        | false => exact absurd e h0
theorem same_att {many j : Nat} {fix : Fix} {ns : List Int} {n : Int} (hj : j + 1 ≤ many) (e : ns.take (2 ^ j) = ns.drop (2 ^ j)) : AttJ many (j + 1) fix ns n ↔ AttJ many j fix (ns.take (2 ^ j)) n := by
  rw [half_att hj, ← e]
  constructor
  · rintro (⟨_, h⟩ | ⟨_, h⟩) <;> exact h
  · intro h
    by_cases q : fix (many - (j + 1)) = some true
    · exact .inr ⟨by rw [q]; decide, h⟩
    · exact .inl ⟨q, h⟩
theorem pow2_inj {a b : Nat} (h : 2 ^ a = 2 ^ b) : a = b := by
  rcases Nat.lt_trichotomy a b with c | c | c
  · have := Nat.pow_lt_pow_right (a := 2) (by decide) c
    omega
  · exact c
  · have := Nat.pow_lt_pow_right (a := 2) (by decide) c
    omega
/-- the level of a row: the row's length is 2 ^ level -/
theorem shr_att {many : Nat} {fix : Fix} {n : Int} : ∀ (j : Nat) (ns : List Int), j ≤ many → ns.length = 2 ^ j → ∀ i, (shr j ns).length = 2 ^ i → (AttJ many j fix ns n ↔ AttJ many i fix (shr j ns) n)
  | 0, ns, _, hl, i, hi => by
    have : i = 0 := by
      unfold shr at hi
      rw [hl] at hi
      exact (pow2_inj hi).symm
    subst this
    rfl
  | j + 1, ns, hj, hl, i, hi => by
    unfold shr at hi ⊢
    by_cases c : ns.take (2 ^ j) = ns.drop (2 ^ j)
    · rw [if_pos c] at hi ⊢
      rw [same_att hj c]
      exact shr_att j _ (by omega) (by rw [List.length_take, hl, Nat.pow_succ]; omega) i hi
    · rw [if_neg c] at hi ⊢
      rw [hl] at hi
      have : i = j + 1 := (pow2_inj hi).symm
      subst this
      rfl
def LeafFrom (T : List Nd) (fix : Fix) (i : Nat) (n : Nat) : Prop := ∃ p, Rch T fix i p ∧ T[p]? = some (.leaf n)
theorem leaf_att {many N : Nat} {T : List Nd} {Rs : List (List Int)} {fix : Fix} (t : Tbl many N T Rs) {n : Nat} : ∀ (i : Nat) (ns : List Int), Rs[i]? = some ns → ∃ j, j ≤ many ∧ ns.length = 2 ^ j ∧ (LeafFrom T fix i n ↔ AttJ many j fix ns n) := by
  intro i
  induction i using Nat.strongRecOn with
  | ind i ih =>
    intro ns hns
    have hi : i < Rs.length := (List.getElem?_eq_some_iff.mp hns).1
    rcases t.ok i hi with ⟨n0, h1, h2, h3⟩ | ⟨j, lo, hi2, ms, h1, h2, h3, h4, h5, h6, h7, h8⟩
    · rw [hns] at h3
      cases h3
      refine ⟨0, Nat.zero_le _, rfl, ?_, ?_⟩
      · rintro ⟨p, r, hp⟩
        cases r with
        | refl =>
          rw [h2] at hp
          cases hp
          exact ⟨0, by decide, fun a ha1 ha2 => by omega, rfl⟩
        | head e1 e2 _ =>
          rw [h2] at e1
          cases e1
          cases e2
      · rintro ⟨k, hk, _, hkn⟩
        have : k = 0 := by simpa using hk
        subst this
        have e : (n0 : Int) = (n : Int) := hkn
        have : n0 = n := by omega
        subst this
        exact ⟨i, .refl _, h2⟩
    · rw [hns] at h2
      cases h2
      refine ⟨j + 1, h4, h3, ?_⟩
      obtain ⟨j1, a1, a2, a3⟩ := ih lo h5 _ h7
      obtain ⟨j2, b1, b2, b3⟩ := ih hi2 h6 _ h8
      have hl1 : (ns.take (2 ^ j)).length = 2 ^ j := by rw [List.length_take, h3, Nat.pow_succ]; omega
      have hl2 : (ns.drop (2 ^ j)).length = 2 ^ j := by rw [List.length_drop, h3, Nat.pow_succ]; omega
      rw [half_att h4, shr_att j _ (by omega) hl1 j1 a2, shr_att j _ (by omega) hl2 j2 b2, ← a3, ← b3]
      have key : LeafFrom T fix i n ↔ ∃ k ∈ nxt fix (.node (many - (j + 1)) lo hi2), LeafFrom T fix k n := by
        constructor
        · rintro ⟨p, r, hp⟩
          cases r with
          | refl =>
            rw [h1] at hp
            cases hp
          | head e1 e2 e3 =>
            rw [h1] at e1
            cases e1
            exact ⟨_, e2, p, e3, hp⟩
        · rintro ⟨k, hk, p, r, hp⟩
          exact ⟨p, .head h1 hk r, hp⟩
      rw [key]
      cases q : fix (many - (j + 1)) with
      | none => simp [nxt, q]
      | some b => cases b <;> simp [nxt, q]
/-- one value alone is left -/
def OneF (m : Nat) (ns : List Int) (fix : Fix) (n : Int) : Prop := (∃ k, k < 2 ^ m ∧ ConsJ m m fix k) ∧ ∀ k, k < 2 ^ m → ConsJ m m fix k → ns.getD k 0 = n
theorem tbl_one {m N : Nat} {T : List Nd} {Rs : List (List Int)} {fix : Fix} {ns : List Int} (t : Tbl m N T Rs) (hl : ns.length = 2 ^ m) (hr : Rs[T.length - 1]? = some (shr m ns)) (hin : ∀ x ∈ ns, 0 ≤ x) {is : List Nat} (nd : is.Nodup)
    (hi : ∀ i, i ∈ is ↔ Rch T fix (T.length - 1) i ∧ ∃ n, T[i]? = some (Nd.leaf n)) (n : Nat) : (∃ i, is = [i] ∧ T[i]? = some (.leaf n)) ↔ OneF m ns fix n := by
  have att : ∀ n : Nat, LeafFrom T fix (T.length - 1) n ↔ AttJ m m fix ns n := fun n => by
    obtain ⟨j, h1, h2, h3⟩ := leaf_att t (fix := fix) (n := n) _ _ hr
    rw [h3, shr_att m ns (Nat.le_refl _) hl j h2]
  have uniq : ∀ i i' : Nat, ∀ n : Nat, T[i]? = some (Nd.leaf n) → T[i']? = some (Nd.leaf n) → i = i' := fun i i' n h h' => by
    have g : ∀ i : Nat, T[i]? = some (Nd.leaf n) → Rs[i]? = some [(n : Int)] := fun i h => by
      have hlt : i < Rs.length := by rw [← t.len]; exact (List.getElem?_eq_some_iff.mp h).1
      rcases t.ok i hlt with ⟨n0, _, e1, e2⟩ | ⟨j, lo, hi, ms, e1, _⟩
      · rw [h] at e1
        cases e1
        exact e2
      · rw [h] at e1
        cases e1
    have e1 := g i h
    have e2 := g i' h'
    obtain ⟨l1, v1⟩ := List.getElem?_eq_some_iff.mp e1
    obtain ⟨l2, v2⟩ := List.getElem?_eq_some_iff.mp e2
    exact (List.getElem_inj t.nd).mp (v1.trans v2.symm)
  have val : ∀ k, k < 2 ^ m → ∃ n : Nat, ns.getD k 0 = (n : Int) := fun k hk => by
    have : ns.getD k 0 ∈ ns := by
      rw [List.getD_eq_getElem?_getD, List.getElem?_eq_getElem (by omega)]
      exact List.getElem_mem _
    exact ⟨(ns.getD k 0).toNat, (Int.toNat_of_nonneg (hin _ this)).symm⟩
  constructor
  · rintro ⟨i, rfl, hn⟩
    obtain ⟨r, _⟩ := (hi i).mp (List.mem_singleton_self _)
    obtain ⟨k, h1, h2, h3⟩ := (att n).mp ⟨i, r, hn⟩
    refine ⟨⟨k, h1, h2⟩, fun k' h4 h5 => ?_⟩
    obtain ⟨n', hn'⟩ := val k' h4
    obtain ⟨p, hp1, hp2⟩ := (att n').mpr ⟨k', h4, h5, hn'⟩
    have := List.mem_singleton.mp ((hi p).mpr ⟨hp1, n', hp2⟩)
    subst this
    rw [hn] at hp2
    cases hp2
    exact hn'
  · rintro ⟨⟨k, h1, h2⟩, h3⟩
    obtain ⟨p, hp1, hp2⟩ := (att n).mpr ⟨k, h1, h2, h3 k h1 h2⟩
    have hp := (hi p).mpr ⟨hp1, n, hp2⟩
    have all : ∀ i ∈ is, i = p := fun i him => by
      obtain ⟨r, n', e⟩ := (hi i).mp him
      obtain ⟨k', h4, h5, h6⟩ := (att n').mp ⟨i, r, e⟩
      have := h3 k' h4 h5
      rw [h6] at this
      have : n' = n := by omega
      subst this
      exact uniq i p _ e hp2
    refine ⟨p, ?_, hp2⟩
    match is, nd, hp, all with
    | [x], _, hp, _ => rw [List.mem_singleton.mp hp]
    | x :: y :: r, nd, _, all =>
      exfalso
      have e1 := all x (List.mem_cons_self ..)
      have e2 := all y (List.mem_cons_of_mem _ (List.mem_cons_self ..))
      exact (List.nodup_cons.mp nd).1 (by rw [e1, ← e2]; exact List.mem_cons_self ..)
end K51

namespace K51
open PySem PySem.Spec L2 RZ DL
open PyProof.Rows hiding St
local macro_rules | `(tactic| walk_at "d1") => `(tactic| (first
  | with_reducible refine E_seq ?_ | with_reducible refine E_ifS ?_ | with_reducible refine E_ret ?_ | with_reducible refine E_retN ?_ | with_reducible refine E_asg ?_ | with_reducible refine E_drop ?_ | with_reducible refine E_next ?_ | with_reducible refine E_cont ?_ | with_reducible refine E_break ?_
  | with_reducible refine E_not ?_ | with_reducible refine E_truth ?_ | with_reducible refine E_and ?_ | with_reducible refine E_or ?_ | with_reducible refine E_test ?_ | with_reducible refine E_yes ?_ | with_reducible refine E_andV ?_ | with_reducible refine E_orV ?_ | with_reducible refine E_notV ?_ | with_reducible refine E_if ?_
  | with_reducible refine E_op ?_ | with_reducible refine E_un ?_ | with_reducible refine E_chain ?_ | with_reducible refine E_var rfl ?_ | with_reducible refine E_c ?_ | with_reducible refine E_cb ?_ | with_reducible refine E_call ?_ | with_reducible refine E_cons ?_ | with_reducible refine E_nil ?_
  | with_reducible refine E_tup ?_ | with_reducible refine E_lst ?_ | with_reducible refine E_sl ?_ | with_reducible refine E_part ?_ | with_reducible refine E_no ?_ | with_reducible refine E_ml ?_ | with_reducible refine E_bits ?_ | with_reducible refine E_rev ?_
  | with_reducible refine E_gN ?_ | with_reducible refine E_gT rfl ?_ | with_reducible refine E_gsC ?_ | with_reducible refine E_gsN ?_ | with_reducible refine E_gIx ?_ | with_reducible refine E_for ?_ | with_reducible refine E_lc ?_
  | with_reducible refine E_dget ?_ | with_reducible refine E_din ?_ | with_reducible refine E_dput ?_ | with_reducible refine E_dpop ?_ | with_reducible refine E_nget ?_ | with_reducible refine E_nin ?_ | with_reducible refine E_nput ?_
  | with_reducible refine E_aug rfl ?_ | with_reducible refine E_augIx ?_ | with_reducible refine E_iSeq ?_ | with_reducible refine E_iRg1 ?_ | with_reducible refine E_iZipT ?_
  | with_reducible refine E_I0 ?_ | with_reducible refine E_bl ?_ | with_reducible refine E_tbl ?_ | with_reducible refine E_int ?_ | with_reducible refine E_mlA (by assumption) ?_ | with_reducible refine E_ref ?_ | with_reducible refine E_slT ?_ | with_reducible refine E_lenT ?_ | with_reducible refine E_iteT ?_ | with_reducible refine E_iteF ?_ | with_reducible refine E_int1 ?_ | with_reducible refine E_int1b ?_ | with_reducible refine E_abs ?_
  | ((with_reducible refine E_I ?_ ?_); focus (first | assumption | exact Or.inl ⟨by decide, by decide⟩ | exact Or.inr ⟨by decide, by decide⟩ | exact ⟨by decide, by decide, by decide⟩ | exact ⟨by decide, by decide⟩ | exact pow_posI _ | (show (0 : Int) < _; decide) | (show (0 : Int) ≤ _; decide))) | with_reducible refine E_lenL (by assumption) ?_
  | with_reducible refine E_ixL (by assumption) ?_ | with_reducible refine E_ixT ?_ | with_reducible refine OptD.mk rfl ?_ | refine E_le rfl ?_ | with_reducible refine E_revT ?_))
local macro_rules | `(tactic| walk_at "dx") => `(tactic| (first
  | with_reducible refine E_seq ?_ | with_reducible refine E_ret ?_ | with_reducible refine E_retN ?_ | with_reducible refine E_asg ?_ | with_reducible refine E_drop ?_ | with_reducible refine E_next ?_ | with_reducible refine E_cont ?_ | with_reducible refine E_break ?_
  | with_reducible refine E_not ?_ | with_reducible refine E_truth ?_ | with_reducible refine E_and ?_ | with_reducible refine E_or ?_ | with_reducible refine E_test ?_ | with_reducible refine E_yes ?_ | with_reducible refine E_andV ?_ | with_reducible refine E_orV ?_ | with_reducible refine E_notV ?_ | with_reducible refine E_if ?_
  | with_reducible refine E_op ?_ | with_reducible refine E_un ?_ | with_reducible refine E_chain ?_ | with_reducible refine E_var rfl ?_ | with_reducible refine E_c ?_ | with_reducible refine E_cb ?_ | with_reducible refine E_call ?_ | with_reducible refine E_cons ?_ | with_reducible refine E_nil ?_
  | with_reducible refine E_tup ?_ | with_reducible refine E_lst ?_ | with_reducible refine E_sl ?_ | with_reducible refine E_part ?_ | with_reducible refine E_no ?_ | with_reducible refine E_ml ?_ | with_reducible refine E_bits ?_ | with_reducible refine E_rev ?_
  | with_reducible refine E_gN ?_ | with_reducible refine E_gT rfl ?_ | with_reducible refine E_gsC ?_ | with_reducible refine E_gsN ?_ | with_reducible refine E_gIx ?_ | with_reducible refine E_for ?_ | with_reducible refine E_lc ?_
  | with_reducible refine E_dget ?_ | with_reducible refine E_din ?_ | with_reducible refine E_dput ?_ | with_reducible refine E_dpop ?_ | with_reducible refine E_nget ?_ | with_reducible refine E_nin ?_ | with_reducible refine E_nput ?_
  | with_reducible refine E_aug rfl ?_ | with_reducible refine E_augIx ?_ | with_reducible refine E_iSeq ?_ | with_reducible refine E_iRg1 ?_ | with_reducible refine E_iZipT ?_
  | with_reducible refine E_I0 ?_ | with_reducible refine E_bl ?_ | with_reducible refine E_tbl ?_ | with_reducible refine E_int ?_ | with_reducible refine E_mlA (by assumption) ?_ | with_reducible refine E_ref ?_ | with_reducible refine E_slT ?_ | with_reducible refine E_lenT ?_ | with_reducible refine E_iteT ?_ | with_reducible refine E_iteF ?_ | with_reducible refine E_int1 ?_ | with_reducible refine E_int1b ?_ | with_reducible refine E_abs ?_
  | ((with_reducible refine E_I ?_ ?_); focus (first | assumption | exact Or.inl ⟨by decide, by decide⟩ | exact Or.inr ⟨by decide, by decide⟩ | exact ⟨by decide, by decide, by decide⟩ | exact ⟨by decide, by decide⟩ | exact pow_posI _ | (show (0 : Int) < _; decide) | (show (0 : Int) ≤ _; decide))) | with_reducible refine E_lenL (by assumption) ?_
  | with_reducible refine E_ixL (by assumption) ?_ | with_reducible refine E_ixT ?_ | with_reducible refine OptD.mk rfl ?_ | refine E_le rfl ?_ | with_reducible refine E_revT ?_))
def natsD (is : List Nat) : List D := is.map fun (i : Nat) => .int (i : Int)
def metK (ms : List Nat) : List (Key × D) := ms.map fun (j : Nat) => (Sum.inl (j : Int), D.bl true)
def spUnder : SpD := fun ds W R => ∃ (vs : List D) (T : List Nd) (Rs : List (List Int)) (m N : Nat) (fx : Addr) (kvs : List (Key × D)) (fix : Fix), ds = [.tup (T.map (ndD vs)), .ref fx] ∧ Tbl m N T Rs ∧ 0 < T.length ∧ T.length ≤ 4096 ∧ W fx = some (.dk kvs) ∧ (∀ a : Nat, valD kvs (.inl (a : Int)) = (fix a).map .bl) ∧
  ∀ is p W', is.Nodup → (∀ i, i ∈ is ↔ Rch T fix (T.length - 1) i ∧ ∃ n, T[i]? = some (Nd.leaf n)) → W p = none → Sub W W' → W' p = some (.lst (natsD is)) → R (.ref p) W'
theorem metK_val {ms : List Nat} {j : Nat} : (valD (metK ms) (.inl (j : Int))).isSome = decide (j ∈ ms) := by
  induction ms with
  | nil => rfl
  | cons k ms ih =>
    show (valD ((Sum.inl (k : Int), D.bl true) :: metK ms) _).isSome = _
    rw [valD_cons]
    by_cases h : k = j
    · subst h
      rw [if_pos rfl]
      simp
    · rw [if_neg (fun e => h (by have := Sum.inl.inj e; omega)), ih]
      simp [Ne.symm h]
theorem metK_put {ms : List Nat} {j : Nat} (h : j ∉ ms) : putD (metK ms) (.inl (j : Int)) (.bl true) = metK (ms ++ [j]) := by
  unfold putD
  rw [if_neg, metK, metK, List.map_append]
  · rfl
  · intro c
    obtain ⟨x, hx, e⟩ := List.any_eq_true.mp c
    obtain ⟨k, hk, rfl⟩ := List.mem_map.mp hx
    have := Sum.inl.inj (of_decide_eq_true e)
    exact h (by rw [show j = k by omega]; exact hk)
theorem srt_perm {ds : List D} {ps : List PyData} (h : ds.length = ps.length) : (SrtOut ds ps).Perm ds := by
  unfold SrtOut
  refine ((List.mergeSort_perm _ _).map fun x : D × PyData => x.1).trans ?_
  rw [List.map_fst_zip (by omega)]
theorem pydL_nats : ∀ is : List Nat, pydL (natsD is) = some (is.map fun (i : Nat) => PyData.int (i : Int))
  | [] => rfl
  | n :: ns => by
    show (match pyd (.int n), pydL (natsD ns) with | some p, some ps => some (p :: ps) | _, _ => none) = _
    rw [pydL_nats ns]; rfl
theorem nats_of {l : List D} {is : List Nat} (h : l.Perm (natsD is)) : ∃ ys : List Nat, l = natsD ys ∧ ys.Perm is := by
  refine ⟨l.map fun d => match d with | .int i => i.toNat | _ => 0, ?_, ?_⟩
  · rw [natsD, List.map_map]
    refine ((List.map_congr_left fun d hd => ?_).trans (List.map_id l)).symm
    obtain ⟨i, _, rfl⟩ := List.mem_map.mp (h.mem_iff.mp hd)
    show D.int (((i : Int).toNat : Nat) : Int) = .int (i : Int)
    rw [Int.toNat_natCast]
  · have := h.map fun d => match d with | .int i => i.toNat | _ => 0
    rw [natsD, List.map_map] at this
    refine this.trans ?_
    have e : ((fun d => match d with | D.int i => i.toNat | _ => 0) ∘ fun (i : Nat) => D.int (i : Int)) = id := funext fun i => Int.toNat_natCast i
    rw [e, List.map_id]
def isLeaf (T : List Nd) (d : D) : Bool := match d with
  | .int i => match T[i.toNat]? with
    | some (.leaf _) => true
    | _ => false
  | _ => false
theorem isLeaf_int {T : List Nd} (j : Nat) : isLeaf T (.int (j : Int)) = match T[j]? with
    | some (.leaf _) => true
    | _ => false := rfl
structure VU (T : List Nd) (fix : Fix) (W : Wd) (mt fr : Addr) (ms fs : List Nat) (W' : Wd) : Prop where
  sub : Sub W W'
  hm : W' mt = some (.dk (metK ms))
  hf : W' fr = some (.lst (natsD fs))
  nd : ms.Nodup
  fl : fs.length ≤ 2 * ms.length + 1
  ml : ms.length ≤ T.length
  rch : ∀ j, j ∈ ms ∨ j ∈ fs → Rch T fix (T.length - 1) j ∧ j < T.length
  root : T.length - 1 ∈ ms ∨ T.length - 1 ∈ fs
  cl : ∀ j ∈ ms, ∀ x, T[j]? = some x → ∀ k ∈ nxt fix x, k ∈ ms ∨ k ∈ fs
theorem VU.skip {T : List Nd} {fix : Fix} {W W' : Wd} {mt fr : Addr} {ms fs : List Nat} {j : Nat} (v : VU T fix W mt fr ms (fs ++ [j]) W') (hfr : W fr = none) (hj : j ∈ ms) (hne : mt ≠ fr := by assumption) : VU T fix W mt fr ms fs (wset W' fr (.lst (natsD fs))) where
  sub := Sub.set hfr v.sub
  hm := by rw [wset_ne hne]; exact v.hm
  hf := wset_same
  nd := v.nd
  fl := by have := v.fl; rw [List.length_append, List.length_singleton] at this; omega
  ml := v.ml
  rch := fun i h => v.rch i (h.imp id fun h => List.mem_append_left _ h)
  root := by
    rcases v.root with h | h
    · exact .inl h
    · rcases List.mem_append.mp h with h | h
      · exact .inr h
      · rw [List.mem_singleton.mp h]; exact .inl hj
  cl := fun i hi x hx k hk => by
    rcases v.cl i hi x hx k hk with h | h
    · exact .inl h
    · rcases List.mem_append.mp h with h | h
      · exact .inr h
      · rw [List.mem_singleton.mp h]; exact .inl hj
theorem nodup_lt : ∀ {n : Nat} {l : List Nat}, l.Nodup → (∀ x ∈ l, x < n) → l.length ≤ n
  | 0, [], _, _ => Nat.le_refl _
  | 0, x :: l, _, k => absurd (k x (List.mem_cons_self ..)) (Nat.not_lt_zero _)
  | n + 1, l, h, k => by
    have h1 := nodup_lt (n := n) (l := l.erase n) (h.erase n) fun x hx => by
      obtain ⟨h2, h3⟩ := (h.mem_erase_iff).mp hx
      have := k x h3
      omega
    rw [List.length_erase] at h1
    split at h1 <;> omega
theorem VU.lt {T : List Nd} {fix : Fix} {W W' : Wd} {mt fr : Addr} {ms fs : List Nat} {j : Nat} (v : VU T fix W mt fr ms (fs ++ [j]) W') (hj : j ∉ ms) : ms.length + 1 ≤ T.length := by
  have : (ms ++ [j]).length ≤ T.length := nodup_lt (List.nodup_append.mpr ⟨v.nd, by simp, fun a ha b hb e => by rw [List.mem_singleton.mp hb] at e; exact hj (e ▸ ha)⟩) fun x hx => by
    rcases List.mem_append.mp hx with h | h
    · exact (v.rch x (.inl h)).2
    · rw [List.mem_singleton.mp h]; exact (v.rch j (.inr (by simp))).2
  rw [List.length_append, List.length_singleton] at this
  exact this
theorem VU.step {T : List Nd} {fix : Fix} {W W' : Wd} {mt fr : Addr} {ms fs : List Nat} {j : Nat} {x : Nd} (v : VU T fix W mt fr ms (fs ++ [j]) W') (hj : j ∉ ms) (hx : T[j]? = some x) (hxT : ∀ k ∈ nxt fix x, k < T.length) :
    ∀ W2, Sub W W2 → W2 mt = some (.dk (metK (ms ++ [j]))) → W2 fr = some (.lst (natsD (fs ++ nxt fix x))) → VU T fix W mt fr (ms ++ [j]) (fs ++ nxt fix x) W2 := fun W2 w1 w2 w3 => {
  sub := w1
  hm := w2
  hf := w3
  nd := List.nodup_append.mpr ⟨v.nd, by simp, fun a ha b hb e => by rw [List.mem_singleton.mp hb] at e; exact hj (e ▸ ha)⟩
  fl := by
    have h1 := v.fl
    have h2 : (nxt fix x).length ≤ 2 := by
      unfold nxt
      split
      · simp
      · split <;> simp
    rw [List.length_append, List.length_singleton] at h1
    rw [List.length_append, List.length_append, List.length_singleton]
    omega
  ml := by rw [List.length_append, List.length_singleton]; exact v.lt hj
  rch := by
    obtain ⟨hrj, _⟩ := v.rch j (.inr (by simp))
    rintro i (h | h)
    · rcases List.mem_append.mp h with h | h
      · exact v.rch i (.inl h)
      · rw [List.mem_singleton.mp h]; exact v.rch j (.inr (by simp))
    · rcases List.mem_append.mp h with h | h
      · exact v.rch i (.inr (by simp [h]))
      · exact ⟨hrj.tail hx h, hxT i h⟩
  root := by
    rcases v.root with h | h
    · exact .inl (by simp [h])
    · rcases List.mem_append.mp h with h | h
      · exact .inr (by simp [h])
      · rw [List.mem_singleton.mp h]; exact .inl (by simp)
  cl := fun i hi y hy k hk => by
    rcases List.mem_append.mp hi with h | h
    · rcases v.cl i h y hy k hk with h | h
      · exact .inl (by simp [h])
      · rcases List.mem_append.mp h with h | h
        · exact .inr (by simp [h])
        · rw [List.mem_singleton.mp h]; exact .inl (by simp)
    · rw [List.mem_singleton.mp h, hx] at hy
      cases hy
      exact .inr (by simp [hk]) }
theorem so_leaf : SeqAt.shaped (.str (Str.ofString "leaf")) = true := by decide +kernel
theorem int_leaf (a : Int) (s : Str) : (!PyData.eqv (.int a) (.str s)) = true := by
  simp only [PyData.eqv, Bool.not_false]
theorem leaf_eq : (!PyData.eqv (.str (Str.ofString "leaf")) (.str (Str.ofString "leaf"))) = false := by
  simp only [PyData.eqv, beq_self_eq_true, Bool.not_true]
section
variable {P : Program} {w : World} {K : Frag} {mg : Str → Option Value} {base : Heap}
abbrev st_values_under : Stmt := topS 1
abbrev N_values_under : List Str := ["table", "fixed", "met", "fresh", "place", "node"]
theorem sc_values_under : FnScope N_values_under ["table", "fixed"] (defScope st_values_under) := ⟨rfl, rfl, rfl, by decide +kernel, rfl, by decide +kernel, by decide +kernel⟩
theorem start_values_under (x0 x1 : D) : startD N_values_under [x0, x1] = [some x0, some x1, none, none, none, none] := rfl
theorem ok_under {f : Addr} {fd : FuncData} (F : Fun K "values_under" "values_under" st_values_under f fd) (g : mg "values_under" = some (.ref f)) (b : Binds K fd ["table", "fixed"] []) (B : Bi mg) : Fn P w K mg base 1 "values_under" spUnder := by
  refine fn_mk F sc_values_under g b (fun ds W R h => by obtain ⟨a, _, _, _, _, _, _, _, rfl, _⟩ := h; rfl) fun cdv A outer s H E hr => ⟨_, 
      (s_cons (s_set (i := 2) sc_values_under.nd rfl (by first | exact .inl rfl | exact .inr rfl) d_newK)
      (s_cons (s_set (i := 3) sc_values_under.nd rfl (by first | exact .inl rfl | exact .inr rfl) (d_lst (da_cons (d_sub (d_len B.len (da_cons (d_var 0) da_nil)) d_int) da_nil)))
      (s_cons (s_while PassesOwn.never (d_truth (d_var 3)) (s_cons (s_set (i := 4) sc_values_under.nd rfl (by first | exact .inl rfl | exact .inr rfl) (d_pop (d_var 3)))
      (s_cons (s_if (d_dinT (hr.u 1) (d_var 4) (d_var 2)) (s_one s_continue) s_nil)
      (s_cons (s_dput (hr.u 1) (d_var 2) (d_var 4) d_bl)
      (s_cons (s_set (i := 5) sc_values_under.nd rfl (by first | exact .inl rfl | exact .inr rfl) (d_ix (d_var 0) (d_var 4)))
      (s_one (s_if (d_cmpT (op_neD (hr.u 64)) od_ne (d_ix (d_var 5) d_int) d_str (nomark _)) (s_one (s_if (d_dinT (hr.u 1) (d_ix (d_var 5) d_int) (d_var 1)) (s_one (s_expr (d_append (d_var 3) (da_cons (d_if (d_truth (d_dget (hr.u 1) (d_var 1) (d_ix (d_var 5) d_int))) (d_ix (d_var 5) d_int) (d_ix (d_var 5) d_int)) da_nil)))) (s_one (s_expr (d_extend (d_var 3) (da_cons (d_lst (da_cons (d_ix (d_var 5) d_int) (da_cons (d_ix (d_var 5) d_int) da_nil))) da_nil)))))) s_nil)))))))
      (s_one (s_ret (d_lc rfl sc_values_under.nd (i_seq (d_sorted rfl (hr.u 70) B.sorted (by decide +kernel) (da_cons (d_var 2) da_nil))) (blkOk_by (own := [("place", 4)]) (N := N_values_under) (sc := defScope st_values_under) (by decide +kernel)) (fun _ _ _ _ _ => (g_name (i := 4) sc_values_under.nd rfl (by first | exact .inl rfl | exact .inr rfl) (fun _ h => by cases h; decide))) (fun _ _ _ _ _ => (ts_one (d_cmpT (op_eqD (hr.u 64)) od_eq (d_ix (d_ix (d_var 0) (d_var 4)) d_int) d_str (nomark _)))) (fun _ _ _ _ _ => (d_var 4)))))))), fun ds W R h => ?_⟩
  obtain ⟨vs, T, Rs, m, N, fx, kvs, fix, rfl, t, hT0, hT1, hfx, hval, q⟩ := h
  rw [start_values_under]
  refine E_start ?_
  repeat walk_at "d1"
  intro mt hmt
  repeat walk_at "d1"
  intro fr hfr
  have hne : mt ≠ fr := fun e => by rw [← e, wset_same] at hfr; cases hfr
  have hfrW : W fr = none := by rw [wset_ne (Ne.symm hne)] at hfr; exact hfr
  have e1 : (((T.map (ndD vs)).length : Nat) : Int) - 1 = ((T.length - 1 : Nat) : Int) := by rw [List.length_map]; omega
  rw [e1]
  repeat walk_at "d1"
  refine E_while (I := fun k ρ W' => ∃ (ms fs : List Nat) (o4 o5 : Option D), ρ = [some (.tup (T.map (ndD vs))), some (.ref fx), some (.ref mt), some (.ref fr), o4, o5] ∧ VU T fix W mt fr ms fs W' ∧ k = 3 * (T.length - ms.length) + fs.length)
    (m := 3 * T.length + 1) ⟨[], [T.length - 1], none, none, rfl, ⟨Sub.set hfrW (Sub.new hmt), by rw [wset_ne hne, wset_same]; rfl, wset_same, List.nodup_nil, by simp, by simp, ?_, .inr (List.mem_singleton_self _), (fun j h => nomatch h)⟩, by simp⟩ ?_
  · rintro j (h | h)
    · cases h
    · rw [List.mem_singleton.mp h]
      exact ⟨.refl _, by omega⟩
  rintro k ρ W' ⟨ms, fs, o4, o5, rfl, v, rfl⟩
  have hfx' := v.sub _ _ hfx
  have hfm : fx ≠ mt := fun e => by rw [e, hmt] at hfx; cases hfx
  have hff : fx ≠ fr := fun e => by rw [e, hfrW] at hfx; cases hfx
  have hml := v.ml
  repeat walk_at "d1"
  refine ⟨!fs.isEmpty, .inl ⟨_, v.hf, by rw [natsD, List.isEmpty_map]⟩, ?_⟩
  refine E_ite (fun c => ?_) (fun c => ?_)
  · obtain ⟨fs', j, rfl⟩ : ∃ fs' j, fs = fs' ++ [j] := by
      rcases List.eq_nil_or_concat fs with rfl | ⟨a, b, rfl⟩
      · cases c
      · exact ⟨a, b, by simp⟩
    obtain ⟨hrj, hjT⟩ := v.rch j (.inr (by simp))
    have v2 : wset W' fr (.lst (natsD fs')) mt = some (.dk (metK ms)) := by rw [wset_ne hne]; exact v.hm
    have hfl := v.hf
    have hmeas : (fs' ++ [j]).length = fs'.length + 1 := by simp
    repeat walk_at "d1"
    refine ⟨natsD (fs' ++ [j]), .int (j : Int), rfl, v.hf, by simp [natsD], ?_⟩
    rw [show (natsD (fs' ++ [j])).dropLast = natsD fs' by simp [natsD]]
    refine E_gN ?_
    refine E_seq ?_
    refine E_ifS ?_
    repeat walk_at "d1"
    refine ⟨mt, _, rfl, ⟨_, .inl (j : Int), v2, rfl, rfl⟩, ?_⟩
    refine E_bl ?_
    rw [show (if false = true then !(valD (metK ms) (Sum.inl (j : Int))).isSome else (valD (metK ms) (Sum.inl (j : Int))).isSome) = decide (j ∈ ms) from metK_val]
    refine E_dec (fun hj => ?_) (fun hj => ?_)
    · repeat walk_at "d1"
      refine ⟨_, ?_, ms, fs', _, _, rfl, v.skip hfrW hj, rfl⟩
      omega
    have hml2 := v.lt hj
    repeat walk_at "d1"
    refine ⟨mt, _, rfl, ⟨_, .inl (j : Int), v2, rfl, by rw [metK, List.length_map, sz_eq]; omega, rfl⟩, ?_⟩
    rw [metK_put hj]
    have w1 : Sub W (wset (wset W' fr (.lst (natsD fs'))) mt (.dk (metK (ms ++ [j])))) := Sub.set hmt (Sub.set hfrW v.sub)
    have w2 : wset (wset W' fr (.lst (natsD fs'))) mt (.dk (metK (ms ++ [j]))) mt = some (.dk (metK (ms ++ [j]))) := wset_same
    have w3 : wset (wset W' fr (.lst (natsD fs'))) mt (.dk (metK (ms ++ [j]))) fr = some (.lst (natsD fs')) := by rw [wset_ne (Ne.symm hne), wset_same]
    generalize wset (wset W' fr (.lst (natsD fs'))) mt (.dk (metK (ms ++ [j]))) = W2 at w1 w2 w3 ⊢
    obtain ⟨x, hx⟩ : ∃ x, T[j]? = some x := ⟨_, List.getElem?_eq_getElem hjT⟩
    have hat : atI (T.map (ndD vs)) (j : Int) = some (ndD vs x) := by rw [atI_n, List.getElem?_map, hx]; rfl
    have hxT : ∀ k ∈ nxt fix x, k < T.length := fun k hk => by
      rcases t.ok j (by rw [← t.len]; exact hjT) with ⟨n, _, h2, _⟩ | ⟨j', lo, hi, ns, h1, _, _, _, h5, h6, _⟩
      · rw [hx] at h2
        cases h2
        cases hk
      · rw [hx] at h1
        cases h1
        cases q : fix (m - (j' + 1)) with
        | none =>
          simp [nxt, q] at hk
          omega
        | some b => cases b <;> simp [nxt, q] at hk <;> omega
    have stp := v.step hj hx hxT
    repeat walk_at "d1"
    refine OptD.mk hat ?_
    have hmn : 3 * (T.length - (ms ++ [j]).length) + 3 ≤ 3 * (T.length - ms.length) := by
      rw [List.length_append, List.length_singleton]; omega
    cases x with
    | leaf n =>
      repeat walk_at "d1"
      refine OptD.mk rfl ?_
      repeat walk_at "d1"
      refine ⟨_, _, rfl, rfl, so_leaf, so_leaf, ?_⟩
      rw [leaf_eq]
      repeat walk_at "d1"
      refine ⟨_, ?_, ms ++ [j], fs', _, _, rfl, ?_, rfl⟩
      · omega
      · have := stp W2 w1 w2 (by rw [show nxt fix (.leaf n) = [] from rfl, List.append_nil]; exact w3)
        rw [show nxt fix (.leaf n) = [] from rfl, List.append_nil] at this
        exact this
    | node a lo hi =>
      repeat walk_at "d1"
      refine OptD.mk rfl ?_
      repeat walk_at "d1"
      refine ⟨_, _, rfl, rfl, rfl, so_leaf, ?_⟩
      rw [int_leaf]
      have hfx2 := w1 _ _ hfx
      have hlen : (natsD fs').length + 2 ≤ sizeLine := by
        have := v.fl
        rw [hmeas] at this
        rw [natsD, List.length_map, sz_eq]
        omega
      repeat walk_at "d1"
      refine OptD.mk rfl ?_
      repeat walk_at "d1"
      refine ⟨fx, _, rfl, ⟨kvs, .inl (a : Int), hfx2, rfl, rfl⟩, ?_⟩
      cases q : fix a with
      | none =>
        rw [show (if false = true then !(valD kvs (Sum.inl (a : Int))).isSome else (valD kvs (Sum.inl (a : Int))).isSome) = false by rw [hval, q]; rfl]
        repeat walk_at "d1"
        refine OptD.mk rfl ?_
        repeat walk_at "d1"
        refine OptD.mk rfl ?_
        repeat walk_at "d1"
        intro L hL
        have w4 : wset W2 L (.lst [.int (lo : Int), .int (hi : Int)]) fr = some (.lst (natsD fs')) := by rw [wset_ne (wne hL w3)]; exact w3
        have w5 : wset W2 L (.lst [.int (lo : Int), .int (hi : Int)]) mt = some (.dk (metK (ms ++ [j]))) := by rw [wset_ne (wne hL w2)]; exact w2
        repeat walk_at "d1"
        refine ⟨L, _, _, rfl, w4, wset_same, hlen, ?_⟩
        have e2 : nxt fix (.node a lo hi) = [lo, hi] := by simp [nxt, q]
        rw [e2] at stp
        refine ⟨_, ?_, ms ++ [j], fs' ++ [lo, hi], _, _, rfl, stp _ (Sub.set hfrW (w1.trans (Sub.new hL))) (by rw [wset_ne hne]; exact w5) (by rw [wset_same, natsD, natsD, List.map_append]; rfl), rfl⟩
        simp only [List.length_append, List.length_cons, List.length_nil] at hmn ⊢
        omega
      | some b =>
        rw [show (if false = true then !(valD kvs (Sum.inl (a : Int))).isSome else (valD kvs (Sum.inl (a : Int))).isSome) = true by rw [hval, q]; rfl]
        repeat walk_at "d1"
        refine OptD.mk rfl ?_
        repeat walk_at "d1"
        refine ⟨fx, .bl b, rfl, ⟨kvs, .inl (a : Int), hfx2, rfl, by rw [hval, q]; rfl⟩, ?_⟩
        repeat walk_at "d1"
        cases b with
        | true =>
          repeat walk_at "d1"
          refine OptD.mk rfl ?_
          repeat walk_at "d1"
          refine ⟨_, natsD fs', rfl, w3, by omega, ?_⟩
          have e2 : nxt fix (.node a lo hi) = [hi] := by simp [nxt, q]
          rw [e2] at stp
          refine ⟨_, ?_, ms ++ [j], fs' ++ [hi], _, _, rfl, stp _ (Sub.set hfrW w1) (by rw [wset_ne hne]; exact w2) (by rw [wset_same, natsD, natsD, List.map_append]; rfl), rfl⟩
          simp only [List.length_append, List.length_cons, List.length_nil] at hmn ⊢
          omega
        | false =>
          repeat walk_at "d1"
          refine OptD.mk rfl ?_
          repeat walk_at "d1"
          refine ⟨_, natsD fs', rfl, w3, by omega, ?_⟩
          have e2 : nxt fix (.node a lo hi) = [lo] := by simp [nxt, q]
          rw [e2] at stp
          refine ⟨_, ?_, ms ++ [j], fs' ++ [lo], _, _, rfl, stp _ (Sub.set hfrW w1) (by rw [wset_ne hne]; exact w2) (by rw [wset_same, natsD, natsD, List.map_append]; rfl), rfl⟩
          simp only [List.length_append, List.length_cons, List.length_nil] at hmn ⊢
          omega
  · obtain rfl : fs = [] := by
      cases fs with
      | nil => rfl
      | cons _ _ => cases c
    have hlen : (natsD ms).length = (ms.map fun (i : Nat) => PyData.int (i : Int)).length := by rw [natsD, List.length_map, List.length_map]
    have hin : ∀ d ∈ ms.map (fun (i : Nat) => PyData.int (i : Int)), ∃ i : Int, d = .int i := fun d hd => by
      obtain ⟨i, _, rfl⟩ := List.mem_map.mp hd
      exact ⟨_, rfl⟩
    repeat walk_at "d1"
    refine ⟨natsD ms, _, .inr (.inr ⟨mt, metK ms, rfl, v.hm, by rw [metK, List.map_map]; rfl⟩), pydL_nats ms, ?_, .inr ?_, ?_, fun r hr0 => ?_⟩
    · intro d hd d' hd'
      obtain ⟨i, rfl⟩ := hin d hd
      obtain ⟨i', rfl⟩ := hin d' hd'
      rfl
    · intro d hd
      obtain ⟨i, rfl⟩ := hin d hd
      exact ⟨(fun h => by cases h), fun xs h => by cases h⟩
    · intro d hd
      obtain ⟨i, rfl⟩ := hin d hd
      rfl
    obtain ⟨ys, hys, hperm⟩ := nats_of (srt_perm hlen)
    rw [hys]
    refine ⟨natsD ys, .inl wset_same, fun L hL => ?_⟩
    have hLr : r ≠ L := fun e => by rw [← e, wset_same] at hL; cases hL
    have hz : (natsD ys).length ≤ sizeLine := by
      rw [natsD, List.length_map, hperm.length_eq, sz_eq]
      omega
    refine comp_filter (isLeaf T) id hL hz (fun acc => .inl (by rw [wset_ne hLr, wset_same])) ?_ ?_
    · intro d hd W2 hs Q1 Q2 q1 q2
      obtain ⟨j, hj, rfl⟩ := List.mem_map.mp hd
      obtain ⟨_, hjT⟩ := v.rch j (.inl (hperm.mem_iff.mp hj))
      obtain ⟨x, hx⟩ : ∃ x, T[j]? = some x := ⟨_, List.getElem?_eq_getElem hjT⟩
      have hat : atI (T.map (ndD vs)) (j : Int) = some (ndD vs x) := by rw [atI_n, List.getElem?_map, hx]; rfl
      repeat walk_at "d1"
      refine OptD.mk hat ?_
      cases x with
      | leaf n =>
        have hl : isLeaf T (.int (j : Int)) = true := by rw [isLeaf_int, hx]
        repeat walk_at "d1"
        refine OptD.mk rfl ?_
        repeat walk_at "d1"
        refine ⟨_, _, rfl, rfl, so_leaf, so_leaf, ?_⟩
        rw [show PyData.eqv (.str (Str.ofString "leaf")) (.str (Str.ofString "leaf")) = true by simp only [PyData.eqv, beq_self_eq_true]]
        repeat walk_at "d1"
        exact q1 hl
      | node a lo hi =>
        have hl : isLeaf T (.int (j : Int)) = false := by rw [isLeaf_int, hx]
        repeat walk_at "d1"
        refine OptD.mk rfl ?_
        repeat walk_at "d1"
        refine ⟨_, _, rfl, rfl, rfl, so_leaf, ?_⟩
        rw [show PyData.eqv (.int (a : Int)) (.str (Str.ofString "leaf")) = false by simp only [PyData.eqv]]
        repeat walk_at "d1"
        exact q2 hl
    · have e3 : ((natsD ys).filter (isLeaf T)).map id = natsD (ys.filter fun j => isLeaf T (.int (j : Int))) := by
        rw [List.map_id, natsD, List.filter_map]; rfl
      rw [e3]
      have s0 : Sub W (wset W' r (.lst (natsD ys))) := v.sub.trans (Sub.new hr0)
      refine E_end (q (ys.filter fun j => isLeaf T (.int (j : Int))) L _ ((hperm.nodup_iff.mpr v.nd).filter _) (fun i => ?_) (Sub.free s0 hL) (s0.trans (Sub.new hL)) wset_same)
      rw [List.mem_filter, hperm.mem_iff]
      have hleaf : ∀ i : Nat, isLeaf T (.int (i : Int)) = true ↔ ∃ n, T[i]? = some (Nd.leaf n) := fun i => by
        rw [isLeaf_int]
        cases hx : T[i]? with
        | none => simp
        | some x => cases x <;> simp
      rw [hleaf]
      constructor
      · rintro ⟨h1, h2⟩
        exact ⟨(v.rch i (.inl h1)).1, h2⟩
      · rintro ⟨h1, h2⟩
        refine ⟨h1.inside (M := fun i => i ∈ ms) (v.root.resolve_right fun h => nomatch h) (fun i hi x hx k hk => (v.cl i hi x hx k hk).resolve_right fun h => nomatch h), h2⟩
end
end K51

namespace K51
open PySem PySem.Spec L2 RZ DL
open PyProof.Rows hiding St
local macro_rules | `(tactic| walk_at "d1") => `(tactic| (first
  | with_reducible refine E_seq ?_ | with_reducible refine E_ifS ?_ | with_reducible refine E_ret ?_ | with_reducible refine E_retN ?_ | with_reducible refine E_asg ?_ | with_reducible refine E_drop ?_ | with_reducible refine E_next ?_ | with_reducible refine E_cont ?_ | with_reducible refine E_break ?_
  | with_reducible refine E_not ?_ | with_reducible refine E_truth ?_ | with_reducible refine E_and ?_ | with_reducible refine E_or ?_ | with_reducible refine E_test ?_ | with_reducible refine E_yes ?_ | with_reducible refine E_andV ?_ | with_reducible refine E_orV ?_ | with_reducible refine E_notV ?_ | with_reducible refine E_if ?_
  | with_reducible refine E_op ?_ | with_reducible refine E_un ?_ | with_reducible refine E_chain ?_ | with_reducible refine E_var rfl ?_ | with_reducible refine E_c ?_ | with_reducible refine E_cb ?_ | with_reducible refine E_call ?_ | with_reducible refine E_cons ?_ | with_reducible refine E_nil ?_
  | with_reducible refine E_tup ?_ | with_reducible refine E_lst ?_ | with_reducible refine E_sl ?_ | with_reducible refine E_part ?_ | with_reducible refine E_no ?_ | with_reducible refine E_ml ?_ | with_reducible refine E_bits ?_ | with_reducible refine E_rev ?_
  | with_reducible refine E_gN ?_ | with_reducible refine E_gT rfl ?_ | with_reducible refine E_gsC ?_ | with_reducible refine E_gsN ?_ | with_reducible refine E_gIx ?_ | with_reducible refine E_for ?_ | with_reducible refine E_lc ?_
  | with_reducible refine E_dget ?_ | with_reducible refine E_din ?_ | with_reducible refine E_dput ?_ | with_reducible refine E_dpop ?_ | with_reducible refine E_nget ?_ | with_reducible refine E_nin ?_ | with_reducible refine E_nput ?_
  | with_reducible refine E_aug rfl ?_ | with_reducible refine E_augIx ?_ | with_reducible refine E_iSeq ?_ | with_reducible refine E_iRg1 ?_ | with_reducible refine E_iZipT ?_
  | with_reducible refine E_I0 ?_ | with_reducible refine E_bl ?_ | with_reducible refine E_tbl ?_ | with_reducible refine E_int ?_ | with_reducible refine E_mlA (by assumption) ?_ | with_reducible refine E_ref ?_ | with_reducible refine E_slT ?_ | with_reducible refine E_lenT ?_ | with_reducible refine E_iteT ?_ | with_reducible refine E_iteF ?_ | with_reducible refine E_int1 ?_ | with_reducible refine E_int1b ?_ | with_reducible refine E_abs ?_
  | ((with_reducible refine E_I ?_ ?_); focus (first | assumption | exact Or.inl ⟨by decide, by decide⟩ | exact Or.inr ⟨by decide, by decide⟩ | exact ⟨by decide, by decide, by decide⟩ | exact ⟨by decide, by decide⟩ | exact pow_posI _ | (show (0 : Int) < _; decide) | (show (0 : Int) ≤ _; decide))) | with_reducible refine E_lenL (by assumption) ?_
  | with_reducible refine E_ixL (by assumption) ?_ | with_reducible refine E_ixT ?_ | with_reducible refine OptD.mk rfl ?_ | refine E_le rfl ?_ | with_reducible refine E_revT ?_))
local macro_rules | `(tactic| walk_at "dx") => `(tactic| (first
  | with_reducible refine E_seq ?_ | with_reducible refine E_ret ?_ | with_reducible refine E_retN ?_ | with_reducible refine E_asg ?_ | with_reducible refine E_drop ?_ | with_reducible refine E_next ?_ | with_reducible refine E_cont ?_ | with_reducible refine E_break ?_
  | with_reducible refine E_not ?_ | with_reducible refine E_truth ?_ | with_reducible refine E_and ?_ | with_reducible refine E_or ?_ | with_reducible refine E_test ?_ | with_reducible refine E_yes ?_ | with_reducible refine E_andV ?_ | with_reducible refine E_orV ?_ | with_reducible refine E_notV ?_ | with_reducible refine E_if ?_
  | with_reducible refine E_op ?_ | with_reducible refine E_un ?_ | with_reducible refine E_chain ?_ | with_reducible refine E_var rfl ?_ | with_reducible refine E_c ?_ | with_reducible refine E_cb ?_ | with_reducible refine E_call ?_ | with_reducible refine E_cons ?_ | with_reducible refine E_nil ?_
  | with_reducible refine E_tup ?_ | with_reducible refine E_lst ?_ | with_reducible refine E_sl ?_ | with_reducible refine E_part ?_ | with_reducible refine E_no ?_ | with_reducible refine E_ml ?_ | with_reducible refine E_bits ?_ | with_reducible refine E_rev ?_
  | with_reducible refine E_gN ?_ | with_reducible refine E_gT rfl ?_ | with_reducible refine E_gsC ?_ | with_reducible refine E_gsN ?_ | with_reducible refine E_gIx ?_ | with_reducible refine E_for ?_ | with_reducible refine E_lc ?_
  | with_reducible refine E_dget ?_ | with_reducible refine E_din ?_ | with_reducible refine E_dput ?_ | with_reducible refine E_dpop ?_ | with_reducible refine E_nget ?_ | with_reducible refine E_nin ?_ | with_reducible refine E_nput ?_
  | with_reducible refine E_aug rfl ?_ | with_reducible refine E_augIx ?_ | with_reducible refine E_iSeq ?_ | with_reducible refine E_iRg1 ?_ | with_reducible refine E_iZipT ?_
  | with_reducible refine E_I0 ?_ | with_reducible refine E_bl ?_ | with_reducible refine E_tbl ?_ | with_reducible refine E_int ?_ | with_reducible refine E_mlA (by assumption) ?_ | with_reducible refine E_ref ?_ | with_reducible refine E_slT ?_ | with_reducible refine E_lenT ?_ | with_reducible refine E_iteT ?_ | with_reducible refine E_iteF ?_ | with_reducible refine E_int1 ?_ | with_reducible refine E_int1b ?_ | with_reducible refine E_abs ?_
  | ((with_reducible refine E_I ?_ ?_); focus (first | assumption | exact Or.inl ⟨by decide, by decide⟩ | exact Or.inr ⟨by decide, by decide⟩ | exact ⟨by decide, by decide, by decide⟩ | exact ⟨by decide, by decide⟩ | exact pow_posI _ | (show (0 : Int) < _; decide) | (show (0 : Int) ≤ _; decide))) | with_reducible refine E_lenL (by assumption) ?_
  | with_reducible refine E_ixL (by assumption) ?_ | with_reducible refine E_ixT ?_ | with_reducible refine OptD.mk rfl ?_ | refine E_le rfl ?_ | with_reducible refine E_revT ?_))
def isReason (ds : List D) : Bool := match toPairs ds with
  | some ps => rising (ps.map fun p => (p.1 : Int))
  | none => false
def spIsReason : SpD := fun ds W R => ∃ xs, ds = [.tup xs] ∧ (pydL xs).isSome ∧ xs.length ≤ 1000 ∧ R (.bl (isReason xs)) W
def riseB (ps : List (Nat × Bool)) : List Bool := List.zipWith (fun p q => decide ((p.1 : Int) < (q.1 : Int))) ps (ps.drop 1)
theorem riseB_all : ∀ ps, (riseB ps).all id = rising (ps.map fun p => (p.1 : Int))
  | [] => rfl
  | [p] => rfl
  | p :: q :: r => by
    have h := riseB_all (q :: r)
    show (decide ((p.1 : Int) < (q.1 : Int)) && (riseB (q :: r)).all id) = _
    rw [h]; rfl
theorem isReason_D (ps : List (Nat × Bool)) : isReason (pairsD ps) = rising (ps.map fun p => (p.1 : Int)) := by
  unfold isReason
  rw [toPairs_D]
def lessD (d : D) : D := match d with
  | .tup [.tup [.int a, .bl _], .tup [.int c, .bl _]] => .bl (decide (a < c))
  | _ => .non
theorem zip_less : ∀ (ps qs : List (Nat × Bool)), (zipD (pairsD ps) (pairsD qs)).map lessD = (List.zipWith (fun p q => decide ((p.1 : Int) < (q.1 : Int))) ps qs).map .bl
  | [], _ => rfl
  | _ :: _, [] => rfl
  | p :: ps, q :: qs => by
    show lessD (.tup [pairD p, pairD q]) :: (zipD (pairsD ps) (pairsD qs)).map lessD = _ :: (List.zipWith _ ps qs).map .bl
    rw [zip_less ps qs]; rfl
theorem zip_mem {xs ys : List D} {z : D} (h : z ∈ zipD xs ys) : ∃ x ∈ xs, ∃ y ∈ ys, z = .tup [x, y] := by
  unfold zipD at h
  rw [← List.map_uncurry_zip_eq_zipWith] at h
  obtain ⟨⟨x, y⟩, h1, rfl⟩ := List.mem_map.mp h
  have := List.of_mem_zip h1
  exact ⟨x, this.1, y, this.2, rfl⟩
theorem pairsD_drop (ps : List (Nat × Bool)) (n : Nat) : (pairsD ps).drop n = pairsD (ps.drop n) := List.map_drop.symm
section
variable {P : Program} {w : World} {K : Frag} {mg : Str → Option Value} {base : Heap}
abbrev st_is_reason : Stmt := topS 2
abbrev N_is_reason : List Str := ["thing", "pair", "one", "other"]
theorem sc_is_reason : FnScope N_is_reason ["thing"] (defScope st_is_reason) := ⟨rfl, rfl, rfl, by decide +kernel, rfl, by decide +kernel, by decide +kernel⟩
theorem start_is_reason (x0 : D) : startD N_is_reason [x0] = [some x0, none, none, none] := rfl
theorem ok_is_reason {f : Addr} {fd : FuncData} (F : Fun K "is_reason" "is_reason" st_is_reason f fd) (g : mg "is_reason" = some (.ref f)) (b : Binds K fd ["thing"] []) (B : Bi mg) : Fn P w K mg base 1 "is_reason" spIsReason := by
  refine fn_mk F sc_is_reason g b (fun ds W R h => by obtain ⟨a, rfl, _⟩ := h; rfl) fun cdv A outer s H E hr => ⟨_, 
      (s_cons (s_if (d_not (d_truth (d_isi B.isi (by decide +kernel) (da_cons (d_var 0) (da_cons (d_ty (T := "tuple") B.tuple (by decide +kernel)) da_nil))))) (s_one (s_ret d_bl)) s_nil)
      (s_cons (s_for PassesOwn.never rfl (i_seq (d_var 0)) (g_name (i := 1) sc_is_reason.nd rfl (by first | exact .inl rfl | exact .inr rfl) (fun _ h => nomatch h)) (s_cons (s_if (PW.pt (w_or (d_not (d_truth (d_isi B.isi (by decide +kernel) (da_cons (d_var 1) (da_cons (d_ty (T := "tuple") B.tuple (by decide +kernel)) da_nil))))) (w_or (d_cmpT (op_neD (hr.u 64)) od_ne (d_len B.len (da_cons (d_var 1) da_nil)) d_int (nomark _)) (w_or1 (d_not (d_truth (d_isi B.isi (by decide +kernel) (da_cons (d_ix (d_var 1) d_int) (da_cons (d_ty (T := "bool") B.bool (by decide +kernel)) da_nil))))))))) (s_one (s_ret d_bl)) s_nil)
      (s_one (s_if (PW.pt (w_or (d_not (d_truth (d_isi B.isi (by decide +kernel) (da_cons (d_ix (d_var 1) d_int) (da_cons (d_ty (T := "int") B.int (by decide +kernel)) da_nil))))) (w_or (d_truth (d_isi B.isi (by decide +kernel) (da_cons (d_ix (d_var 1) d_int) (da_cons (d_ty (T := "bool") B.bool (by decide +kernel)) da_nil)))) (w_or1 (d_cmpT op_lt od_lt (d_ix (d_var 1) d_int) d_int (nomark _)))))) (s_one (s_ret d_bl)) s_nil))))
      (s_one (s_ret (d_callB (cr_all rfl) cd_all B.all (by decide +kernel) (da_cons (d_lc rfl sc_is_reason.nd (i_zipT B.zip (da_cons (d_var 0) (da_cons (d_slice (d_var 0) (do_some d_int) do_no) da_nil))) (blkOk_by (own := [("one", 2), ("other", 3)]) (N := N_is_reason) (sc := defScope st_is_reason) (by decide +kernel)) (fun _ _ _ _ _ => (g_tup (n := 2) rfl (gs_cons (g_name (i := 2) sc_is_reason.nd rfl (by first | exact .inl rfl | exact .inr rfl) (fun _ h => by cases h; decide)) (gs_cons (g_name (i := 3) sc_is_reason.nd rfl (by first | exact .inl rfl | exact .inr rfl) (fun _ h => by cases h; decide)) gs_nil)))) (fun _ _ _ _ _ => ts_nil) (fun _ _ _ _ _ => (d_cmp op_lt od_lt (d_ix (d_var 2) d_int) (d_ix (d_var 3) d_int) (nomark _)))) da_nil)))))), fun ds W R h => ?_⟩
  obtain ⟨xs, rfl, hp, hz, q⟩ := h
  rw [start_is_reason]
  refine E_start ?_
  repeat walk_at "d1"
  refine isi_tup (d := .tup xs) rfl ?_
  rw [show isTupD (.tup xs) = true from rfl]
  repeat walk_at "d1"
  refine E_ite (fun h => by cases h) (fun _ => ?_)
  repeat walk_at "d1"
  refine loop_ind (fun rest ρ W' => W' = W ∧ ∃ done ps o o2 o3, xs = done ++ rest ∧ toPairs done = some ps ∧ ρ = [some (.tup xs), o, o2, o3]) ?_ ?_ _ _ _ ⟨rfl, [], [], none, none, none, rfl, rfl, rfl⟩
  · rintro ρ W' ⟨rfl, done, ps, o, o2, o3, e, h1, rfl⟩
    refine ⟨trivial, ?_⟩
    rw [List.append_nil] at e
    subst e
    obtain rfl := toPairs_some h1
    rw [pairsD_len] at hz
    repeat walk_at "d1"
    have e1 : cutD (pairsD ps) (some 1) none = pairsD (ps.drop 1) := (cut_from (h := 1)).trans (pairsD_drop ps 1)
    rw [e1]
    refine ⟨_, _, rfl, fun L hL => ?_⟩
    have hzl : (zipD (pairsD ps) (pairsD (ps.drop 1))).length ≤ sizeLine := by
      rw [zipD, List.length_zipWith, pairsD_len, sz_eq]; omega
    refine comp_map lessD hL hzl (fun _ => trivial) ?_ ?_
    · intro z hz W2 hs Q2 q2
      obtain ⟨x, hx, y, hy, rfl⟩ := zip_mem hz
      obtain ⟨⟨a, t⟩, _, rfl⟩ := pairsD_mem hx
      obtain ⟨⟨a2, t2⟩, _, rfl⟩ := pairsD_mem hy
      repeat walk_at "d1"
      refine OptD.mk rfl ?_
      repeat walk_at "d1"
      refine OptD.mk rfl ?_
      repeat walk_at "d1"
      exact q2
    · repeat walk_at "d1"
      refine ⟨L, riseB ps, rfl, .inl ?_, ?_⟩
      · rw [wset_same, zip_less]; rfl
      · rw [riseB_all, ← isReason_D]
        exact ⟨_, Sub.new hL, q⟩
  · rintro x rest N' hN ρ W' ⟨rfl, done, ps, o, o2, o3, e, h1, rfl⟩
    refine ⟨trivial, ?_⟩
    have hx := pydL_mem hp (show x ∈ xs by rw [e]; simp)
    have bad : toPair x = none → R (.bl false) W' := fun hb => by
      have : isReason xs = false := by unfold isReason; rw [e, toPairs_bad h1 hb]
      rw [this] at q
      exact q
    repeat walk_at "d1"
    refine isi_tup (pyd_plain hx) ?_
    repeat walk_at "d1"
    refine E_ite (fun c => ?_) (fun c => ?_)
    · repeat walk_at "d1"
      refine E_end (bad ?_)
      cases x <;> first | rfl | cases c
    obtain ⟨ys, rfl⟩ : ∃ ys, x = .tup ys := by cases x <;> first | exact ⟨_, rfl⟩ | cases c
    have hy := pyd_tup hx
    repeat walk_at "d1"
    refine ⟨_, _, rfl, rfl, rfl, rfl, ?_⟩
    rw [len_ne]
    repeat walk_at "d1"
    refine E_dec (fun c => ?_) (fun c => ?_)
    · repeat walk_at "d1"
      refine E_end (bad ?_)
      unfold toPair
      split
      · rename_i e2
        cases e2
        exact absurd rfl c
      · rfl
    obtain ⟨u, v, rfl⟩ := len_two (Decidable.not_not.mp c)
    have hu := pyd_plain (pydL_mem hy (show u ∈ [u, v] by simp))
    have hv := pyd_plain (pydL_mem hy (show v ∈ [u, v] by simp))
    repeat walk_at "d1"
    clear c
    refine isi_bool hv ?_
    repeat walk_at "d1"
    refine E_ite (fun c => ?_) (fun c => ?_)
    · repeat walk_at "d1"
      refine E_end (bad ?_)
      clear hx hy hu e bad
      cases v <;> first | (cases u <;> rfl) | cases c
    obtain ⟨t, rfl⟩ : ∃ t, v = .bl t := by
      clear hx hy hu e bad
      cases v <;> first | exact ⟨_, rfl⟩ | cases c
    clear c
    repeat walk_at "d1"
    refine isi_int hu ?_
    repeat walk_at "d1"
    refine E_ite (fun c => ?_) (fun c => ?_)
    · repeat walk_at "d1"
      refine E_end (bad ?_)
      clear hx hy e bad
      cases u <;> first | rfl | cases c
    repeat walk_at "d1"
    refine isi_bool hu ?_
    repeat walk_at "d1"
    refine E_ite (fun c2 => ?_) (fun c2 => ?_)
    · repeat walk_at "d1"
      refine E_end (bad ?_)
      clear hx hy e bad
      cases u <;> first | rfl | cases c2
    obtain ⟨i, rfl⟩ : ∃ i, u = .int i := by
      clear hx hy e bad
      cases u <;> first | exact ⟨_, rfl⟩ | (cases c; done) | (cases c2; done)
    clear c c2
    repeat walk_at "d1"
    refine E_dec (fun c => ?_) (fun c => ?_)
    · repeat walk_at "d1"
      refine E_end (bad ?_)
      show (if 0 ≤ i then some (i.toNat, t) else none) = none
      rw [if_neg (by omega)]
    · repeat walk_at "d1"
      refine hN _ _ ⟨rfl, done ++ [.tup [.int i, .bl t]], ps ++ [(i.toNat, t)], _, _, _, by rw [e, List.append_assoc]; rfl, ?_, rfl⟩
      rw [toPairs_app h1]
      have e3 : toPair (.tup [.int i, .bl t]) = some (i.toNat, t) := by
        show (if 0 ≤ i then some (i.toNat, t) else none) = _
        rw [if_pos (by omega)]
      show (match toPair (.tup [.int i, .bl t]), toPairs [] with | some p, some ps => some (p :: ps) | _, _ => none).map _ = _
      rw [e3]; rfl
end
end K51

namespace K51
open PySem PySem.Spec L2 RZ DL
open PyProof.Rows hiding St
local macro_rules | `(tactic| walk_at "d1") => `(tactic| (first
  | with_reducible refine E_seq ?_ | with_reducible refine E_ifS ?_ | with_reducible refine E_ret ?_ | with_reducible refine E_retN ?_ | with_reducible refine E_asg ?_ | with_reducible refine E_drop ?_ | with_reducible refine E_next ?_ | with_reducible refine E_cont ?_ | with_reducible refine E_break ?_
  | with_reducible refine E_not ?_ | with_reducible refine E_truth ?_ | with_reducible refine E_and ?_ | with_reducible refine E_or ?_ | with_reducible refine E_test ?_ | with_reducible refine E_yes ?_ | with_reducible refine E_andV ?_ | with_reducible refine E_orV ?_ | with_reducible refine E_notV ?_ | with_reducible refine E_if ?_
  | with_reducible refine E_op ?_ | with_reducible refine E_un ?_ | with_reducible refine E_chain ?_ | with_reducible refine E_var rfl ?_ | with_reducible refine E_c ?_ | with_reducible refine E_cb ?_ | with_reducible refine E_call ?_ | with_reducible refine E_cons ?_ | with_reducible refine E_nil ?_
  | with_reducible refine E_tup ?_ | with_reducible refine E_lst ?_ | with_reducible refine E_sl ?_ | with_reducible refine E_part ?_ | with_reducible refine E_no ?_ | with_reducible refine E_ml ?_ | with_reducible refine E_bits ?_ | with_reducible refine E_rev ?_
  | with_reducible refine E_gN ?_ | with_reducible refine E_gT rfl ?_ | with_reducible refine E_gsC ?_ | with_reducible refine E_gsN ?_ | with_reducible refine E_gIx ?_ | with_reducible refine E_for ?_ | with_reducible refine E_lc ?_
  | with_reducible refine E_dget ?_ | with_reducible refine E_din ?_ | with_reducible refine E_dput ?_ | with_reducible refine E_dpop ?_ | with_reducible refine E_nget ?_ | with_reducible refine E_nin ?_ | with_reducible refine E_nput ?_
  | with_reducible refine E_aug rfl ?_ | with_reducible refine E_augIx ?_ | with_reducible refine E_iSeq ?_ | with_reducible refine E_iRg1 ?_ | with_reducible refine E_iZipT ?_
  | with_reducible refine E_I0 ?_ | with_reducible refine E_bl ?_ | with_reducible refine E_tbl ?_ | with_reducible refine E_int ?_ | with_reducible refine E_mlA (by assumption) ?_ | with_reducible refine E_ref ?_ | with_reducible refine E_slT ?_ | with_reducible refine E_lenT ?_ | with_reducible refine E_iteT ?_ | with_reducible refine E_iteF ?_ | with_reducible refine E_int1 ?_ | with_reducible refine E_int1b ?_ | with_reducible refine E_abs ?_
  | ((with_reducible refine E_I ?_ ?_); focus (first | assumption | exact Or.inl ⟨by decide, by decide⟩ | exact Or.inr ⟨by decide, by decide⟩ | exact ⟨by decide, by decide, by decide⟩ | exact ⟨by decide, by decide⟩ | exact pow_posI _ | (show (0 : Int) < _; decide) | (show (0 : Int) ≤ _; decide))) | with_reducible refine E_lenL (by assumption) ?_
  | with_reducible refine E_ixL (by assumption) ?_ | with_reducible refine E_ixT ?_ | with_reducible refine OptD.mk rfl ?_ | refine E_le rfl ?_ | with_reducible refine E_revT ?_))
local macro_rules | `(tactic| walk_at "dx") => `(tactic| (first
  | with_reducible refine E_seq ?_ | with_reducible refine E_ret ?_ | with_reducible refine E_retN ?_ | with_reducible refine E_asg ?_ | with_reducible refine E_drop ?_ | with_reducible refine E_next ?_ | with_reducible refine E_cont ?_ | with_reducible refine E_break ?_
  | with_reducible refine E_not ?_ | with_reducible refine E_truth ?_ | with_reducible refine E_and ?_ | with_reducible refine E_or ?_ | with_reducible refine E_test ?_ | with_reducible refine E_yes ?_ | with_reducible refine E_andV ?_ | with_reducible refine E_orV ?_ | with_reducible refine E_notV ?_ | with_reducible refine E_if ?_
  | with_reducible refine E_op ?_ | with_reducible refine E_un ?_ | with_reducible refine E_chain ?_ | with_reducible refine E_var rfl ?_ | with_reducible refine E_c ?_ | with_reducible refine E_cb ?_ | with_reducible refine E_call ?_ | with_reducible refine E_cons ?_ | with_reducible refine E_nil ?_
  | with_reducible refine E_tup ?_ | with_reducible refine E_lst ?_ | with_reducible refine E_sl ?_ | with_reducible refine E_part ?_ | with_reducible refine E_no ?_ | with_reducible refine E_ml ?_ | with_reducible refine E_bits ?_ | with_reducible refine E_rev ?_
  | with_reducible refine E_gN ?_ | with_reducible refine E_gT rfl ?_ | with_reducible refine E_gsC ?_ | with_reducible refine E_gsN ?_ | with_reducible refine E_gIx ?_ | with_reducible refine E_for ?_ | with_reducible refine E_lc ?_
  | with_reducible refine E_dget ?_ | with_reducible refine E_din ?_ | with_reducible refine E_dput ?_ | with_reducible refine E_dpop ?_ | with_reducible refine E_nget ?_ | with_reducible refine E_nin ?_ | with_reducible refine E_nput ?_
  | with_reducible refine E_aug rfl ?_ | with_reducible refine E_augIx ?_ | with_reducible refine E_iSeq ?_ | with_reducible refine E_iRg1 ?_ | with_reducible refine E_iZipT ?_
  | with_reducible refine E_I0 ?_ | with_reducible refine E_bl ?_ | with_reducible refine E_tbl ?_ | with_reducible refine E_int ?_ | with_reducible refine E_mlA (by assumption) ?_ | with_reducible refine E_ref ?_ | with_reducible refine E_slT ?_ | with_reducible refine E_lenT ?_ | with_reducible refine E_iteT ?_ | with_reducible refine E_iteF ?_ | with_reducible refine E_int1 ?_ | with_reducible refine E_int1b ?_ | with_reducible refine E_abs ?_
  | ((with_reducible refine E_I ?_ ?_); focus (first | assumption | exact Or.inl ⟨by decide, by decide⟩ | exact Or.inr ⟨by decide, by decide⟩ | exact ⟨by decide, by decide, by decide⟩ | exact ⟨by decide, by decide⟩ | exact pow_posI _ | (show (0 : Int) < _; decide) | (show (0 : Int) ≤ _; decide))) | with_reducible refine E_lenL (by assumption) ?_
  | with_reducible refine E_ixL (by assumption) ?_ | with_reducible refine E_ixT ?_ | with_reducible refine OptD.mk rfl ?_ | refine E_le rfl ?_ | with_reducible refine E_revT ?_))
def fixOf (ps : List (Nat × Bool)) : Fix := fun a => (ps.find? fun p => p.1 == a).map (·.2)
theorem natsD_len (is : List Nat) : (natsD is).length = is.length := List.length_map ..
theorem len_ne1 (n : Nat) : (!PyData.eqv (.int (n : Int)) (.int 1)) = decide (n ≠ 1) := by
  rw [eqv_one, Bool.eq_iff_iff]
  simp
theorem filterMap_pairs : ∀ ps, (pairsD ps).filterMap toPair = ps
  | [] => rfl
  | p :: ps => by
    show (pairD p :: pairsD ps).filterMap toPair = _
    rw [List.filterMap_cons_some (toPair_D p), filterMap_pairs ps]
theorem fix_mem : ∀ {ps : List (Nat × Bool)} {a : Nat} {b : Bool}, ps.Pairwise (fun p q => p.1 < q.1) → (a, b) ∈ ps → fixOf ps a = some b
  | p :: ps, a, b, h, hm => by
    obtain ⟨h1, h2⟩ := List.pairwise_cons.mp h
    unfold fixOf
    rcases List.mem_cons.mp hm with rfl | hm
    · rw [List.find?_cons_of_pos (by simp)]; rfl
    · have := h1 _ hm
      rw [List.find?_cons_of_neg (by simp only [beq_iff_eq]; omega)]
      exact fix_mem h2 hm
theorem fix_mem' : ∀ {ps : List (Nat × Bool)} {a : Nat} {b : Bool}, fixOf ps a = some b → (a, b) ∈ ps := fun {ps a b} h => by
  unfold fixOf at h
  cases q : ps.find? fun p => p.1 == a with
  | none => rw [q] at h; cases h
  | some p =>
    rw [q] at h
    have h1 := List.find?_some q
    have h2 := List.mem_of_find?_eq_some q
    have h3 : p.1 = a := by simpa using h1
    have h4 : p.2 = b := Option.some.inj h
    rw [← h3, ← h4]
    exact h2
def Judge (m : Nat) (ns : List Int) (xs : List D) (num : Nat) : Prop := ∃ ps, xs = pairsD ps ∧ rising (ps.map fun p => (p.1 : Int)) = true ∧ OneF m ns (fixOf ps) (num : Int) ∧ ∀ p ∈ ps, ¬ ∃ n, OneF m ns (fixOf (ps.filter fun q => q.1 != p.1)) n
def spJudge : SpD := fun ds W R => ∃ (vs : List D) (T : List Nd) (Rs : List (List Int)) (m : Nat) (ns : List Int) (v : D) (num : Nat) (xs : List D), ds = [.tup (T.map (ndD vs)), v, .tup xs] ∧ vs[num]? = some v ∧ Tbl m vs.length T Rs ∧ ns.length = 2 ^ m ∧ Rs[T.length - 1]? = some (shr m ns) ∧ (∀ x ∈ ns, 0 ≤ x) ∧
  0 < T.length ∧ T.length ≤ 4096 ∧ Goods vs ∧ (pydL xs).isSome ∧ xs.length ≤ 1000 ∧ ∀ t : Bool, (t = true ↔ Judge m ns xs num) → R (.bl t) W
def kvsP (ps : List (Nat × Bool)) : List (Key × D) := ps.map fun p => (Sum.inl (p.1 : Int), D.bl p.2)
theorem rising_pw : ∀ ps : List (Nat × Bool), rising (ps.map fun p => (p.1 : Int)) = true → ps.Pairwise fun p q => p.1 < q.1
  | [], _ => List.Pairwise.nil
  | [p], _ => List.pairwise_singleton ..
  | p :: q :: r, h => by
    obtain ⟨h1, h2⟩ := Bool.and_eq_true_iff.mp (show (decide ((p.1 : Int) < (q.1 : Int)) && rising ((q :: r).map fun p => (p.1 : Int))) = true from h)
    have ih := rising_pw (q :: r) h2
    have h3 : p.1 < q.1 := by have := of_decide_eq_true h1; omega
    refine List.pairwise_cons.mpr ⟨fun x hx => ?_, ih⟩
    rcases List.mem_cons.mp hx with rfl | hx
    · exact h3
    · exact Nat.lt_trans h3 ((List.pairwise_cons.mp ih).1 x hx)
theorem kvsP_val : ∀ (ps : List (Nat × Bool)) (a : Nat), valD (kvsP ps) (.inl (a : Int)) = (fixOf ps a).map .bl
  | [], a => rfl
  | p :: ps, a => by
    show valD ((Sum.inl (p.1 : Int), D.bl p.2) :: kvsP ps) _ = _
    rw [valD_cons]
    unfold fixOf
    by_cases h : p.1 = a
    · subst h
      rw [if_pos rfl, List.find?_cons_of_pos (by simp)]
      rfl
    · rw [if_neg (fun e => h (by have := Sum.inl.inj e; omega)), List.find?_cons_of_neg (by simpa using h)]
      exact kvsP_val ps a
theorem merge_new : ∀ (ps : List (Nat × Bool)) (acc : List (Nat × Bool)), (acc ++ ps).Pairwise (fun p q => p.1 < q.1) → mergeD (kvsP acc) (kvsP ps) = kvsP (acc ++ ps)
  | [], acc, _ => by rw [List.append_nil]; rfl
  | p :: ps, acc, h => by
    have e : putD (kvsP acc) (.inl (p.1 : Int)) (.bl p.2) = kvsP (acc ++ [p]) := by
      unfold putD
      rw [if_neg, kvsP, kvsP, List.map_append]
      · rfl
      · intro c
        obtain ⟨x, hx, e⟩ := List.any_eq_true.mp c
        obtain ⟨k, hk, rfl⟩ := List.mem_map.mp hx
        have h1 := Sum.inl.inj (of_decide_eq_true e)
        have h2 := (List.pairwise_append.mp h).2.2 k hk p (List.mem_cons_self ..)
        omega
    show mergeD (putD (kvsP acc) (.inl (p.1 : Int)) (.bl p.2)) (kvsP ps) = _
    rw [e, merge_new ps (acc ++ [p]) (by rw [List.append_assoc]; exact h), List.append_assoc]; rfl
theorem drop_P (ps : List (Nat × Bool)) (a : Nat) : dropD (kvsP ps) (.inl (a : Int)) = kvsP (ps.filter fun q => q.1 != a) := by
  unfold dropD kvsP
  rw [List.filter_map]
  congr 1
  refine List.filter_congr fun q _ => ?_
  show decide ((Sum.inl (q.1 : Int) : Key) ≠ .inl (a : Int)) = (q.1 != a)
  rw [Bool.eq_iff_iff]
  simp only [decide_eq_true_eq, bne_iff_ne, ne_eq, Sum.inl.injEq]
  omega
theorem one_nat {m : Nat} {ns : List Int} {fix : Fix} {n : Int} (hl : ns.length = 2 ^ m) (hin : ∀ x ∈ ns, 0 ≤ x) (h : OneF m ns fix n) : ∃ k : Nat, n = (k : Int) := by
  obtain ⟨⟨k, h1, h2⟩, h3⟩ := h
  have : n ∈ ns := by
    rw [← h3 k h1 h2, List.getD_eq_getElem?_getD, List.getElem?_eq_getElem (by omega)]
    exact List.getElem_mem _
  exact ⟨n.toNat, (Int.toNat_of_nonneg (hin n this)).symm⟩
theorem tbl_len {m N : Nat} {T : List Nd} {Rs : List (List Int)} {fix : Fix} {ns : List Int} (t : Tbl m N T Rs) (hl : ns.length = 2 ^ m) (hr : Rs[T.length - 1]? = some (shr m ns)) (hin : ∀ x ∈ ns, 0 ≤ x) {is : List Nat} (nd : is.Nodup)
    (hi : ∀ i, i ∈ is ↔ Rch T fix (T.length - 1) i ∧ ∃ n, T[i]? = some (Nd.leaf n)) : is.length = 1 ↔ ∃ n, OneF m ns fix n := by
  constructor
  · intro h
    match is, h with
    | [i], _ =>
      obtain ⟨_, n, hn⟩ := (hi i).mp (List.mem_singleton_self _)
      exact ⟨n, (tbl_one t hl hr hin nd hi n).mp ⟨i, rfl, hn⟩⟩
  · rintro ⟨n, h⟩
    obtain ⟨k, rfl⟩ := one_nat hl hin h
    obtain ⟨i, e, _⟩ := (tbl_one t hl hr hin nd hi k).mpr h
    rw [e]; rfl
theorem vs_eqv {vs : List D} (g : Goods vs) {i j : Nat} {a b : D} (hi : vs[i]? = some a) (hj : vs[j]? = some b) : ∃ p q, pyd a = some p ∧ pyd b = some q ∧ SeqAt.shaped p = true ∧ SeqAt.shaped q = true ∧ PyData.eqv p q = decide (i = j) := by
  obtain ⟨p, h1, h2⟩ := g.1 a (List.mem_of_getElem? hi)
  obtain ⟨q, h3, h4⟩ := g.1 b (List.mem_of_getElem? hj)
  refine ⟨p, q, h1, h3, h2, h4, ?_⟩
  obtain ⟨li, ei⟩ := List.getElem?_eq_some_iff.mp hi
  obtain ⟨lj, ej⟩ := List.getElem?_eq_some_iff.mp hj
  have pw := List.pairwise_iff_getElem.mp g.2
  rcases Nat.lt_trichotomy i j with c | c | c
  · obtain ⟨p', q', e1, e2, e3, _⟩ := pw i j li lj c
    rw [ei, h1] at e1
    rw [ej, h3] at e2
    cases e1
    cases e2
    rw [e3, decide_eq_false (by omega)]
  · subst c
    rw [hi] at hj
    cases hj
    rw [h1] at h3
    cases h3
    rw [decide_eq_true rfl]
    exact SeqAt.eqv_refl p (SeqAt.canLay_of_shaped h2)
  · obtain ⟨p', q', e1, e2, _, e3⟩ := pw j i lj li c
    rw [ej, h3] at e1
    rw [ei, h1] at e2
    cases e1
    cases e2
    rw [e3, decide_eq_false (by omega)]
section
variable {P : Program} {w : World} {K : Frag} {mg : Str → Option Value} {base : Heap}
abbrev st_judge_reason : Stmt := topS 3
abbrev N_judge_reason : List Str := ["table", "value", "pairs", "fixed", "leaves", "atom", "truth", "rest"]
theorem sc_judge_reason : FnScope N_judge_reason ["table", "value", "pairs"] (defScope st_judge_reason) := ⟨rfl, rfl, rfl, by decide +kernel, rfl, by decide +kernel, by decide +kernel⟩
theorem start_judge_reason (x0 x1 x2 : D) : startD N_judge_reason [x0, x1, x2] = [some x0, some x1, some x2, none, none, none, none, none] := rfl
theorem ok_judge {f : Addr} {fd : FuncData} (F : Fun K "judge_reason" "judge_reason" st_judge_reason f fd) (g : mg "judge_reason" = some (.ref f)) (b : Binds K fd ["table", "value", "pairs"] []) (B : Bi mg) (F_values_under : Fn P w K mg base 1 "values_under" spUnder) (F_is_reason : Fn P w K mg base 1 "is_reason" spIsReason) : Fn P w K mg base 2 "judge_reason" spJudge := by
  refine fn_mk F sc_judge_reason g b (fun ds W R h => by obtain ⟨a, _, _, _, _, _, _, _, rfl, _⟩ := h; rfl) fun cdv A outer s H E hr => ⟨_, 
      (s_cons (s_if (d_not (d_truth (d_call F_is_reason (hr.mono (by decide)) (da_cons (d_var 2) da_nil)))) (s_one (s_ret d_bl)) s_nil)
      (s_cons (s_set (i := 3) sc_judge_reason.nd rfl (by first | exact .inl rfl | exact .inr rfl) (d_dictT rfl B.dict (by decide +kernel) (da_cons (d_var 2) da_nil)))
      (s_cons (s_set (i := 4) sc_judge_reason.nd rfl (by first | exact .inl rfl | exact .inr rfl) (d_call F_values_under (hr.mono (by decide)) (da_cons (d_var 0) (da_cons (d_var 3) da_nil))))
      (s_cons (s_if (PW.pt (w_or (d_cmpT (op_neD (hr.u 64)) od_ne (d_len B.len (da_cons (d_var 4) da_nil)) d_int (nomark _)) (w_or1 (d_cmpT (op_neD (hr.u 64)) od_ne (d_ix (d_ix (d_var 0) (d_ix (d_var 4) d_int)) d_int) (d_var 1) (nomark _))))) (s_one (s_ret d_bl)) s_nil)
      (s_cons (s_for PassesOwn.never rfl (i_seq (d_var 2)) (g_tup (n := 2) rfl (gs_cons (g_name (i := 5) sc_judge_reason.nd rfl (by first | exact .inl rfl | exact .inr rfl) (fun _ h => nomatch h)) (gs_cons (g_name (i := 6) sc_judge_reason.nd rfl (by first | exact .inl rfl | exact .inr rfl) (fun _ h => nomatch h)) gs_nil))) (s_cons (s_set (i := 7) sc_judge_reason.nd rfl (by first | exact .inl rfl | exact .inr rfl) (d_dictT rfl B.dict (by decide +kernel) (da_cons (d_var 2) da_nil)))
      (s_cons (s_expr (d_dpop (d_var 7) (d_var 5)))
      (s_one (s_if (d_cmpT (op_eqD (hr.u 64)) od_eq (d_len B.len (da_cons (d_call F_values_under (hr.mono (by decide)) (da_cons (d_var 0) (da_cons (d_var 7) da_nil))) da_nil)) d_int (nomark _)) (s_one (s_ret d_bl)) s_nil)))))
      (s_one (s_ret d_bl))))))), fun ds W R h => ?_⟩
  obtain ⟨vs, T, Rs, m, ns, v, num, xs, rfl, hv, t, hl, hroot, hin, hT0, hT1, hg, hp, hz, q⟩ := h
  rw [start_judge_reason]
  refine E_start ?_
  repeat walk_at "d1"
  refine ⟨xs, rfl, hp, hz, ?_⟩
  repeat walk_at "d1"
  refine E_ite (fun c => ?_) (fun c => ?_)
  · repeat walk_at "d1"
    refine E_end (q false ⟨(fun h => by cases h), fun ⟨ps, e, h1, _⟩ => ?_⟩)
    subst e
    rw [isReason_D, h1] at c
    cases c
  obtain ⟨ps, rfl, hri⟩ : ∃ ps, xs = pairsD ps ∧ rising (ps.map fun p => (p.1 : Int)) = true := by
    cases e : toPairs xs with
    | none =>
      have : isReason xs = false := by unfold isReason; rw [e]
      rw [this] at c
      cases c
    | some ps =>
      obtain rfl := toPairs_some e
      rw [isReason_D] at c
      exact ⟨ps, rfl, by simpa using c⟩
  have hpw := rising_pw ps hri
  have hdict : (pairsD ps) = (kvsP ps).map fun kv => D.tup [kD kv.1, kv.2] := by
    rw [kvsP, List.map_map]; rfl
  have hmerge : mergeD [] (kvsP ps) = kvsP ps := merge_new ps [] hpw
  rw [pairsD_len] at hz
  have jud : ∀ t : Bool, (t = true ↔ OneF m ns (fixOf ps) (num : Int) ∧ ∀ p ∈ ps, ¬ ∃ n, OneF m ns (fixOf (ps.filter fun q => q.1 != p.1)) n) → R (.bl t) W := fun t h => q t (h.trans ⟨fun z => ⟨ps, rfl, hri, z⟩, fun ⟨ps', e, _, z⟩ => by
    have : toPairs (pairsD ps) = toPairs (pairsD ps') := by rw [e]
    rw [toPairs_D, toPairs_D] at this
    cases this
    exact z⟩)
  repeat walk_at "d1"
  refine ⟨kvsP ps, by rw [hdict], fun fx hfx => ?_⟩
  rw [hmerge]
  repeat walk_at "d1"
  refine ⟨vs, T, Rs, m, vs.length, fx, kvsP ps, fixOf ps, rfl, t, hT0, hT1, wset_same, kvsP_val ps, fun is p W1 nd hi hp0 hs1 h1 => ?_⟩
  have sW : Sub W W1 := (Sub.new hfx).trans hs1
  repeat walk_at "d1"
  refine ⟨_, _, rfl, rfl, rfl, rfl, ?_⟩
  rw [natsD_len, len_ne1]
  have one1 := tbl_len t hl hroot hin nd hi
  refine E_bl ?_
  refine E_dec (fun c1 => ?_) (fun c1 => ?_)
  · repeat walk_at "d1"
    refine ⟨W, sW, jud false ⟨(fun h => by cases h), fun ⟨h, _⟩ => absurd (one1.mpr ⟨_, h⟩) c1⟩⟩
  have c1 : is.length = 1 := Decidable.not_not.mp c1
  obtain ⟨i, rfl⟩ : ∃ i, is = [i] := by
    match is, c1 with
    | [i], _ => exact ⟨i, rfl⟩
  obtain ⟨_, n, hn⟩ := (hi i).mp (List.mem_singleton_self _)
  have hone := (tbl_one t hl hroot hin nd hi n).mp ⟨i, rfl, hn⟩
  have hnN : n < vs.length := by
    have hlt : i < Rs.length := by rw [← t.len]; exact (List.getElem?_eq_some_iff.mp hn).1
    rcases t.ok i hlt with ⟨n0, h2, e1, e2⟩ | ⟨j, lo, hi, ms, e1, _⟩
    · rw [hn] at e1
      cases e1
      exact h2
    · rw [hn] at e1
      cases e1
  obtain ⟨vn, hvn⟩ : ∃ vn, vs[n]? = some vn := ⟨_, List.getElem?_eq_getElem hnN⟩
  have hat : atI (T.map (ndD vs)) (i : Int) = some (.tup [.str (Str.ofString "leaf"), vn]) := by
    rw [atI_n, List.getElem?_map, hn]
    show some (D.tup [.str (Str.ofString "leaf"), vs.getD n .non]) = _
    rw [List.getD_eq_getElem?_getD, hvn]; rfl
  repeat walk_at "d1"
  refine OptD.mk hat ?_
  repeat walk_at "d1"
  obtain ⟨p1, q1, e1, e2, e3, e4, e5⟩ := vs_eqv hg hvn hv
  refine ⟨p1, q1, e1, e2, e3, e4, ?_⟩
  rw [e5, ← decide_not]
  repeat walk_at "d1"
  refine E_dec (fun c2 => ?_) (fun c2 => ?_)
  · repeat walk_at "d1"
    refine ⟨W, sW, jud false ⟨(fun h => by cases h), fun ⟨h, _⟩ => absurd ?_ c2⟩⟩
    obtain ⟨⟨k, h1, h2⟩, h3⟩ := hone
    have := h.2 k h1 h2
    rw [h3 k h1 h2] at this
    omega
  obtain rfl : n = num := Decidable.not_not.mp c2
  repeat walk_at "d1"
  refine loop_ind (fun rest ρ W' => Sub W W' ∧ ∃ done o5 o6 o7, ps = done ++ rest.filterMap toPair ∧ rest = pairsD (rest.filterMap toPair) ∧ ρ = [some (.tup (T.map (ndD vs))), some v, some (.tup (pairsD ps)), some (.ref fx), some (.ref p), o5, o6, o7] ∧ ∀ p ∈ done, ¬ ∃ n, OneF m ns (fixOf (ps.filter fun q => q.1 != p.1)) n) ?_ ?_ _ _ _
    ⟨sW, [], none, none, none, by rw [filterMap_pairs]; rfl, by rw [filterMap_pairs], rfl, fun p h => nomatch h⟩
  · rintro ρ W' ⟨hs, done, o5, o6, o7, e, _, rfl, hd⟩
    refine ⟨trivial, ?_⟩
    have e : ps = done := by simpa using e
    subst e
    repeat walk_at "d1"
    exact ⟨W, hs, jud true ⟨fun _ => ⟨hone, hd⟩, fun _ => rfl⟩⟩
  · rintro x rest N hN ρ W' ⟨hs, done, o5, o6, o7, e, e', rfl, hd⟩
    refine ⟨trivial, ?_⟩
    obtain ⟨⟨a, b⟩, rfl⟩ : ∃ p, x = pairD p := by
      have : x ∈ pairsD ((x :: rest).filterMap toPair) := by rw [← e']; exact List.mem_cons_self ..
      obtain ⟨p, _, h⟩ := pairsD_mem this
      exact ⟨p, h⟩
    rw [List.filterMap_cons_some (toPair_D _)] at e e'
    have er : rest = pairsD (rest.filterMap toPair) := (List.cons.inj e').2
    have hmem : (a, b) ∈ ps := by rw [e]; simp
    refine ⟨[.int (a : Int), .bl b], rfl, rfl, ?_⟩
    repeat walk_at "d1"
    refine ⟨kvsP ps, by rw [hdict], fun rx hrx => ?_⟩
    rw [hmerge]
    repeat walk_at "d1"
    have hval : valD (kvsP ps) (.inl (a : Int)) = some (.bl b) := by
      rw [kvsP_val, fix_mem hpw hmem]; rfl
    refine ⟨⟨_, wset_same⟩, ?_⟩
    repeat walk_at "d1"
    refine ⟨kvsP ps, .inl (a : Int), _, wset_same, rfl, hval, ?_⟩
    rw [wset_wset, drop_P]
    repeat walk_at "d1"
    refine ⟨vs, T, Rs, m, vs.length, rx, _, fixOf (ps.filter fun q => q.1 != a), rfl, t, hT0, hT1, wset_same, kvsP_val _, fun is2 p2 W2 nd2 hi2 hp2 hs2 h2 => ?_⟩
    have sW2 : Sub W W2 := (hs.trans (Sub.new hrx)).trans hs2
    have one2 := tbl_len t hl hroot hin nd2 hi2
    repeat walk_at "d1"
    refine ⟨_, _, rfl, rfl, rfl, rfl, ?_⟩
    rw [eqv_one, natsD_len]
    repeat walk_at "d1"
    refine E_ite (fun c3 => ?_) (fun c3 => ?_)
    · repeat walk_at "d1"
      refine ⟨W, sW2, jud false ⟨(fun h => by cases h), fun ⟨_, h⟩ => absurd (one2.mp (by simpa using c3)) (h _ hmem)⟩⟩
    · repeat walk_at "d1"
      refine hN _ _ ⟨sW2, done ++ [(a, b)], _, _, _, by rw [List.append_assoc]; exact e, er, rfl, fun p hp => ?_⟩
      rcases List.mem_append.mp hp with h | h
      · exact hd p h
      · rw [List.mem_singleton.mp h]
        intro h
        have := one2.mpr h
        rw [this] at c3
        cases c3
end
end K51

namespace K51
open PySem PySem.Spec L2 RZ DL
open PyProof.Rows hiding St
/-! ### the plain law: what judge_reason says is what the law's judge says -/
theorem fix_filter (a0 : Nat) : ∀ (ps : List (Nat × Bool)) (a : Nat), fixOf (ps.filter fun q => q.1 != a0) a = if a = a0 then none else fixOf ps a
  | [], a => by
    by_cases h : a = a0
    · rw [if_pos h]; rfl
    · rw [if_neg h]; rfl
  | p :: ps, a => by
    have ih := fix_filter a0 ps a
    by_cases h : p.1 = a0
    · rw [List.filter_cons_of_neg (by simp [h]), ih]
      by_cases h2 : a = a0
      · rw [if_pos h2, if_pos h2]
      · rw [if_neg h2, if_neg h2]
        unfold fixOf
        rw [List.find?_cons_of_neg (by simp only [beq_iff_eq]; omega)]
    · rw [List.filter_cons_of_pos (by simp [h])]
      unfold fixOf at ih ⊢
      by_cases h2 : p.1 = a
      · rw [List.find?_cons_of_pos (by simp [h2]), List.find?_cons_of_pos (by simp [h2]), if_neg (by omega)]
      · rw [List.find?_cons_of_neg (by simpa using h2), List.find?_cons_of_neg (by simpa using h2)]
        exact ih
theorem agree_cons {m k : Nat} {ps : List (Nat × Bool)} (hp : ps.Pairwise fun p q => p.1 < q.1) (hm : ∀ p ∈ ps, p.1 < m) : agree m k ps = true ↔ ConsJ m m (fixOf ps) k := by
  constructor
  · intro h a _ _ b e
    have := List.all_eq_true.mp h (a, b) (fix_mem' e)
    exact beq_iff_eq.mp this
  · intro h
    refine List.all_eq_true.mpr fun p hp' => beq_iff_eq.mpr (h p.1 (by omega) (hm p hp') p.2 (fix_mem hp hp'))
theorem one_fix {m : Nat} {ns : List Int} {ps : List (Nat × Bool)} {n : Int} (hp : ps.Pairwise fun p q => p.1 < q.1) (hm : ∀ p ∈ ps, p.1 < m) : One m ns ps n ↔ OneF m ns (fixOf ps) n := by
  unfold One OneF
  constructor
  · rintro ⟨⟨k, h1, h2⟩, h3⟩
    exact ⟨⟨k, h1, (agree_cons hp hm).mp h2⟩, fun k h4 h5 => h3 k h4 ((agree_cons hp hm).mpr h5)⟩
  · rintro ⟨⟨k, h1, h2⟩, h3⟩
    exact ⟨⟨k, h1, (agree_cons hp hm).mpr h2⟩, fun k h4 h5 => h3 k h4 ((agree_cons hp hm).mp h5)⟩
theorem tight_fix {m : Nat} {ns : List Int} {ps : List (Nat × Bool)} (hp : ps.Pairwise fun p q => p.1 < q.1) (hm : ∀ p ∈ ps, p.1 < m) : tight m ns ps = true ↔ ∀ p ∈ ps, ¬ ∃ n, OneF m ns (fixOf (ps.filter fun q => q.1 != p.1)) n := by
  have e : ∀ p ∈ ps, ((metL m ns (ps.filter fun q => q.1 != p.1)).length != 1) = true ↔ ¬ ∃ n, OneF m ns (fixOf (ps.filter fun q => q.1 != p.1)) n := fun p _ => by
    rw [bne_iff_ne, ne_eq, met_len]
    have : ∀ n, One m ns (ps.filter fun q => q.1 != p.1) n ↔ OneF m ns (fixOf (ps.filter fun q => q.1 != p.1)) n := fun n => one_fix (hp.sublist (List.filter_sublist ..)) fun q hq => hm q (List.mem_filter.mp hq).1
    constructor
    · rintro h ⟨n, h2⟩
      exact h ⟨n, (this n).mpr h2⟩
    · rintro h ⟨n, h2⟩
      exact h ⟨n, (this n).mp h2⟩
  unfold tight
  rw [List.all_eq_true]
  exact ⟨fun h p hp => (e p hp).mp (h p hp), fun h p hp => (e p hp).mpr (h p hp)⟩
theorem isPairs_D {m : Nat} {ps : List (Nat × Bool)} (hm : ∀ p ∈ ps, p.1 < m) (hr : rising (ps.map fun p => (p.1 : Int)) = true) : isPairs m (pairsD ps) = true := by
  unfold isPairs
  rw [toPairs_D]
  exact Bool.and_eq_true_iff.mpr ⟨List.all_eq_true.mpr fun p hp => decide_eq_true (hm p hp), hr⟩
theorem setV_yes {m : Nat} {ns : List Int} {ps : List (Nat × Bool)} {n : Int} (hm : ∀ p ∈ ps, p.1 < m) (hr : rising (ps.map fun p => (p.1 : Int)) = true) (h1 : One m ns ps n) (h2 : tight m ns ps = true) : setV m ns (pairsD ps) = n := by
  unfold setV
  rw [toPairs_D, isPairs_D hm hr]
  simp only [one_met h1, h2]
  rfl
theorem due_judge {m : Nat} {ns : List Int} {xs : List D} (num : Nat) (hl : ns.length = 2 ^ m) (hin : ∀ x ∈ ns, 0 ≤ x) : setV m ns xs = (num : Int) ↔ Judge m ns xs num := by
  constructor
  · intro h
    cases hp : isPairs m xs with
    | false =>
      rw [setV_no hp] at h
      omega
    | true =>
      obtain ⟨ps, rfl, hm, hr⟩ := toPairs_isPairs hp
      unfold setV at h
      rw [toPairs_D, hp] at h
      simp only [Bool.true_and] at h
      by_cases c : ((metL m ns ps).length == 1 && tight m ns ps) = true
      · rw [if_pos c] at h
        obtain ⟨c1, c2⟩ := Bool.and_eq_true_iff.mp c
        obtain ⟨n, h1, h2⟩ := met_one (beq_iff_eq.mp c1)
        rw [h2] at h
        have h : n = (num : Int) := h
        subst h
        have hpw := rising_pw ps hr
        exact ⟨ps, rfl, hr, (one_fix hpw hm).mp h1, (tight_fix hpw hm).mp c2⟩
      · rw [if_neg c] at h
        omega
  · rintro ⟨ps, rfl, hr, h1, h2⟩
    have hpw := rising_pw ps hr
    have hm : ∀ p ∈ ps, p.1 < m := fun p hp => Decidable.byContradiction fun c => h2 p hp ⟨(num : Int), by
      have e : ∀ k, ConsJ m m (fixOf (ps.filter fun q => q.1 != p.1)) k ↔ ConsJ m m (fixOf ps) k := fun k => by
        constructor
        · intro h a h3 h4 b e
          refine h a h3 h4 b ?_
          rw [fix_filter, if_neg (by omega)]
          exact e
        · intro h a h3 h4 b e
          rw [fix_filter, if_neg (by omega)] at e
          exact h a h3 h4 b e
      obtain ⟨⟨k, h3, h4⟩, h5⟩ := h1
      exact ⟨⟨k, h3, (e k).mpr h4⟩, fun k h6 h7 => h5 k h6 ((e k).mp h7)⟩⟩
    exact setV_yes hm hr ((one_fix hpw hm).mpr h1) ((tight_fix hpw hm).mpr h2)
theorem rising_sub : ∀ {ps : List (Nat × Bool)}, ps.Pairwise (fun p q => p.1 < q.1) → rising (ps.map fun p => (p.1 : Int)) = true
  | [], _ => rfl
  | [p], _ => rfl
  | p :: q :: r, h => by
    obtain ⟨h1, h2⟩ := List.pairwise_cons.mp h
    show (decide ((p.1 : Int) < (q.1 : Int)) && rising ((q :: r).map fun p => (p.1 : Int))) = true
    rw [rising_sub h2, Bool.and_true]
    have := h1 q (List.mem_cons_self ..)
    exact decide_eq_true (by omega)
/-- the whole valuation k -/
def wholeP (m k : Nat) : List (Nat × Bool) := (List.range m).map fun a => (a, k.testBit (m - 1 - a))
theorem wholeP_pw (m k : Nat) : (wholeP m k).Pairwise fun p q => p.1 < q.1 := by
  unfold wholeP
  rw [List.pairwise_map]
  exact List.pairwise_lt_range
theorem wholeP_lt {m k : Nat} {p : Nat × Bool} (h : p ∈ wholeP m k) : p.1 < m := by
  obtain ⟨a, ha, rfl⟩ := List.mem_map.mp h
  exact List.mem_range.mp ha
theorem wholeP_agree (m k : Nat) : agree m k (wholeP m k) = true := List.all_eq_true.mpr fun p hp => by
  obtain ⟨a, ha, rfl⟩ := List.mem_map.mp hp
  exact beq_self_eq_true _
theorem wholeP_one {m k : Nat} {ns : List Int} (hk : k < 2 ^ m) : One m ns (wholeP m k) (ns.getD k 0) := by
  refine ⟨⟨k, hk, wholeP_agree m k⟩, fun k' h1 h2 => ?_⟩
  have : k' = k := Nat.eq_of_testBit_eq fun i => by
    by_cases hi : i < m
    · have := List.all_eq_true.mp h2 (m - 1 - i, k.testBit (m - 1 - (m - 1 - i))) (List.mem_map.mpr ⟨m - 1 - i, List.mem_range.mpr (by omega), rfl⟩)
      have := beq_iff_eq.mp this
      rw [show m - 1 - (m - 1 - i) = i by omega] at this
      exact this
    · rw [Nat.testBit_lt_two_pow (Nat.lt_of_lt_of_le h1 (Nat.pow_le_pow_right (by decide) (by omega))), Nat.testBit_lt_two_pow (Nat.lt_of_lt_of_le hk (Nat.pow_le_pow_right (by decide) (by omega)))]
  rw [this]
theorem last_ok {m k : Nat} {ns : List Int} {qs : List (Nat × Bool)} (hk : k < 2 ^ m) (hs : qs.Sublist (wholeP m k)) (h1 : (metL m ns qs).length = 1) (h2 : tight m ns qs = true) : setV m ns (pairsD qs) = ns.getD k 0 := by
  obtain ⟨n, h3, _⟩ := met_one h1
  have := h3.2 k hk (agree_sub (fun p hp => hs.subset hp) (wholeP_agree m k))
  rw [this]
  exact setV_yes (fun p hp => wholeP_lt (hs.subset hp)) (rising_sub ((wholeP_pw m k).sublist hs)) h3 h2
end K51

namespace DL
open PySem PySem.Spec L2 RZ
open PyProof.Rows hiding St
section
variable {P : Program} {w : World} {K : Frag} {mg : Str → Option Value} {base : Heap} {k : Nat} {x : Str} {sp : SpD}
/-- a def's promise itself, for the end -/
theorem fn_ok {qual : Str} {st : Stmt} {f : Addr} {fd : FuncData} {N ps : List Str} (F : Fun K x qual st f fd) (S : FnScope N ps (defScope st)) (len : ∀ ds W R, sp ds W R → ds.length = ps.length)
    (body : ∀ (cdv : Value) (A : Around) (outer : List PySem.Env) (s : Shared) (H : Hp) (E : XK), Room k (A.deeper (envOfC qual (defScope st) s.heap.objs.size f cdv)) →
      ∃ t, PSs (cxOf CX0 P w K mg base N qual (defScope st) f cdv A outer s H E).nox (defBody st) (lowS K t) ∧ ∀ ds W R, sp ds W R → t (endsOf R) (startD N ds) W) : FnOk P w K mg base CX0 (k + 1) f fd ps (lowSp K sp) := by
  refine F.ok S (fun vs H Q E ⟨ds, W, R, i, r, h, _⟩ => by rw [← i.length]; exact len ds W R h) (fun cdv A outer s H vs Q E hr h => ?_)
  obtain ⟨ds, W, R, i, r, h, kk⟩ := h
  obtain ⟨t, h1, h2⟩ := body cdv A outer s H E hr
  have fin : Low K H (EndR R) Q := fun d W' v H' q t1 r1 i1 => by
    obtain ⟨W'', s2, q⟩ := q
    exact kk d W'' v H' q t1 (r1.sub s2) i1
  exact ⟨_, h1, startD N ds, W, endsOf R, ⟨sl_start N i, r⟩, h2 ds W R h, fun ρ' W' σ' H' q t1 e1 => fin .non W' .non H' q t1 e1.rf rfl, fin, fun _ _ _ _ q => q.elim, fun _ _ _ _ q => q.elim⟩
end
/-- a list of the written part, the same at every heap -/
def KCon (K : Frag) (a : Addr) (xs : List V) : Prop := ∀ H : Hp, SqL K H a xs
def iSeqK (K : Frag) (te : TED) : TID := fun ρ W S => te ρ W fun d W1 => ∃ (a : Addr) (ns : List Int), d = .ref a ∧ ((W1 a = some (.ro (ns.map .int)) ∧ S (ns.map .int) (fun W => LstAt W a (ns.map .int)) W1) ∨ (KCon K a (ns.map .int) ∧ S (ns.map .int) (fun _ => True) W1))
theorem src_kon {K : Frag} {H : Hp} {a : Addr} {ns : List Int} (h : KCon K a (ns.map .int)) : Src true K H (Itl K a) (ns.map .int) (fun _ => True) where
  go := fun i H' W hi t r _ => by
    have hx : i < (ns.map V.int).length := by rw [List.length_map] at hi ⊢; exact hi
    exact ⟨_, (ns.map V.int)[i], h H', List.getElem?_eq_getElem hx⟩
  stop := fun H' W t r _ => ⟨_, h H', by rw [List.length_map, List.length_map]; exact Nat.le_refl _⟩
  yld := fun i H' x H2 W hi t r _ y => by
    obtain ⟨rfl, y⟩ := y
    obtain ⟨d, h1, h2⟩ := (ImL.ints (K := K) (H := _) ns).get' (y _ (h _))
    exact ⟨d, h1, Tp.refl _, fun _ q => q, h2⟩
section
variable {X : Cx}
theorem i_seqK {tg e : Expr} {te : TED} (he : PE X e (lowE X.K te)) : PI X tg e (lowI X.K true (iSeqK X.K te)) := by
  refine ⟨fun pins s σ H R I h => ?_⟩
  obtain ⟨ρ, W, S, E, q, kk⟩ := h
  refine thn (he.run pins s σ H (fun x H1 => ∃ a, x = .ref a ∧ (∃ xs, SqL X.K H1 a xs) ∧ R (Itl X.K a) H1) I ⟨ρ, W, _, E, q, fun d W1 v H1 q1 t1 r1 i1 => ?_⟩) fun v s1 ⟨x, H1, I1, r1, q1⟩ => ?_
  · obtain ⟨a, ns, rfl, ⟨h1, q1⟩ | ⟨h1, q1⟩⟩ := q1
    · cases (show v = .ref a from i1)
      obtain ⟨xs, h2, m⟩ := LstAt.sq r1 (.inr h1)
      exact ⟨a, rfl, ⟨xs, h2⟩, kk _ _ W1 _ H1 q1 t1 r1 src_lst⟩
    · cases (show v = .ref a from i1)
      exact ⟨a, rfl, ⟨_, h1 H1⟩, kk _ _ W1 _ H1 q1 t1 r1 (src_kon h1)⟩
  · obtain ⟨a, rfl, ⟨xs, hq⟩, q⟩ := q1
    cases r1
    obtain ⟨its, rv, p, hz⟩ := I1.list hq
    refine wpAny_pyIter_list p.isList ?_
    refine ⟨s1.heap.objs.size, [s1.heap.objs.size], _, _, H1, rfl, I1.kept (t' := s1.toks) fun b o e => Heap.get?_push_of_some _ e, turn_list a _, ⟨_, Heap.get?_push_size _ rfl, rfl, rfl⟩, fun b hb => ?_, q⟩
    have e : b = s1.heap.objs.size := by simpa using hb
    subst e
    exact I1.fpOk (Nat.le_refl _) (I1.hok.fresh (Nat.le_refl _))
end
end DL
namespace K51
open PySem PySem.Spec L2 RZ DL
open PyProof.Rows hiding St
local macro_rules | `(tactic| walk_at "d1") => `(tactic| (first
  | with_reducible refine E_seq ?_ | with_reducible refine E_ifS ?_ | with_reducible refine E_ret ?_ | with_reducible refine E_retN ?_ | with_reducible refine E_asg ?_ | with_reducible refine E_drop ?_ | with_reducible refine E_next ?_ | with_reducible refine E_cont ?_ | with_reducible refine E_break ?_
  | with_reducible refine E_not ?_ | with_reducible refine E_truth ?_ | with_reducible refine E_and ?_ | with_reducible refine E_or ?_ | with_reducible refine E_test ?_ | with_reducible refine E_yes ?_ | with_reducible refine E_andV ?_ | with_reducible refine E_orV ?_ | with_reducible refine E_notV ?_ | with_reducible refine E_if ?_
  | with_reducible refine E_op ?_ | with_reducible refine E_un ?_ | with_reducible refine E_chain ?_ | with_reducible refine E_var rfl ?_ | with_reducible refine E_c ?_ | with_reducible refine E_cb ?_ | with_reducible refine E_call ?_ | with_reducible refine E_cons ?_ | with_reducible refine E_nil ?_
  | with_reducible refine E_tup ?_ | with_reducible refine E_lst ?_ | with_reducible refine E_sl ?_ | with_reducible refine E_part ?_ | with_reducible refine E_no ?_ | with_reducible refine E_ml ?_ | with_reducible refine E_bits ?_ | with_reducible refine E_rev ?_
  | with_reducible refine E_gN ?_ | with_reducible refine E_gT rfl ?_ | with_reducible refine E_gsC ?_ | with_reducible refine E_gsN ?_ | with_reducible refine E_gIx ?_ | with_reducible refine E_for ?_ | with_reducible refine E_lc ?_
  | with_reducible refine E_dget ?_ | with_reducible refine E_din ?_ | with_reducible refine E_dput ?_ | with_reducible refine E_dpop ?_ | with_reducible refine E_nget ?_ | with_reducible refine E_nin ?_ | with_reducible refine E_nput ?_
  | with_reducible refine E_aug rfl ?_ | with_reducible refine E_augIx ?_ | with_reducible refine E_iSeq ?_ | with_reducible refine E_iRg1 ?_ | with_reducible refine E_iZipT ?_
  | with_reducible refine E_I0 ?_ | with_reducible refine E_bl ?_ | with_reducible refine E_tbl ?_ | with_reducible refine E_int ?_ | with_reducible refine E_mlA (by assumption) ?_ | with_reducible refine E_ref ?_ | with_reducible refine E_slT ?_ | with_reducible refine E_lenT ?_ | with_reducible refine E_iteT ?_ | with_reducible refine E_iteF ?_ | with_reducible refine E_int1 ?_ | with_reducible refine E_int1b ?_ | with_reducible refine E_abs ?_
  | ((with_reducible refine E_I ?_ ?_); focus (first | assumption | exact Or.inl ⟨by decide, by decide⟩ | exact Or.inr ⟨by decide, by decide⟩ | exact ⟨by decide, by decide, by decide⟩ | exact ⟨by decide, by decide⟩ | exact pow_posI _ | (show (0 : Int) < _; decide) | (show (0 : Int) ≤ _; decide))) | with_reducible refine E_lenL (by assumption) ?_
  | with_reducible refine E_ixL (by assumption) ?_ | with_reducible refine E_ixT ?_ | with_reducible refine OptD.mk rfl ?_ | refine E_le rfl ?_ | with_reducible refine E_revT ?_))
local macro_rules | `(tactic| walk_at "dx") => `(tactic| (first
  | with_reducible refine E_seq ?_ | with_reducible refine E_ret ?_ | with_reducible refine E_retN ?_ | with_reducible refine E_asg ?_ | with_reducible refine E_drop ?_ | with_reducible refine E_next ?_ | with_reducible refine E_cont ?_ | with_reducible refine E_break ?_
  | with_reducible refine E_not ?_ | with_reducible refine E_truth ?_ | with_reducible refine E_and ?_ | with_reducible refine E_or ?_ | with_reducible refine E_test ?_ | with_reducible refine E_yes ?_ | with_reducible refine E_andV ?_ | with_reducible refine E_orV ?_ | with_reducible refine E_notV ?_ | with_reducible refine E_if ?_
  | with_reducible refine E_op ?_ | with_reducible refine E_un ?_ | with_reducible refine E_chain ?_ | with_reducible refine E_var rfl ?_ | with_reducible refine E_c ?_ | with_reducible refine E_cb ?_ | with_reducible refine E_call ?_ | with_reducible refine E_cons ?_ | with_reducible refine E_nil ?_
  | with_reducible refine E_tup ?_ | with_reducible refine E_lst ?_ | with_reducible refine E_sl ?_ | with_reducible refine E_part ?_ | with_reducible refine E_no ?_ | with_reducible refine E_ml ?_ | with_reducible refine E_bits ?_ | with_reducible refine E_rev ?_
  | with_reducible refine E_gN ?_ | with_reducible refine E_gT rfl ?_ | with_reducible refine E_gsC ?_ | with_reducible refine E_gsN ?_ | with_reducible refine E_gIx ?_ | with_reducible refine E_for ?_ | with_reducible refine E_lc ?_
  | with_reducible refine E_dget ?_ | with_reducible refine E_din ?_ | with_reducible refine E_dput ?_ | with_reducible refine E_dpop ?_ | with_reducible refine E_nget ?_ | with_reducible refine E_nin ?_ | with_reducible refine E_nput ?_
  | with_reducible refine E_aug rfl ?_ | with_reducible refine E_augIx ?_ | with_reducible refine E_iSeq ?_ | with_reducible refine E_iRg1 ?_ | with_reducible refine E_iZipT ?_
  | with_reducible refine E_I0 ?_ | with_reducible refine E_bl ?_ | with_reducible refine E_tbl ?_ | with_reducible refine E_int ?_ | with_reducible refine E_mlA (by assumption) ?_ | with_reducible refine E_ref ?_ | with_reducible refine E_slT ?_ | with_reducible refine E_lenT ?_ | with_reducible refine E_iteT ?_ | with_reducible refine E_iteF ?_ | with_reducible refine E_int1 ?_ | with_reducible refine E_int1b ?_ | with_reducible refine E_abs ?_
  | ((with_reducible refine E_I ?_ ?_); focus (first | assumption | exact Or.inl ⟨by decide, by decide⟩ | exact Or.inr ⟨by decide, by decide⟩ | exact ⟨by decide, by decide, by decide⟩ | exact ⟨by decide, by decide⟩ | exact pow_posI _ | (show (0 : Int) < _; decide) | (show (0 : Int) ≤ _; decide))) | with_reducible refine E_lenL (by assumption) ?_
  | with_reducible refine E_ixL (by assumption) ?_ | with_reducible refine E_ixT ?_ | with_reducible refine OptD.mk rfl ?_ | refine E_le rfl ?_ | with_reducible refine E_revT ?_))
def spBegin (K : Frag) : SpD := fun ds W R => ∃ (a : Addr) (ns : List Int), ds = [.ref a] ∧ (W a = some (.ro (ns.map .int)) ∨ KCon K a (ns.map .int)) ∧ ns.length ≤ 63 ∧ ∀ d W', W d = none → Draws W' d → Sub W W' → R (.ref d) W'
section
variable {P : Program} {w : World} {K : Frag} {mg : Str → Option Value} {base : Heap}
abbrev st__law_begin : Stmt := topS 5
abbrev N__law_begin : List Str := ["_law_script", "_law_cell"]
theorem sc__law_begin : FnScope N__law_begin ["_law_script"] (defScope st__law_begin) := ⟨rfl, rfl, rfl, by decide +kernel, rfl, by decide +kernel, by decide +kernel⟩
theorem start__law_begin (x0 : D) : startD N__law_begin [x0] = [some x0, none] := rfl
theorem ok_begin {f : Addr} {fd : FuncData} (F : Fun K "_law_begin" "_law_begin" st__law_begin f fd) (g : mg "_law_begin" = some (.ref f)) (b : Binds K fd ["_law_script"] []) (B : Bi mg) : Fn P w K mg base 1 "_law_begin" (spBegin K) := by
  refine fn_mk F sc__law_begin g b (fun ds W R h => by obtain ⟨a, _, rfl, _⟩ := h; rfl) fun cdv A outer s H E hr => ⟨_, 
      (s_one (s_ret (d_lst (da_cons (d_lc rfl sc__law_begin.nd (i_seqK (d_var 0)) (blkOk_by (own := [("_law_cell", 1)]) (N := N__law_begin) (sc := defScope st__law_begin) (by decide +kernel)) (fun _ _ _ _ _ => (g_name (i := 1) sc__law_begin.nd rfl (by first | exact .inl rfl | exact .inr rfl) (fun _ h => by cases h; decide))) (fun _ _ _ _ _ => ts_nil) (fun _ _ _ _ _ => (d_callTy call_int1 cd_int1 B.int (by decide +kernel) (da_cons (d_var 1) da_nil)))) (da_cons d_int (da_cons d_int (da_cons d_int (da_cons d_int da_nil)))))))), fun ds W R h => ?_⟩
  obtain ⟨a, ns, rfl, hs, hz, q⟩ := h
  rw [start__law_begin]
  refine E_start ?_
  repeat walk_at "d1"
  have main : ∀ stay : Wd → Prop, (∀ W', Sub W W' → stay W') → ∀ L, W L = none → compD (gN 1) dYes (dCB fInt1 (dCons (dVar 1) dNil)) [some (.ref a), none] L (fun W1 => dCons (dC (D.int 0)) (dCons (dC (D.int 0)) (dCons (dC (D.int 7)) (dCons (dC (D.int 3)) dNil)))
      [some (D.ref a), none] W1 fun ds W2 => (D.ref L :: ds).length ≤ sizeLine ∧ ∀ (p : Addr), W2 p = none → EndR R (D.ref p) (wset W2 p (MO.lst (D.ref L :: ds)))) stay (ns.map .int) [] (wset W L (.lst [])) := fun stay hst L hL => by
    refine comp_map id hL (by rw [List.length_map, sz_eq]; omega) (fun acc => hst _ (Sub.new hL)) ?_ ?_
    · intro x hx W' hs Q' q'
      obtain ⟨n, _, rfl⟩ := List.mem_map.mp hx
      repeat walk_at "d1"
      exact q'
    · rw [List.map_id]
      repeat walk_at "d1"
      intro p hp
      have hne : L ≠ p := fun e => by rw [← e, wset_same] at hp; cases hp
      have hpW : W p = none := by rw [wset_ne (Ne.symm hne)] at hp; exact hp
      exact E_end (q p _ hpW ⟨L, 0, 0, 7, ns, wset_same, by rw [wset_ne hne, wset_same], hne, by omega⟩ (Sub.set hpW (Sub.new hL)))
  refine ⟨.ref a, rfl, a, ns, rfl, ?_⟩
  rcases hs with h | h
  · exact .inl ⟨h, main _ fun W' s => .inr (s _ _ h)⟩
  · exact .inr ⟨h, main _ fun _ _ => trivial⟩
end
end K51

namespace K51
open PySem PySem.Spec L2 RZ DL
open PyProof.Rows hiding St
local macro_rules | `(tactic| walk_at "d1") => `(tactic| (first
  | with_reducible refine E_seq ?_ | with_reducible refine E_ifS ?_ | with_reducible refine E_ret ?_ | with_reducible refine E_retN ?_ | with_reducible refine E_asg ?_ | with_reducible refine E_drop ?_ | with_reducible refine E_next ?_ | with_reducible refine E_cont ?_ | with_reducible refine E_break ?_
  | with_reducible refine E_not ?_ | with_reducible refine E_truth ?_ | with_reducible refine E_and ?_ | with_reducible refine E_or ?_ | with_reducible refine E_test ?_ | with_reducible refine E_yes ?_ | with_reducible refine E_andV ?_ | with_reducible refine E_orV ?_ | with_reducible refine E_notV ?_ | with_reducible refine E_if ?_
  | with_reducible refine E_op ?_ | with_reducible refine E_un ?_ | with_reducible refine E_chain ?_ | with_reducible refine E_var rfl ?_ | with_reducible refine E_c ?_ | with_reducible refine E_cb ?_ | with_reducible refine E_call ?_ | with_reducible refine E_cons ?_ | with_reducible refine E_nil ?_
  | with_reducible refine E_tup ?_ | with_reducible refine E_lst ?_ | with_reducible refine E_sl ?_ | with_reducible refine E_part ?_ | with_reducible refine E_no ?_ | with_reducible refine E_ml ?_ | with_reducible refine E_bits ?_ | with_reducible refine E_rev ?_
  | with_reducible refine E_gN ?_ | with_reducible refine E_gT rfl ?_ | with_reducible refine E_gsC ?_ | with_reducible refine E_gsN ?_ | with_reducible refine E_gIx ?_ | with_reducible refine E_for ?_ | with_reducible refine E_lc ?_
  | with_reducible refine E_dget ?_ | with_reducible refine E_din ?_ | with_reducible refine E_dput ?_ | with_reducible refine E_dpop ?_ | with_reducible refine E_nget ?_ | with_reducible refine E_nin ?_ | with_reducible refine E_nput ?_
  | with_reducible refine E_aug rfl ?_ | with_reducible refine E_augIx ?_ | with_reducible refine E_iSeq ?_ | with_reducible refine E_iRg1 ?_ | with_reducible refine E_iZipT ?_
  | with_reducible refine E_I0 ?_ | with_reducible refine E_bl ?_ | with_reducible refine E_tbl ?_ | with_reducible refine E_int ?_ | with_reducible refine E_mlA (by assumption) ?_ | with_reducible refine E_ref ?_ | with_reducible refine E_slT ?_ | with_reducible refine E_lenT ?_ | with_reducible refine E_iteT ?_ | with_reducible refine E_iteF ?_ | with_reducible refine E_int1 ?_ | with_reducible refine E_int1b ?_ | with_reducible refine E_abs ?_
  | ((with_reducible refine E_I ?_ ?_); focus (first | assumption | exact Or.inl ⟨by decide, by decide⟩ | exact Or.inr ⟨by decide, by decide⟩ | exact ⟨by decide, by decide, by decide⟩ | exact ⟨by decide, by decide⟩ | exact pow_posI _ | (show (0 : Int) < _; decide) | (show (0 : Int) ≤ _; decide))) | with_reducible refine E_lenL (by assumption) ?_
  | with_reducible refine E_ixL (by assumption) ?_ | with_reducible refine E_ixT ?_ | with_reducible refine OptD.mk rfl ?_ | refine E_le rfl ?_ | with_reducible refine E_revT ?_))
local macro_rules | `(tactic| walk_at "dx") => `(tactic| (first
  | with_reducible refine E_seq ?_ | with_reducible refine E_ret ?_ | with_reducible refine E_retN ?_ | with_reducible refine E_asg ?_ | with_reducible refine E_drop ?_ | with_reducible refine E_next ?_ | with_reducible refine E_cont ?_ | with_reducible refine E_break ?_
  | with_reducible refine E_not ?_ | with_reducible refine E_truth ?_ | with_reducible refine E_and ?_ | with_reducible refine E_or ?_ | with_reducible refine E_test ?_ | with_reducible refine E_yes ?_ | with_reducible refine E_andV ?_ | with_reducible refine E_orV ?_ | with_reducible refine E_notV ?_ | with_reducible refine E_if ?_
  | with_reducible refine E_op ?_ | with_reducible refine E_un ?_ | with_reducible refine E_chain ?_ | with_reducible refine E_var rfl ?_ | with_reducible refine E_c ?_ | with_reducible refine E_cb ?_ | with_reducible refine E_call ?_ | with_reducible refine E_cons ?_ | with_reducible refine E_nil ?_
  | with_reducible refine E_tup ?_ | with_reducible refine E_lst ?_ | with_reducible refine E_sl ?_ | with_reducible refine E_part ?_ | with_reducible refine E_no ?_ | with_reducible refine E_ml ?_ | with_reducible refine E_bits ?_ | with_reducible refine E_rev ?_
  | with_reducible refine E_gN ?_ | with_reducible refine E_gT rfl ?_ | with_reducible refine E_gsC ?_ | with_reducible refine E_gsN ?_ | with_reducible refine E_gIx ?_ | with_reducible refine E_for ?_ | with_reducible refine E_lc ?_
  | with_reducible refine E_dget ?_ | with_reducible refine E_din ?_ | with_reducible refine E_dput ?_ | with_reducible refine E_dpop ?_ | with_reducible refine E_nget ?_ | with_reducible refine E_nin ?_ | with_reducible refine E_nput ?_
  | with_reducible refine E_aug rfl ?_ | with_reducible refine E_augIx ?_ | with_reducible refine E_iSeq ?_ | with_reducible refine E_iRg1 ?_ | with_reducible refine E_iZipT ?_
  | with_reducible refine E_I0 ?_ | with_reducible refine E_bl ?_ | with_reducible refine E_tbl ?_ | with_reducible refine E_int ?_ | with_reducible refine E_mlA (by assumption) ?_ | with_reducible refine E_ref ?_ | with_reducible refine E_slT ?_ | with_reducible refine E_lenT ?_ | with_reducible refine E_iteT ?_ | with_reducible refine E_iteF ?_ | with_reducible refine E_int1 ?_ | with_reducible refine E_int1b ?_ | with_reducible refine E_abs ?_
  | ((with_reducible refine E_I ?_ ?_); focus (first | assumption | exact Or.inl ⟨by decide, by decide⟩ | exact Or.inr ⟨by decide, by decide⟩ | exact ⟨by decide, by decide, by decide⟩ | exact ⟨by decide, by decide⟩ | exact pow_posI _ | (show (0 : Int) < _; decide) | (show (0 : Int) ≤ _; decide))) | with_reducible refine E_lenL (by assumption) ?_
  | with_reducible refine E_ixL (by assumption) ?_ | with_reducible refine E_ixT ?_ | with_reducible refine OptD.mk rfl ?_ | refine E_le rfl ?_ | with_reducible refine E_revT ?_))
def spLawD (K : Frag) : SpD := fun ds W R => ∃ (a : Addr) (ns : List Int), ds = [.ref a] ∧ (W a = some (.ro (ns.map .int)) ∨ KCon K a (ns.map .int)) ∧ ns.length ≤ 63 ∧ ∀ W', R (.bl true) W'
/-- a comprehension with a test, its values of a kind -/
theorem comp_all {g : TGD} {tt : TTD} {te : TED} {ρ0 : DSt} {L : Addr} {Q : Wd → Prop} {stay : Wd → Prop} {W : Wd} {items : List D} (I : Wd → Prop) (F : D → Prop) (hL : W L = none) (hz : items.length ≤ sizeLine)
    (hI : ∀ W' acc, I W' → I (wset W' L (.lst acc))) (hst : ∀ W', I W' → stay W') (h0 : I W)
    (hx : ∀ x, x ∈ items → ∀ W' acc, I W' → W' L = some (.lst acc) → ∀ (Q1 : DQ) (Q2 : Wd → Prop), (∀ y W'', F y → I W'' → W'' L = some (.lst acc) → Q1 y W'') → Q2 W' → g x ρ0 W' fun ρ2 W2 => tt ρ2 W2 fun b W3 => if b = true then te ρ2 W3 Q1 else Q2 W3)
    (q : ∀ ys W', I W' → W' L = some (.lst ys) → (∀ y ∈ ys, F y) → ys.length ≤ items.length → Q W') : compD g tt te ρ0 L Q stay items [] (wset W L (.lst [])) := by
  refine comp_ind (fun rest acc W' => I W' ∧ W' L = some (.lst acc) ∧ acc.length + rest.length ≤ items.length ∧ (∀ x ∈ rest, x ∈ items) ∧ ∀ y ∈ acc, F y) (fun acc W' h => ?_) (fun x xs acc N hN W' h => ?_) items [] _ ⟨hI _ _ h0, wset_same, by simp, fun x h => h, fun y h => nomatch h⟩
  · obtain ⟨i, l, hl, _, h⟩ := h
    exact ⟨hst _ i, q acc W' i l h (by simpa using hl)⟩
  · obtain ⟨i, l, hl, hm, h⟩ := h
    rw [List.length_cons] at hl
    refine ⟨hst _ i, hx x (hm x (List.mem_cons_self ..)) W' acc i l _ _ (fun y W'' fy iy ly => ?_) ?_⟩
    · refine ⟨ly, by omega, hN _ _ ⟨hI _ _ iy, wset_same, by rw [List.length_append, List.length_singleton]; omega, fun z hz => hm z (List.mem_cons_of_mem _ hz), fun z hz => ?_⟩⟩
      rcases List.mem_append.mp hz with hz | hz
      · exact h z hz
      · rw [List.mem_singleton.mp hz]; exact fy
    · exact hN _ _ ⟨i, l, by omega, fun z hz => hm z (List.mem_cons_of_mem _ hz), h⟩
def rhoL (sc a r v l : Addr) (T : List D) (m k : Int) (wh qs : List D) (o11 o13 o14 o15 o16 : Option D) : DSt :=
  [some (.ref sc), some (.ref a), some (.tup T), some (.ref r), some (.int m), some (.ref v), some (.ref l), some (.int k), some (.tup wh), none, some (.tup qs), o11, none, o13, o14, o15, o16]
/-- what was asked so far: a new list of things -/
def AskSt (sc a r v l : Addr) (T : List D) (m k : Int) (wh qs : List D) (W0 : Wd) (n : Nat) (ρ : DSt) (W : Wd) : Prop := ∃ (p : Addr) (F : List D),
  ρ = [some (.ref sc), some (.ref a), some (.tup T), some (.ref r), some (.int m), some (.ref v), some (.ref l), some (.int k), some (.tup wh), none, some (.tup qs), some (.ref p), none, none, none, none, none] ∧ W0 p = none ∧ DrawX a W0 W ∧ W p = some (.lst F) ∧ Things F ∧ F.length ≤ n
theorem dr_cat {sc a r v l : Addr} {T : List D} {m k : Int} {wh qs : List D} {W0 W : Wd} {p p2 : Addr} {F G : List D} {n j : Nat} {N : DSt → Wd → Prop} {o : Option D} (x : DrawX a W0 W) (hp : W p = some (.lst F)) (tF : Things F) (lF : F.length ≤ n) (hG : W p2 = some (.lst G)) (tG : Things G) (lG : G.length ≤ j) (hn : n + j ≤ 1000)
    (hN : ∀ ρ W', AskSt sc a r v l T m k wh qs W0 (n + j) ρ W' → N ρ W') : fCatL (.ref p) (.ref p2) W fun d W1 => gN 11 d [some (.ref sc), some (.ref a), some (.tup T), some (.ref r), some (.int m), some (.ref v), some (.ref l), some (.int k), some (.tup wh), none, some (.tup qs), o, none, none, none, none, none] W1 N := by
  refine ⟨p, p2, F, G, rfl, rfl, hp, hG, by rw [sz_eq]; omega, fun p3 hp3 => ?_⟩
  exact hN _ _ ⟨p3, F ++ G, rfl, x.free hp3, x.trans (DrawX.new x.d hp3), wset_same, tF.app tG, by rw [List.length_append]; omega⟩
def pairP (p : Nat × Bool) : PyData := .tuple [.int (p.1 : Int), .bool p.2]
theorem pyd_pair (p : Nat × Bool) : pyd (pairD p) = some (pairP p) := rfl
theorem pydL_pairs : ∀ ps, pydL (pairsD ps) = some (ps.map pairP)
  | [] => rfl
  | p :: ps => by
    show (match pyd (pairD p), pydL (pairsD ps) with | some p, some ps => some (p :: ps) | _, _ => none) = _
    rw [pydL_pairs ps]; rfl
theorem shaped_pair (p : Nat × Bool) : SeqAt.shaped (pairP p) = true := rfl
theorem canLay_pairs : ∀ ps : List (Nat × Bool), PyData.canLayAll0 (ps.map pairP) = true
  | [] => rfl
  | p :: ps => by
    rw [List.map_cons, PyData.canLayAll0, canLay_pairs ps]; rfl
theorem DrawX.sub {a : Addr} {W W1 W2 : Wd} (x : DrawX a W W1) (s : Sub W1 W2) : DrawX a W W2 := by
  obtain ⟨⟨sc, h1, i, f, t, ns, h2, h3, h4, h5⟩, k⟩ := x
  exact ⟨⟨sc, h1, i, f, t, ns, s _ _ h2, s _ _ h3, h4, h5⟩, fun b m hb e => s _ _ (k b m hb e)⟩
theorem thing_pairs {ps : List (Nat × Bool)} (h : ps.length ≤ 1000) : Thing (.tup (pairsD ps)) := ⟨_, rfl, ok_pairs' ps, by rw [pairsD_len]; exact h⟩
theorem ok_all : ∀ {xs : List D}, (∀ x ∈ xs, (pyd x).isSome = true) → (pydL xs).isSome = true
  | [], _ => rfl
  | x :: xs, h => by rw [ok_cons, h x (List.mem_cons_self ..), ok_all fun y hy => h y (List.mem_cons_of_mem _ hy)]; rfl
section
variable {P : Program} {w : World} {K : Frag} {mg : Str → Option Value} {base : Heap}
abbrev st_law : Stmt := topS 28
abbrev N_law : List Str := ["_law_script", "_law_d", "_law_nodes_here", "_law_row_here", "_law_many", "_law_values_here", "_law_rows", "_law_place", "_law_whole", "_law_atom", "_law_least", "_law_asked", "_law_pair", "_law_thing", "_law_due", "_law_number", "_law_told"]
theorem sc_law : FnScope N_law ["_law_script"] (defScope st_law) := ⟨rfl, rfl, rfl, by decide +kernel, rfl, by decide +kernel, by decide +kernel⟩
theorem start_law (x0 : D) : startD N_law [x0] = [some x0, none, none, none, none, none, none, none, none, none, none, none, none, none, none, none, none] := rfl
theorem ok_law {f : Addr} {fd : FuncData} (F : Fun K "law" "law" st_law f fd) (B : Bi mg) (F__law_begin : Fn P w K mg base 1 "_law_begin" (spBegin K)) (F__law_made : Fn P w K mg base 14 "_law_made" spMade) (F__law_valuations : Fn P w K mg base 1 "_law_valuations" spVal) (F__law_draw : Fn P w K mg base 1 "_law_draw" spDraw)
    (F__law_least_pairs : Fn P w K mg base 3 "_law_least_pairs" spLeast) (F__law_pairs : Fn P w K mg base 2 "_law_pairs" spPairs) (F__law_without : Fn P w K mg base 1 "_law_without" spWithout) (F__law_spoilt : Fn P w K mg base 1 "_law_spoilt" spSpoilt) (F__law_pick : Fn P w K mg base 2 "_law_pick" spPick)
    (F__law_settled : Fn P w K mg base 3 "_law_settled" spSettled) (F_judge_reason : Fn P w K mg base 2 "judge_reason" spJudge) : FnOk P w K mg base CX0 15 f fd ["_law_script"] (lowSp K (spLawD K)) := by
  refine fn_ok F sc_law (fun ds W R h => by obtain ⟨a, _, rfl, _⟩ := h; rfl) fun cdv A outer s H E hr => ⟨_, 
      (s_cons (s_set (i := 1) sc_law.nd rfl (by first | exact .inl rfl | exact .inr rfl) (d_call F__law_begin (hr.mono (by decide)) (da_cons (d_var 0) da_nil)))
      (s_cons (s_asg (d_call F__law_made (hr.mono (by decide)) (da_cons (d_var 1) da_nil)) (g_tup (n := 4) rfl (gs_cons (g_name (i := 2) sc_law.nd rfl (by first | exact .inl rfl | exact .inr rfl) (fun _ h => nomatch h)) (gs_cons (g_name (i := 3) sc_law.nd rfl (by first | exact .inl rfl | exact .inr rfl) (fun _ h => nomatch h)) (gs_cons (g_name (i := 4) sc_law.nd rfl (by first | exact .inl rfl | exact .inr rfl) (fun _ h => nomatch h)) (gs_cons (g_name (i := 5) sc_law.nd rfl (by first | exact .inl rfl | exact .inr rfl) (fun _ h => nomatch h)) gs_nil))))))
      (s_cons (s_set (i := 6) sc_law.nd rfl (by first | exact .inl rfl | exact .inr rfl) (d_call F__law_valuations (hr.mono (by decide)) (da_cons (d_var 4) da_nil)))
      (s_cons (s_set (i := 7) sc_law.nd rfl (by first | exact .inl rfl | exact .inr rfl) (d_call F__law_draw (hr.mono (by decide)) (da_cons (d_var 1) (da_cons (d_len B.len (da_cons (d_var 6) da_nil)) da_nil))))
      (s_cons (s_set (i := 8) sc_law.nd rfl (by first | exact .inl rfl | exact .inr rfl) (d_callTy call_tupleF cd_tuple B.tuple (by decide +kernel) (da_cons (d_lc rfl sc_law.nd (i_rng1 B.range (da_cons (d_var 4) da_nil)) (blkOk_by (own := [("_law_atom", 9)]) (N := N_law) (sc := defScope st_law) (by decide +kernel)) (fun _ _ _ _ _ => (g_name (i := 9) sc_law.nd rfl (by first | exact .inl rfl | exact .inr rfl) (fun _ h => by cases h; decide))) (fun _ _ _ _ _ => ts_nil) (fun _ _ _ _ _ => (d_tup (da_cons (d_var 9) (da_cons (d_ix (d_ix (d_var 6) (d_var 7)) (d_var 9)) da_nil))))) da_nil)))
      (s_cons (s_set (i := 10) sc_law.nd rfl (by first | exact .inl rfl | exact .inr rfl) (d_call F__law_least_pairs (hr.mono (by decide)) (da_cons (d_var 1) (da_cons (d_var 6) (da_cons (d_var 3) (da_cons (d_var 8) da_nil))))))
      (s_cons (s_set (i := 11) sc_law.nd rfl (by first | exact .inl rfl | exact .inr rfl) (d_lst (da_cons (d_var 10) (da_cons (d_var 8) (da_cons (d_call F__law_pairs (hr.mono (by decide)) (da_cons (d_var 1) (da_cons (d_var 4) (da_cons d_int da_nil)))) (da_cons (d_call F__law_pairs (hr.mono (by decide)) (da_cons (d_var 1) (da_cons (d_var 4) (da_cons d_int da_nil)))) (da_cons (d_tup da_nil) da_nil)))))))
      (s_cons (s_set (i := 11) sc_law.nd rfl (by first | exact .inl rfl | exact .inr rfl) (d_catL (d_var 11) (d_lc rfl sc_law.nd (i_seq (d_var 8)) (blkOk_by (own := [("_law_pair", 12)]) (N := N_law) (sc := defScope st_law) (by decide +kernel)) (fun _ _ _ _ _ => (g_name (i := 12) sc_law.nd rfl (by first | exact .inl rfl | exact .inr rfl) (fun _ h => by cases h; decide))) (fun _ _ _ _ _ => (ts_one (d_cmpT (op_notInA (hr.u 65)) od_in (d_var 12) (d_var 10) (by rfl)))) (fun _ _ _ _ _ => (d_callTy call_tupleF cd_tuple B.tuple (by decide +kernel) (da_cons (d_sorted rfl (hr.u 70) B.sorted (by decide +kernel) (da_cons (d_catT (d_var 10) (d_tup (da_cons (d_var 12) da_nil))) da_nil)) da_nil))))))
      (s_cons (s_set (i := 11) sc_law.nd rfl (by first | exact .inl rfl | exact .inr rfl) (d_catL (d_var 11) (d_lc rfl sc_law.nd (i_seq (d_var 10)) (blkOk_by (own := [("_law_pair", 12)]) (N := N_law) (sc := defScope st_law) (by decide +kernel)) (fun _ _ _ _ _ => (g_name (i := 12) sc_law.nd rfl (by first | exact .inl rfl | exact .inr rfl) (fun _ h => by cases h; decide))) (fun _ _ _ _ _ => ts_nil) (fun _ _ _ _ _ => (d_call F__law_without (hr.mono (by decide)) (da_cons (d_var 10) (da_cons (d_ix (d_var 12) d_int) da_nil)))))))
      (s_cons (s_set (i := 11) sc_law.nd rfl (by first | exact .inl rfl | exact .inr rfl) (d_catL (d_var 11) (d_lc rfl sc_law.nd (i_seq (d_var 8)) (blkOk_by (own := [("_law_pair", 12)]) (N := N_law) (sc := defScope st_law) (by decide +kernel)) (fun _ _ _ _ _ => (g_name (i := 12) sc_law.nd rfl (by first | exact .inl rfl | exact .inr rfl) (fun _ h => by cases h; decide))) (fun _ _ _ _ _ => ts_nil) (fun _ _ _ _ _ => (d_call F__law_without (hr.mono (by decide)) (da_cons (d_var 8) (da_cons (d_ix (d_var 12) d_int) da_nil)))))))
      (s_cons (s_set (i := 11) sc_law.nd rfl (by first | exact .inl rfl | exact .inr rfl) (d_catL (d_var 11) (d_call F__law_spoilt (hr.mono (by decide)) (da_cons (d_call F__law_pick (hr.mono (by decide)) (da_cons (d_var 1) (da_cons (d_lst (da_cons (d_var 10) (da_cons (d_var 10) (da_cons (d_var 8) da_nil)))) da_nil))) (da_cons (d_var 4) da_nil)))))
      (s_cons (s_for PassesOwn.never rfl (i_seq (d_catL (d_var 11) (d_lst (da_cons (d_var 10) da_nil)))) (g_name (i := 13) sc_law.nd rfl (by first | exact .inl rfl | exact .inr rfl) (fun _ h => nomatch h)) (s_cons (s_set (i := 14) sc_law.nd rfl (by first | exact .inl rfl | exact .inr rfl) (d_call F__law_settled (hr.mono (by decide)) (da_cons (d_var 6) (da_cons (d_var 3) (da_cons (d_var 4) (da_cons (d_var 13) da_nil))))))
      (s_one (s_for PassesOwn.never rfl (i_rng1 B.range (da_cons (d_len B.len (da_cons (d_var 5) da_nil)) da_nil)) (g_name (i := 15) sc_law.nd rfl (by first | exact .inl rfl | exact .inr rfl) (fun _ h => nomatch h)) (s_cons (s_set (i := 16) sc_law.nd rfl (by first | exact .inl rfl | exact .inr rfl) (d_call F_judge_reason (hr.mono (by decide)) (da_cons (d_var 2) (da_cons (d_ix (d_var 5) (d_var 15)) (da_cons (d_var 13) da_nil)))))
      (s_one (s_if (PW.pt (w_or (d_not (d_truth (d_isi B.isi (by decide +kernel) (da_cons (d_var 16) (da_cons (d_ty (T := "bool") B.bool (by decide +kernel)) da_nil))))) (w_or1 (d_cmpT (op_neD (hr.u 64)) od_ne (d_var 16) (d_cmp (op_eqD (hr.u 64)) od_eq (d_var 14) (d_var 15) (nomark _)) (nomark _))))) (s_one (s_ret d_bl)) s_nil)))))))
      (s_one (s_ret (d_cmp (op_eqD (hr.u 64)) od_eq (d_call F__law_settled (hr.mono (by decide)) (da_cons (d_var 6) (da_cons (d_var 3) (da_cons (d_var 4) (da_cons (d_var 10) da_nil))))) (d_ix (d_var 3) (d_var 7)) (nomark _)))))))))))))))), fun ds W R h => ?_⟩
  obtain ⟨sc, nums, rfl, hsc, hz, q⟩ := h
  rw [start_law]
  refine E_start ?_
  repeat walk_at "d1"
  refine ⟨sc, nums, rfl, hsc, hz, fun a W1 ha hD s1 => ?_⟩
  repeat walk_at "d1"
  refine ⟨a, rfl, hD, fun m ns vs T Rs r v W2 hm hg hv0 hv6 hl hin t hroot hT0 hT1 hr1 hv1 x2 hr2 hv2 => ?_⟩
  have hra := hD.ne hr1
  have hva := hD.ne hv1
  repeat walk_at "d1"
  refine ⟨m, rfl, by omega, fun l hl2 => ?_⟩
  have hla := x2.d.ne hl2
  have x3 := x2.trans (DrawX.new (m := .lst (rowsD m)) x2.d hl2)
  have hr3 : wset W2 l (.lst (rowsD m)) r = some (.lst (intsD ns)) := by rw [wset_ne (wne hl2 hr2)]; exact hr2
  have hv3 : wset W2 l (.lst (rowsD m)) v = some (.lst vs) := by rw [wset_ne (wne hl2 hv2)]; exact hv2
  have hl3 : wset W2 l (.lst (rowsD m)) l = some (.lst (rowsD m)) := wset_same
  generalize wset W2 l (.lst (rowsD m)) = W3 at x3 hr3 hv3 hl3 ⊢
  have h10 : 2 ^ m ≤ 128 := Nat.le_trans (Nat.pow_le_pow_right (by decide) hm) (by decide)
  have b0 : (0 : Int) < ((2 ^ m : Nat) : Int) := Int.natCast_pos.mpr (Nat.two_pow_pos m)
  have b2 : ((2 ^ m : Nat) : Int) ≤ 128 := Int.ofNat_le.mpr h10
  repeat walk_at "d1"
  rw [rowsD_len]
  refine ⟨a, _, rfl, b0, Int.lt_of_le_of_lt b2 (by decide), x3.d, fun place W4 hp0 hp1 x4 => ?_⟩
  obtain ⟨k, rfl⟩ : ∃ k : Nat, place = (k : Int) := ⟨place.toNat, (Int.toNat_of_nonneg hp0).symm⟩
  have hk : k < 2 ^ m := Int.ofNat_lt.mp hp1
  have hr4 := x4.2 _ _ hra hr3
  have hv4 := x4.2 _ _ hva hv3
  have hl4 := x4.2 _ _ hla hl3
  clear hr3 hv3 hl3 hr2 hv2
  repeat walk_at "d1"
  refine ⟨_, rfl, by omega, by omega, fun L hL => ?_⟩
  rw [Int.toNat_natCast]
  refine comp_map (fun d => match d with | .int i => pairD (i.toNat, k.testBit (m - 1 - i.toNat)) | _ => .non) hL (by rw [rngD_len, sz_eq]; omega) (fun _ => trivial) ?_ ?_
  · intro x hx W' hs Q' q'
    obtain ⟨i, hi, rfl⟩ := rngD_mem hx
    have hl5 := hs _ _ hl4
    repeat walk_at "d1"
    refine OptD.mk (rowsD_at hk) ?_
    repeat walk_at "d1"
    refine OptD.mk (truthsD_at hi) ?_
    repeat walk_at "d1"
    exact q'
  have x5 := DrawX.new (m := .lst (pairsD (wholeP m k))) x4.d hL
  have ew : (rngD 0 m).map (fun d => match d with | .int i => pairD (i.toNat, k.testBit (m - 1 - i.toNat)) | _ => .non) = pairsD (wholeP m k) := by
    rw [rngD_map, pairsD, wholeP, List.map_map]; rfl
  rw [ew]
  repeat walk_at "d1"
  refine ⟨_, .inl wset_same, ?_⟩
  have hr5 := x5.2 _ _ hra hr4
  have hv5 := x5.2 _ _ hva hv4
  have hl5 := x5.2 _ _ hla hl4
  repeat walk_at "d1"
  have hwl : (wholeP m k).length ≤ 7 := by rw [wholeP, List.length_map, List.length_range]; exact hm
  refine ⟨a, l, r, m, ns, wholeP m k, rfl, hl5, hr5, hla, hra, hl, by omega, fun p hp => wholeP_lt hp, by omega, ⟨k, hk, wholeP_agree m k⟩, met_len.mpr ⟨_, wholeP_one hk⟩, x5.d, fun qs W6 hqm hqs hq1 hq2 x6 => ?_⟩
  have hr6 := x6.2 _ _ hra hr5
  have hv6' := x6.2 _ _ hva hv5
  have hl6 := x6.2 _ _ hla hl5
  clear hr5 hv5 hl5 hr4 hv4 hl4
  repeat walk_at "d1"
  simp only [List.set_cons_zero, List.set_cons_succ]
  have hqz : qs.length ≤ 7 := Nat.le_trans hqs.length_le hwl
  refine ⟨a, m, _, rfl, by omega, by omega, by omega, x6.d, fun ps7 W7 _ hp7 x7 => ?_⟩
  repeat walk_at "d1"
  refine ⟨a, m, _, rfl, by omega, by omega, by omega, x7.d, fun ps8 W8 _ hp8 x8 => ?_⟩
  have y8 := x7.trans x8
  repeat walk_at "d1"
  intro p9 hp9
  refine E_gN ?_
  simp only [List.set_cons_zero, List.set_cons_succ]
  have y9 := y8.trans (DrawX.new (m := .lst [.tup (pairsD qs), .tup (pairsD (wholeP m k)), .tup (pairsD ps7), .tup (pairsD ps8), .tup []]) y8.d hp9)
  have st9 : AskSt sc a r v l (T.map (ndD vs)) m k (pairsD (wholeP m k)) (pairsD qs) W6 5 _ _ := ⟨p9, _, rfl, y8.free hp9, y9, wset_same, ⟨thing_pairs (by omega), thing_pairs (by omega), thing_pairs (by omega), thing_pairs (by omega), ⟨_, rfl, rfl, Nat.zero_le _⟩, trivial⟩, Nat.le_refl _⟩
  revert st9
  generalize wset W8 p9 _ = W9
  intro st9
  have hra' : r ≠ a := hra
  obtain ⟨p, F, e, h0, x, hp, tF, lF⟩ := st9
  refine E_seq ?_
  refine E_join (AskSt sc a r v l (T.map (ndD vs)) m k (pairsD (wholeP m k)) (pairsD qs) W6 12) ?_ ?_
  · clear e h0 x hp tF lF F p W9
    rintro ρ W9 ⟨p, F, rfl, h0, x, hp, tF, lF⟩
    refine E_seq ?_
    refine E_join (AskSt sc a r v l (T.map (ndD vs)) m k (pairsD (wholeP m k)) (pairsD qs) W6 19) ?_ ?_
    · clear h0 x hp tF lF F p W9
      rintro ρ W9 ⟨p, F, rfl, h0, x, hp, tF, lF⟩
      refine E_seq ?_
      refine E_join (AskSt sc a r v l (T.map (ndD vs)) m k (pairsD (wholeP m k)) (pairsD qs) W6 26) ?_ ?_
      · clear h0 x hp tF lF F p W9
        rintro ρ W9 ⟨p, F, rfl, h0, x, hp, tF, lF⟩
        refine E_seq ?_
        refine E_join (AskSt sc a r v l (T.map (ndD vs)) m k (pairsD (wholeP m k)) (pairsD qs) W6 126) ?_ ?_
        · clear h0 x hp tF lF F p W9
          rintro ρ W9 ⟨p, F, rfl, h0, x, hp, tF, lF⟩
          have hpa := x6.d.ne h0
          repeat walk_at "d1"
          intro L2 hL2
          have y10 := x.trans (DrawX.new (m := .lst [.tup (pairsD qs)]) x.d hL2)
          refine ⟨p, L2, F, [.tup (pairsD qs)], rfl, rfl, by rw [wset_ne (wne hL2 hp)]; exact hp, wset_same, by rw [sz_eq, List.length_singleton]; omega, fun p3 hp3 => ?_⟩
          have y11 := y10.trans (DrawX.new (m := .lst (F ++ [.tup (pairsD qs)])) y10.d hp3)
          have h11 : wset (wset W9 L2 (.lst [.tup (pairsD qs)])) p3 (.lst (F ++ [.tup (pairsD qs)])) p3 = some (.lst (F ++ [.tup (pairsD qs)])) := wset_same
          have tX : Things (F ++ [.tup (pairsD qs)]) := tF.app ⟨thing_pairs (by omega), trivial⟩
          generalize wset (wset W9 L2 (.lst [.tup (pairsD qs)])) p3 (.lst (F ++ [.tup (pairsD qs)])) = W10 at y11 h11 ⊢
          generalize F ++ [D.tup (pairsD qs)] = X at h11 tX ⊢
          have hr10 := y11.2 _ _ hra hr6
          have hv10 := y11.2 _ _ hva hv6'
          have hl10 := y11.2 _ _ hla hl6
          have hin0 : ∀ x ∈ ns, 0 ≤ x := fun x hx => (hin x hx).1
          have hsetq : ∀ u, u ≤ 7 → True := fun _ _ => trivial
          refine ⟨X, .inl h11, ?_⟩
          refine loop_ind (fun rest ρ W' => W' = W10 ∧ (∀ z ∈ rest, Thing z) ∧ ∃ o13 o14 o15 o16, ρ = [some (.ref sc), some (.ref a), some (.tup (T.map (ndD vs))), some (.ref r), some (.int (m : Int)), some (.ref v), some (.ref l), some (.int (k : Int)), some (.tup (pairsD (wholeP m k))), none, some (.tup (pairsD qs)), some (.ref p), none, o13, o14, o15, o16]) ?_ ?_ _ _ _ ⟨rfl, fun z hz => tX.mem hz, none, none, none, none, rfl⟩
          · rintro ρ W' ⟨rfl, _, o13, o14, o15, o16, rfl⟩
            refine ⟨.inl h11, ?_⟩
            repeat walk_at "d1"
            refine ⟨l, r, m, ns, pairsD qs, rfl, hl10, hr10, hl, by omega, ok_pairs' qs, by rw [pairsD_len]; omega, ?_⟩
            repeat walk_at "d1"
            refine OptD.mk (intsD_at (by omega)) ?_
            rw [last_ok hk hqs hq1 hq2]
            refine ⟨_, _, rfl, rfl, rfl, rfl, E_end ?_⟩
            rw [show PyData.eqv (.int (ns.getD k 0)) (.int (ns.getD k 0)) = true by simp only [PyData.eqv, beq_self_eq_true]]
            exact q _
          · rintro z rest N hN ρ W' ⟨rfl, hall, o13, o14, o15, o16, rfl⟩
            refine ⟨.inl h11, ?_⟩
            obtain ⟨xs, rfl, hok, hlen⟩ := hall z (List.mem_cons_self ..)
            repeat walk_at "d1"
            refine ⟨l, r, m, ns, xs, rfl, hl10, hr10, hl, by omega, hok, hlen, ?_⟩
            repeat walk_at "d1"
            refine ⟨_, rfl, by omega, by omega, ?_⟩
            rw [Int.toNat_natCast]
            refine loop_ind (fun rest2 ρ W2 => W2 = W' ∧ (∀ d ∈ rest2, ∃ j : Nat, j < vs.length ∧ d = .int (j : Int)) ∧ ∃ o15 o16, ρ = [some (.ref sc), some (.ref a), some (.tup (T.map (ndD vs))), some (.ref r), some (.int (m : Int)), some (.ref v), some (.ref l), some (.int (k : Int)), some (.tup (pairsD (wholeP m k))), none, some (.tup (pairsD qs)), some (.ref p), none, some (.tup xs), some (.int (setV m ns xs)), o15, o16]) ?_ ?_ _ _ _ ⟨rfl, fun d hd => rngD_mem hd, o15, o16, rfl⟩
            · rintro ρ W2 ⟨rfl, _, o15, o16, rfl⟩
              refine ⟨trivial, ?_⟩
              exact hN _ _ ⟨rfl, fun z hz => hall z (List.mem_cons_of_mem _ hz), _, _, _, _, rfl⟩
            · rintro d rest2 N2 hN2 ρ W2 ⟨rfl, hnum, o15, o16, rfl⟩
              refine ⟨trivial, ?_⟩
              obtain ⟨j, hj, rfl⟩ := hnum d (List.mem_cons_self ..)
              obtain ⟨vj, hvj⟩ : ∃ vj, vs[j]? = some vj := ⟨_, List.getElem?_eq_getElem hj⟩
              repeat walk_at "d1"
              refine OptD.mk (show atI vs (j : Int) = some vj by rw [atI_n, hvj]) ?_
              repeat walk_at "d1"
              refine ⟨vs, T, Rs, m, ns, vj, j, xs, rfl, hvj, t, hl, hroot, hin0, hT0, hT1, hg, hok, hlen, fun tr htr => ?_⟩
              have htr2 : tr = decide (setV m ns xs = (j : Int)) := by
                rw [Bool.eq_iff_iff, htr, decide_eq_true_eq]
                exact (due_judge j hl hin0).symm
              repeat walk_at "d1"
              refine isi_bool (d := .bl tr) rfl ?_
              rw [show isBoolD (.bl tr) = true from rfl]
              repeat walk_at "d1"
              refine E_ite (fun h => by cases h) (fun _ => ?_)
              repeat walk_at "d1"
              refine ⟨_, _, rfl, rfl, rfl, rfl, ?_⟩
              refine ⟨_, _, rfl, rfl, rfl, rfl, ?_⟩
              have e5 : PyData.eqv (.int (setV m ns xs)) (.int (j : Int)) = tr := by
                rw [htr2]
                simp only [PyData.eqv]
                rw [Bool.eq_iff_iff, beq_iff_eq, decide_eq_true_eq]
              rw [e5, show (!PyData.eqv (.bool tr) (.bool tr)) = false by simp only [PyData.eqv, beq_self_eq_true, Bool.not_true]]
              repeat walk_at "d1"
              exact hN2 _ _ ⟨rfl, fun d hd => hnum d (List.mem_cons_of_mem _ hd), _, _, rfl⟩
        · intro N hN
          have hpa := x6.d.ne h0
          repeat walk_at "d1"
          intro L2 hL2
          refine ⟨a, L2, _, rfl, wset_same, x.d.ne hL2, (by decide : 0 < 3), (by decide : 3 < 1073741824), (x.trans (DrawX.new x.d hL2)).d, fun y W10 hy x10 => ?_⟩
          have x11 := (DrawX.new (m := .lst [.tup (pairsD qs), .tup (pairsD qs), .tup (pairsD (wholeP m k))]) x.d hL2).trans x10
          obtain ⟨ps, rfl, hps⟩ : ∃ ps, y = .tup (pairsD ps) ∧ ps.length ≤ 7 := by
            simp only [List.mem_cons, List.not_mem_nil, or_false] at hy
            rcases hy with rfl | rfl | rfl
            · exact ⟨qs, rfl, hqz⟩
            · exact ⟨qs, rfl, hqz⟩
            · exact ⟨wholeP m k, rfl, hwl⟩
          repeat walk_at "d1"
          refine ⟨ps, m, rfl, by omega, fun p2 X W11 hp2 tX lX s11 h11 => ?_⟩
          have x12 : DrawX a W6 W11 := (x.trans x11).sub s11
          exact dr_cat x12 (s11 _ _ (x11.2 _ _ hpa hp)) tF lF h11 tX lX (by omega) hN
      · intro N hN
        have hpa := x6.d.ne h0
        repeat walk_at "d1"
        intro L2 hL2
        refine comp_all (fun W' => DrawX a W9 W') Thing hL2 (by rw [pairsD_len, sz_eq]; omega) (fun W' acc y => y.put hL2) (fun _ _ => trivial) (DrawX.refl x.d) ?_ ?_
        · intro y hy W' acc xy hacc Q1 Q2 q1 q2
          obtain ⟨⟨a0, t0⟩, hm0, rfl⟩ := pairsD_mem hy
          repeat walk_at "d1"
          refine OptD.mk rfl ?_
          repeat walk_at "d1"
          refine ⟨wholeP m k, a0, rfl, by omega, ?_⟩
          exact q1 _ _ (thing_pairs (Nat.le_trans (List.length_filter_le _ _) (by omega))) xy hacc
        · intro ys W' xy hys tys lys
          exact dr_cat (x.trans xy) (xy.2 _ _ hpa hp) tF lF hys (things_of tys) (Nat.le_trans lys (by rw [pairsD_len]; exact hwl)) (by omega) hN
    · intro N hN
      have hpa := x6.d.ne h0
      repeat walk_at "d1"
      intro L2 hL2
      refine comp_all (fun W' => DrawX a W9 W') Thing hL2 (by rw [pairsD_len, sz_eq]; omega) (fun W' acc y => y.put hL2) (fun _ _ => trivial) (DrawX.refl x.d) ?_ ?_
      · intro y hy W' acc xy hacc Q1 Q2 q1 q2
        obtain ⟨⟨a0, t0⟩, hm0, rfl⟩ := pairsD_mem hy
        repeat walk_at "d1"
        refine OptD.mk rfl ?_
        repeat walk_at "d1"
        refine ⟨qs, a0, rfl, by omega, ?_⟩
        exact q1 _ _ (thing_pairs (Nat.le_trans (List.length_filter_le _ _) (by omega))) xy hacc
      · intro ys W' xy hys tys lys
        exact dr_cat (x.trans xy) (xy.2 _ _ hpa hp) tF lF hys (things_of tys) (Nat.le_trans lys (by rw [pairsD_len]; exact hqz)) (by omega) hN
  · intro N hN
    have hpa := x6.d.ne h0
    rw [e]
    repeat walk_at "d1"
    intro L2 hL2
    refine comp_all (fun W' => DrawX a W9 W') Thing hL2 (by rw [pairsD_len, sz_eq]; omega) (fun W' acc y => y.put hL2) (fun _ _ => trivial) (DrawX.refl x.d) ?_ ?_
    · intro y hy W' acc xy hacc Q1 Q2 q1 q2
      obtain ⟨⟨a0, t0⟩, hm0, rfl⟩ := pairsD_mem hy
      have hLa := x.d.ne hL2
      repeat walk_at "d1"
      refine ⟨_, _, pyd_pair (a0, t0), shaped_pair _, .inl ⟨_, rfl, pydL_pairs qs⟩, canLay_pairs qs, ?_⟩
      refine E_bl ?_
      refine E_ite (fun _ => ?_) (fun _ => q2)
      repeat walk_at "d1"
      refine E_catT (by rw [pairsD_len, List.length_singleton, sz_eq]; omega) ?_
      have esn : pairsD qs ++ [pairD (a0, t0)] = pairsD (qs ++ [(a0, t0)]) := by rw [pairsD, pairsD, List.map_append]; rfl
      rw [esn]
      repeat walk_at "d1"
      refine ⟨_, _, .inl ⟨_, rfl, rfl⟩, pydL_pairs _, ?_, .inl ?_, ?_, fun r2 hr2 => ?_⟩
      · intro d hd d' hd'
        obtain ⟨z, _, rfl⟩ := List.mem_map.mp hd
        obtain ⟨z', _, rfl⟩ := List.mem_map.mp hd'
        rfl
      · intro d hd
        obtain ⟨z, _, rfl⟩ := List.mem_map.mp hd
        exact ⟨_, _, rfl⟩
      · intro d hd
        obtain ⟨z, _, rfl⟩ := List.mem_map.mp hd
        exact shaped_pair z
      have hperm := srt_perm (ds := pairsD (qs ++ [(a0, t0)])) (ps := (qs ++ [(a0, t0)]).map pairP) (by rw [pairsD_len, List.length_map])
      repeat walk_at "d1"
      refine ⟨_, .inl wset_same, ?_⟩
      refine q1 _ _ ⟨_, rfl, ok_all fun z hz => ?_, ?_⟩ (xy.trans (DrawX.new xy.d hr2)) (by rw [wset_ne (wne hr2 hacc)]; exact hacc)
      · obtain ⟨z', _, rfl⟩ := pairsD_mem (hperm.mem_iff.mp hz)
        rfl
      · rw [hperm.length_eq, pairsD_len, List.length_append, List.length_singleton]; omega
    · intro ys W' xy hys tys lys
      exact dr_cat (x.trans xy) (xy.2 _ _ hpa hp) tF lF hys (things_of tys) (Nat.le_trans lys (by rw [pairsD_len]; exact hwl)) (by omega) hN
end
end K51

namespace K51
open PySem PySem.Spec L2 RZ DL
open PyProof.Rows hiding St
theorem all_mk {P : Program} {w : World} {K : Frag} {h : Heap} {mg : Str → Option Value} {fa : Addr} (X : K.In h) (G : h.Ns mainGlobals mg) (hfa : mg "law" = some (.ref fa))
    {f1 f2 f3 f4 f5 f6 f7 f8 f9 f10 f11 f12 f13 f14 f15 f16 f17 f18 f19 f20 f21 f22 f23 f24 f25 f26 f27 : Addr} {od1 an1 od2 an2 od3 an3 od4 an4 od5 an5 od6 an6 od7 an7 od8 an8 od9 an9 od10 an10 od11 an11 od12 an12 od13 an13 od14 an14 od15 an15 od16 an16 od17 an17 od18 an18 od19 an19 od20 an20 od21 an21 od22 an22 od23 an23 od24 an24 od25 an25 od26 an26 od27 an27 : Option Addr} {sl1 sl2 sl3 sl4 sl5 sl6 sl7 sl8 sl9 sl10 sl11 sl12 sl13 sl14 sl15 sl16 sl17 sl18 sl19 sl20 sl21 sl22 sl23 sl24 sl25 sl26 sl27 : Array (Option Value)} {oc1 kV1 dc1 pm1 cd1 ct1 oc2 kV2 dc2 pm2 cd2 ct2 oc3 kV3 dc3 pm3 cd3 ct3 oc4 kV4 dc4 pm4 cd4 ct4 oc5 kV5 dc5 pm5 cd5 ct5 oc6 kV6 dc6 pm6 cd6 ct6 oc7 kV7 dc7 pm7 cd7 ct7 oc8 kV8 dc8 pm8 cd8 ct8 oc9 kV9 dc9 pm9 cd9 ct9 oc10 kV10 dc10 pm10 cd10 ct10 oc11 kV11 dc11 pm11 cd11 ct11 oc12 kV12 dc12 pm12 cd12 ct12 oc13 kV13 dc13 pm13 cd13 ct13 oc14 kV14 dc14 pm14 cd14 ct14 oc15 kV15 dc15 pm15 cd15 ct15 oc16 kV16 dc16 pm16 cd16 ct16 oc17 kV17 dc17 pm17 cd17 ct17 oc18 kV18 dc18 pm18 cd18 ct18 oc19 kV19 dc19 pm19 cd19 ct19 oc20 kV20 dc20 pm20 cd20 ct20 oc21 kV21 dc21 pm21 cd21 ct21 oc22 kV22 dc22 pm22 cd22 ct22 oc23 kV23 dc23 pm23 cd23 ct23 oc24 kV24 dc24 pm24 cd24 ct24 oc25 kV25 dc25 pm25 cd25 ct25 oc26 kV26 dc26 pm26 cd26 ct26 oc27 kV27 dc27 pm27 cd27 ct27 : Value}
    (a1 : PySem.W.nsIn K mainGlobals "_law_begin" = some (some (.ref f1))) (l1 : K.lookup f1 = some ⟨oc1, od1, .func (PySem.W.fnOf "_law_begin" "_law_begin" (defArgs st__law_begin) (defBody st__law_begin) (defScope st__law_begin) .none kV1 dc1 pm1 an1 cd1 ct1), sl1⟩) (c1 : PySem.W.codeIn K cd1 "_law_begin" = true) (k1 : PySem.W.keepIn K (.ref f1) = true)
    (a2 : PySem.W.nsIn K mainGlobals "_law_draw" = some (some (.ref f2))) (l2 : K.lookup f2 = some ⟨oc2, od2, .func (PySem.W.fnOf "_law_draw" "_law_draw" (defArgs st__law_draw) (defBody st__law_draw) (defScope st__law_draw) .none kV2 dc2 pm2 an2 cd2 ct2), sl2⟩) (c2 : PySem.W.codeIn K cd2 "_law_draw" = true) (k2 : PySem.W.keepIn K (.ref f2) = true)
    (a3 : PySem.W.nsIn K mainGlobals "_law_pick" = some (some (.ref f3))) (l3 : K.lookup f3 = some ⟨oc3, od3, .func (PySem.W.fnOf "_law_pick" "_law_pick" (defArgs st__law_pick) (defBody st__law_pick) (defScope st__law_pick) .none kV3 dc3 pm3 an3 cd3 ct3), sl3⟩) (c3 : PySem.W.codeIn K cd3 "_law_pick" = true) (k3 : PySem.W.keepIn K (.ref f3) = true)
    (a4 : PySem.W.nsIn K mainGlobals "_law_rare" = some (some (.ref f4))) (l4 : K.lookup f4 = some ⟨oc4, od4, .func (PySem.W.fnOf "_law_rare" "_law_rare" (defArgs st__law_rare) (defBody st__law_rare) (defScope st__law_rare) .none kV4 dc4 pm4 an4 cd4 ct4), sl4⟩) (c4 : PySem.W.codeIn K cd4 "_law_rare" = true) (k4 : PySem.W.keepIn K (.ref f4) = true)
    (a5 : PySem.W.nsIn K mainGlobals "_law_shuffled" = some (some (.ref f5))) (l5 : K.lookup f5 = some ⟨oc5, od5, .func (PySem.W.fnOf "_law_shuffled" "_law_shuffled" (defArgs st__law_shuffled) (defBody st__law_shuffled) (defScope st__law_shuffled) .none kV5 dc5 pm5 an5 cd5 ct5), sl5⟩) (c5 : PySem.W.codeIn K cd5 "_law_shuffled" = true) (k5 : PySem.W.keepIn K (.ref f5) = true)
    (a6 : PySem.W.nsIn K mainGlobals "_law_is_int" = some (some (.ref f6))) (l6 : K.lookup f6 = some ⟨oc6, od6, .func (PySem.W.fnOf "_law_is_int" "_law_is_int" (defArgs st__law_is_int) (defBody st__law_is_int) (defScope st__law_is_int) .none kV6 dc6 pm6 an6 cd6 ct6), sl6⟩) (c6 : PySem.W.codeIn K cd6 "_law_is_int" = true) (k6 : PySem.W.keepIn K (.ref f6) = true)
    (a7 : PySem.W.nsIn K mainGlobals "_law_rising" = some (some (.ref f7))) (l7 : K.lookup f7 = some ⟨oc7, od7, .func (PySem.W.fnOf "_law_rising" "_law_rising" (defArgs st__law_rising) (defBody st__law_rising) (defScope st__law_rising) .none kV7 dc7 pm7 an7 cd7 ct7), sl7⟩) (c7 : PySem.W.codeIn K cd7 "_law_rising" = true) (k7 : PySem.W.keepIn K (.ref f7) = true)
    (a8 : PySem.W.nsIn K mainGlobals "_law_valuations" = some (some (.ref f8))) (l8 : K.lookup f8 = some ⟨oc8, od8, .func (PySem.W.fnOf "_law_valuations" "_law_valuations" (defArgs st__law_valuations) (defBody st__law_valuations) (defScope st__law_valuations) .none kV8 dc8 pm8 an8 cd8 ct8), sl8⟩) (c8 : PySem.W.codeIn K cd8 "_law_valuations" = true) (k8 : PySem.W.keepIn K (.ref f8) = true)
    (a9 : PySem.W.nsIn K mainGlobals "_law_shrunk" = some (some (.ref f9))) (l9 : K.lookup f9 = some ⟨oc9, od9, .func (PySem.W.fnOf "_law_shrunk" "_law_shrunk" (defArgs st__law_shrunk) (defBody st__law_shrunk) (defScope st__law_shrunk) .none kV9 dc9 pm9 an9 cd9 ct9), sl9⟩) (c9 : PySem.W.codeIn K cd9 "_law_shrunk" = true) (k9 : PySem.W.keepIn K (.ref f9) = true)
    (a10 : PySem.W.nsIn K mainGlobals "_law_put" = some (some (.ref f10))) (l10 : K.lookup f10 = some ⟨oc10, od10, .func (PySem.W.fnOf "_law_put" "_law_put" (defArgs st__law_put) (defBody st__law_put) (defScope st__law_put) .none kV10 dc10 pm10 an10 cd10 ct10), sl10⟩) (c10 : PySem.W.codeIn K cd10 "_law_put" = true) (k10 : PySem.W.keepIn K (.ref f10) = true)
    (a11 : PySem.W.nsIn K mainGlobals "_law_nodes" = some (some (.ref f11))) (l11 : K.lookup f11 = some ⟨oc11, od11, .func (PySem.W.fnOf "_law_nodes" "_law_nodes" (defArgs st__law_nodes) (defBody st__law_nodes) (defScope st__law_nodes) .none kV11 dc11 pm11 an11 cd11 ct11), sl11⟩) (c11 : PySem.W.codeIn K cd11 "_law_nodes" = true) (k11 : PySem.W.keepIn K (.ref f11) = true)
    (a12 : PySem.W.nsIn K mainGlobals "_law_values" = some (some (.ref f12))) (l12 : K.lookup f12 = some ⟨oc12, od12, .func (PySem.W.fnOf "_law_values" "_law_values" (defArgs st__law_values) (defBody st__law_values) (defScope st__law_values) .none kV12 dc12 pm12 an12 cd12 ct12), sl12⟩) (c12 : PySem.W.codeIn K cd12 "_law_values" = true) (k12 : PySem.W.keepIn K (.ref f12) = true)
    (a13 : PySem.W.nsIn K mainGlobals "_law_pairs" = some (some (.ref f13))) (l13 : K.lookup f13 = some ⟨oc13, od13, .func (PySem.W.fnOf "_law_pairs" "_law_pairs" (defArgs st__law_pairs) (defBody st__law_pairs) (defScope st__law_pairs) .none kV13 dc13 pm13 an13 cd13 ct13), sl13⟩) (c13 : PySem.W.codeIn K cd13 "_law_pairs" = true) (k13 : PySem.W.keepIn K (.ref f13) = true)
    (a14 : PySem.W.nsIn K mainGlobals "_law_agrees" = some (some (.ref f14))) (l14 : K.lookup f14 = some ⟨oc14, od14, .func (PySem.W.fnOf "_law_agrees" "_law_agrees" (defArgs st__law_agrees) (defBody st__law_agrees) (defScope st__law_agrees) .none kV14 dc14 pm14 an14 cd14 ct14), sl14⟩) (c14 : PySem.W.codeIn K cd14 "_law_agrees" = true) (k14 : PySem.W.keepIn K (.ref f14) = true)
    (a15 : PySem.W.nsIn K mainGlobals "_law_by_rules" = some (some (.ref f15))) (l15 : K.lookup f15 = some ⟨oc15, od15, .func (PySem.W.fnOf "_law_by_rules" "_law_by_rules" (defArgs st__law_by_rules) (defBody st__law_by_rules) (defScope st__law_by_rules) .none kV15 dc15 pm15 an15 cd15 ct15), sl15⟩) (c15 : PySem.W.codeIn K cd15 "_law_by_rules" = true) (k15 : PySem.W.keepIn K (.ref f15) = true)
    (a16 : PySem.W.nsIn K mainGlobals "_law_row" = some (some (.ref f16))) (l16 : K.lookup f16 = some ⟨oc16, od16, .func (PySem.W.fnOf "_law_row" "_law_row" (defArgs st__law_row) (defBody st__law_row) (defScope st__law_row) .none kV16 dc16 pm16 an16 cd16 ct16), sl16⟩) (c16 : PySem.W.codeIn K cd16 "_law_row" = true) (k16 : PySem.W.keepIn K (.ref f16) = true)
    (a17 : PySem.W.nsIn K mainGlobals "_law_made" = some (some (.ref f17))) (l17 : K.lookup f17 = some ⟨oc17, od17, .func (PySem.W.fnOf "_law_made" "_law_made" (defArgs st__law_made) (defBody st__law_made) (defScope st__law_made) .none kV17 dc17 pm17 an17 cd17 ct17), sl17⟩) (c17 : PySem.W.codeIn K cd17 "_law_made" = true) (k17 : PySem.W.keepIn K (.ref f17) = true)
    (a18 : PySem.W.nsIn K mainGlobals "_law_met" = some (some (.ref f18))) (l18 : K.lookup f18 = some ⟨oc18, od18, .func (PySem.W.fnOf "_law_met" "_law_met" (defArgs st__law_met) (defBody st__law_met) (defScope st__law_met) .none kV18 dc18 pm18 an18 cd18 ct18), sl18⟩) (c18 : PySem.W.codeIn K cd18 "_law_met" = true) (k18 : PySem.W.keepIn K (.ref f18) = true)
    (a19 : PySem.W.nsIn K mainGlobals "_law_without" = some (some (.ref f19))) (l19 : K.lookup f19 = some ⟨oc19, od19, .func (PySem.W.fnOf "_law_without" "_law_without" (defArgs st__law_without) (defBody st__law_without) (defScope st__law_without) .none kV19 dc19 pm19 an19 cd19 ct19), sl19⟩) (c19 : PySem.W.codeIn K cd19 "_law_without" = true) (k19 : PySem.W.keepIn K (.ref f19) = true)
    (a20 : PySem.W.nsIn K mainGlobals "_law_is_pairs" = some (some (.ref f20))) (l20 : K.lookup f20 = some ⟨oc20, od20, .func (PySem.W.fnOf "_law_is_pairs" "_law_is_pairs" (defArgs st__law_is_pairs) (defBody st__law_is_pairs) (defScope st__law_is_pairs) .none kV20 dc20 pm20 an20 cd20 ct20), sl20⟩) (c20 : PySem.W.codeIn K cd20 "_law_is_pairs" = true) (k20 : PySem.W.keepIn K (.ref f20) = true)
    (a21 : PySem.W.nsIn K mainGlobals "_law_settled" = some (some (.ref f21))) (l21 : K.lookup f21 = some ⟨oc21, od21, .func (PySem.W.fnOf "_law_settled" "_law_settled" (defArgs st__law_settled) (defBody st__law_settled) (defScope st__law_settled) .none kV21 dc21 pm21 an21 cd21 ct21), sl21⟩) (c21 : PySem.W.codeIn K cd21 "_law_settled" = true) (k21 : PySem.W.keepIn K (.ref f21) = true)
    (a22 : PySem.W.nsIn K mainGlobals "_law_least_pairs" = some (some (.ref f22))) (l22 : K.lookup f22 = some ⟨oc22, od22, .func (PySem.W.fnOf "_law_least_pairs" "_law_least_pairs" (defArgs st__law_least_pairs) (defBody st__law_least_pairs) (defScope st__law_least_pairs) .none kV22 dc22 pm22 an22 cd22 ct22), sl22⟩) (c22 : PySem.W.codeIn K cd22 "_law_least_pairs" = true) (k22 : PySem.W.keepIn K (.ref f22) = true)
    (a23 : PySem.W.nsIn K mainGlobals "_law_spoilt" = some (some (.ref f23))) (l23 : K.lookup f23 = some ⟨oc23, od23, .func (PySem.W.fnOf "_law_spoilt" "_law_spoilt" (defArgs st__law_spoilt) (defBody st__law_spoilt) (defScope st__law_spoilt) .none kV23 dc23 pm23 an23 cd23 ct23), sl23⟩) (c23 : PySem.W.codeIn K cd23 "_law_spoilt" = true) (k23 : PySem.W.keepIn K (.ref f23) = true)
    (a24 : PySem.W.nsIn K mainGlobals "values_under" = some (some (.ref f24))) (l24 : K.lookup f24 = some ⟨oc24, od24, .func (PySem.W.fnOf "values_under" "values_under" (defArgs st_values_under) (defBody st_values_under) (defScope st_values_under) .none kV24 dc24 pm24 an24 cd24 ct24), sl24⟩) (c24 : PySem.W.codeIn K cd24 "values_under" = true) (k24 : PySem.W.keepIn K (.ref f24) = true)
    (a25 : PySem.W.nsIn K mainGlobals "is_reason" = some (some (.ref f25))) (l25 : K.lookup f25 = some ⟨oc25, od25, .func (PySem.W.fnOf "is_reason" "is_reason" (defArgs st_is_reason) (defBody st_is_reason) (defScope st_is_reason) .none kV25 dc25 pm25 an25 cd25 ct25), sl25⟩) (c25 : PySem.W.codeIn K cd25 "is_reason" = true) (k25 : PySem.W.keepIn K (.ref f25) = true)
    (a26 : PySem.W.nsIn K mainGlobals "judge_reason" = some (some (.ref f26))) (l26 : K.lookup f26 = some ⟨oc26, od26, .func (PySem.W.fnOf "judge_reason" "judge_reason" (defArgs st_judge_reason) (defBody st_judge_reason) (defScope st_judge_reason) .none kV26 dc26 pm26 an26 cd26 ct26), sl26⟩) (c26 : PySem.W.codeIn K cd26 "judge_reason" = true) (k26 : PySem.W.keepIn K (.ref f26) = true)
    (a27 : PySem.W.nsIn K mainGlobals "law" = some (some (.ref f27))) (l27 : K.lookup f27 = some ⟨oc27, od27, .func (PySem.W.fnOf "law" "law" (defArgs st_law) (defBody st_law) (defScope st_law) .none kV27 dc27 pm27 an27 cd27 ct27), sl27⟩) (c27 : PySem.W.codeIn K cd27 "law" = true) (k27 : PySem.W.keepIn K (.ref f27) = true)
    (z_len : PySem.W.nsIn K mainGlobals "len" = some none)
    (z_isinstance : PySem.W.nsIn K mainGlobals "isinstance" = some none)
    (z_int : PySem.W.nsIn K mainGlobals "int" = some none)
    (z_bool : PySem.W.nsIn K mainGlobals "bool" = some none)
    (z_str : PySem.W.nsIn K mainGlobals "str" = some none)
    (z_tuple : PySem.W.nsIn K mainGlobals "tuple" = some none)
    (z_list : PySem.W.nsIn K mainGlobals "list" = some none)
    (z_dict : PySem.W.nsIn K mainGlobals "dict" = some none)
    (z_all : PySem.W.nsIn K mainGlobals "all" = some none)
    (z_sum : PySem.W.nsIn K mainGlobals "sum" = some none)
    (z_abs : PySem.W.nsIn K mainGlobals "abs" = some none)
    (z_sorted : PySem.W.nsIn K mainGlobals "sorted" = some none)
    (z_range : PySem.W.nsIn K mainGlobals "range" = some none)
    (z_zip : PySem.W.nsIn K mainGlobals "zip" = some none) :
    ∃ fd : FuncData, (∀ (s : Shared) (v : Value), BindsTo s fd ⟨[v], []⟩ [("_law_script", v)]) ∧ ∀ base : Heap, K.In base → base.Ns mainGlobals mg → FnOk P w K mg base CX0 15 fa fd ["_law_script"] (lowSp K (spLawD K)) := by
  have e := hfa.symm.trans (PySem.W.mg_of X G a27)
  cases e
  have B : Bi mg := ⟨PySem.W.mg_none_of X G z_len, PySem.W.mg_none_of X G z_isinstance, PySem.W.mg_none_of X G z_int, PySem.W.mg_none_of X G z_bool, PySem.W.mg_none_of X G z_str, PySem.W.mg_none_of X G z_tuple, PySem.W.mg_none_of X G z_list, PySem.W.mg_none_of X G z_dict, PySem.W.mg_none_of X G z_all, PySem.W.mg_none_of X G z_sum, PySem.W.mg_none_of X G z_abs, PySem.W.mg_none_of X G z_sorted, PySem.W.mg_none_of X G z_range, PySem.W.mg_none_of X G z_zip⟩
  have F1 := fun_mk (st := st__law_begin) l1 c1 k1
  have b1 := F1.binds (ps := ["_law_script"]) fun _ _ _ _ _ _ us hl => match us, hl with | [_], _ => rfl
  have F2 := fun_mk (st := st__law_draw) l2 c2 k2
  have b2 := F2.binds (ps := ["_law_d", "_law_many"]) fun _ _ _ _ _ _ us hl => match us, hl with | [_, _], _ => rfl
  have F3 := fun_mk (st := st__law_pick) l3 c3 k3
  have b3 := F3.binds (ps := ["_law_d", "_law_row_here"]) fun _ _ _ _ _ _ us hl => match us, hl with | [_, _], _ => rfl
  have F4 := fun_mk (st := st__law_rare) l4 c4 k4
  have b4 := F4.binds (ps := ["_law_d", "_law_many"]) fun _ _ _ _ _ _ us hl => match us, hl with | [_, _], _ => rfl
  have F5 := fun_mk (st := st__law_shuffled) l5 c5 k5
  have b5 := F5.binds (ps := ["_law_d", "_law_row_here"]) fun _ _ _ _ _ _ us hl => match us, hl with | [_, _], _ => rfl
  have F6 := fun_mk (st := st__law_is_int) l6 c6 k6
  have b6 := F6.binds (ps := ["_law_thing"]) fun _ _ _ _ _ _ us hl => match us, hl with | [_], _ => rfl
  have F7 := fun_mk (st := st__law_rising) l7 c7 k7
  have b7 := F7.binds (ps := ["_law_row_here"]) fun _ _ _ _ _ _ us hl => match us, hl with | [_], _ => rfl
  have F8 := fun_mk (st := st__law_valuations) l8 c8 k8
  have b8 := F8.binds (ps := ["_law_many"]) fun _ _ _ _ _ _ us hl => match us, hl with | [_], _ => rfl
  have F9 := fun_mk (st := st__law_shrunk) l9 c9 k9
  have b9 := F9.binds (ps := ["_law_row_here"]) fun _ _ _ _ _ _ us hl => match us, hl with | [_], _ => rfl
  have F10 := fun_mk (st := st__law_put) l10 c10 k10
  have b10 := F10.binds (ps := ["_law_row_here", "_law_many", "_law_values_here", "_law_nodes_here", "_law_names"]) fun _ _ _ _ _ _ us hl => match us, hl with | [_, _, _, _, _], _ => rfl
  have F11 := fun_mk (st := st__law_nodes) l11 c11 k11
  have b11 := F11.binds (ps := ["_law_row_here", "_law_many", "_law_values_here"]) fun _ _ _ _ _ _ us hl => match us, hl with | [_, _, _], _ => rfl
  have F12 := fun_mk (st := st__law_values) l12 c12 k12
  have b12 := F12.binds (ps := ["_law_d"]) fun _ _ _ _ _ _ us hl => match us, hl with | [_], _ => rfl
  have F13 := fun_mk (st := st__law_pairs) l13 c13 k13
  have b13 := F13.binds (ps := ["_law_d", "_law_many", "_law_share"]) fun _ _ _ _ _ _ us hl => match us, hl with | [_, _, _], _ => rfl
  have F14 := fun_mk (st := st__law_agrees) l14 c14 k14
  have b14 := F14.binds (ps := ["_law_truths", "_law_pairs_here"]) fun _ _ _ _ _ _ us hl => match us, hl with | [_, _], _ => rfl
  have F15 := fun_mk (st := st__law_by_rules) l15 c15 k15
  have b15 := F15.binds (ps := ["_law_rules", "_law_truths", "_law_otherwise"]) fun _ _ _ _ _ _ us hl => match us, hl with | [_, _, _], _ => rfl
  have F16 := fun_mk (st := st__law_row) l16 c16 k16
  have b16 := F16.binds (ps := ["_law_d", "_law_many", "_law_kinds"]) fun _ _ _ _ _ _ us hl => match us, hl with | [_, _, _], _ => rfl
  have F17 := fun_mk (st := st__law_made) l17 c17 k17
  have b17 := F17.binds (ps := ["_law_d"]) fun _ _ _ _ _ _ us hl => match us, hl with | [_], _ => rfl
  have F18 := fun_mk (st := st__law_met) l18 c18 k18
  have b18 := F18.binds (ps := ["_law_rows", "_law_row_here", "_law_pairs_here"]) fun _ _ _ _ _ _ us hl => match us, hl with | [_, _, _], _ => rfl
  have F19 := fun_mk (st := st__law_without) l19 c19 k19
  have b19 := F19.binds (ps := ["_law_pairs_here", "_law_atom"]) fun _ _ _ _ _ _ us hl => match us, hl with | [_, _], _ => rfl
  have F20 := fun_mk (st := st__law_is_pairs) l20 c20 k20
  have b20 := F20.binds (ps := ["_law_many", "_law_thing"]) fun _ _ _ _ _ _ us hl => match us, hl with | [_, _], _ => rfl
  have F21 := fun_mk (st := st__law_settled) l21 c21 k21
  have b21 := F21.binds (ps := ["_law_rows", "_law_row_here", "_law_many", "_law_thing"]) fun _ _ _ _ _ _ us hl => match us, hl with | [_, _, _, _], _ => rfl
  have F22 := fun_mk (st := st__law_least_pairs) l22 c22 k22
  have b22 := F22.binds (ps := ["_law_d", "_law_rows", "_law_row_here", "_law_whole"]) fun _ _ _ _ _ _ us hl => match us, hl with | [_, _, _, _], _ => rfl
  have F23 := fun_mk (st := st__law_spoilt) l23 c23 k23
  have b23 := F23.binds (ps := ["_law_pairs_here", "_law_many"]) fun _ _ _ _ _ _ us hl => match us, hl with | [_, _], _ => rfl
  have F24 := fun_mk (st := st_values_under) l24 c24 k24
  have b24 := F24.binds (ps := ["table", "fixed"]) fun _ _ _ _ _ _ us hl => match us, hl with | [_, _], _ => rfl
  have F25 := fun_mk (st := st_is_reason) l25 c25 k25
  have b25 := F25.binds (ps := ["thing"]) fun _ _ _ _ _ _ us hl => match us, hl with | [_], _ => rfl
  have F26 := fun_mk (st := st_judge_reason) l26 c26 k26
  have b26 := F26.binds (ps := ["table", "value", "pairs"]) fun _ _ _ _ _ _ us hl => match us, hl with | [_, _, _], _ => rfl
  have F27 := fun_mk (st := st_law) l27 c27 k27
  refine ⟨PySem.W.fnOf "law" "law" (defArgs st_law) (defBody st_law) (defScope st_law) .none kV27 dc27 pm27 an27 cd27 ct27, fun s v => .of_eq rfl, fun base _ _ => ?_⟩
  have D__law_begin := ok_begin (P := P) (w := w) (base := base) F1 (PySem.W.mg_of X G a1) b1 B 
  have D__law_draw := ok_draw (P := P) (w := w) (base := base) F2 (PySem.W.mg_of X G a2) b2 B 
  have D__law_pick := ok_pick (P := P) (w := w) (base := base) F3 (PySem.W.mg_of X G a3) b3 B D__law_draw
  have D__law_rare := ok_rare (P := P) (w := w) (base := base) F4 (PySem.W.mg_of X G a4) b4 B D__law_draw
  have D__law_shuffled := ok_shuf (P := P) (w := w) (base := base) F5 (PySem.W.mg_of X G a5) b5 B D__law_draw
  have D__law_is_int := ok_is_int (P := P) (w := w) (base := base) F6 (PySem.W.mg_of X G a6) b6 B 
  have D__law_rising := ok_rising (P := P) (w := w) (base := base) F7 (PySem.W.mg_of X G a7) b7 B 
  have D__law_valuations := ok_val (P := P) (w := w) (base := base) F8 (PySem.W.mg_of X G a8) b8 B 
  have D__law_shrunk := ok_shr (P := P) (w := w) (base := base) F9 (PySem.W.mg_of X G a9) b9 B 
  have D__law_put := ok_put (P := P) (w := w) (base := base) F10 (PySem.W.mg_of X G a10) b10 B D__law_shrunk 11
  have D__law_nodes := ok_nodes (P := P) (w := w) (base := base) F11 (PySem.W.mg_of X G a11) b11 B D__law_shrunk D__law_put
  have D__law_values := ok_values (P := P) (w := w) (base := base) F12 (PySem.W.mg_of X G a12) b12 B D__law_draw D__law_shuffled
  have D__law_pairs := ok_pairs (P := P) (w := w) (base := base) F13 (PySem.W.mg_of X G a13) b13 B D__law_draw
  have D__law_agrees := ok_agrees (P := P) (w := w) (base := base) F14 (PySem.W.mg_of X G a14) b14 B 
  have D__law_by_rules := ok_by_rules (P := P) (w := w) (base := base) F15 (PySem.W.mg_of X G a15) b15 B D__law_agrees
  have D__law_row := ok_row (P := P) (w := w) (base := base) F16 (PySem.W.mg_of X G a16) b16 B D__law_draw D__law_valuations D__law_pairs D__law_by_rules
  have D__law_made := ok_made (P := P) (w := w) (base := base) F17 (PySem.W.mg_of X G a17) b17 B D__law_draw D__law_rare D__law_values D__law_row D__law_nodes
  have D__law_met := ok_met (P := P) (w := w) (base := base) F18 (PySem.W.mg_of X G a18) b18 B D__law_agrees
  have D__law_without := ok_without (P := P) (w := w) (base := base) F19 (PySem.W.mg_of X G a19) b19 B 
  have D__law_is_pairs := ok_is_pairs (P := P) (w := w) (base := base) F20 (PySem.W.mg_of X G a20) b20 B D__law_is_int D__law_rising
  have D__law_settled := ok_settled (P := P) (w := w) (base := base) F21 (PySem.W.mg_of X G a21) b21 B D__law_is_pairs D__law_met D__law_without
  have D__law_least_pairs := ok_least (P := P) (w := w) (base := base) F22 (PySem.W.mg_of X G a22) b22 B D__law_shuffled D__law_met D__law_without
  have D__law_spoilt := ok_spoilt (P := P) (w := w) (base := base) F23 (PySem.W.mg_of X G a23) b23 B 
  have D_values_under := ok_under (P := P) (w := w) (base := base) F24 (PySem.W.mg_of X G a24) b24 B 
  have D_is_reason := ok_is_reason (P := P) (w := w) (base := base) F25 (PySem.W.mg_of X G a25) b25 B 
  have D_judge_reason := ok_judge (P := P) (w := w) (base := base) F26 (PySem.W.mg_of X G a26) b26 B D_values_under D_is_reason
  exact ok_law F27 B D__law_begin D__law_made D__law_valuations D__law_draw D__law_least_pairs D__law_pairs D__law_without D__law_spoilt D__law_pick D__law_settled D_judge_reason
theorem hsp {K : Frag} {H : Hp} {a : Addr} {ns : List Int} (hl : ns.length ≤ 63) (hS : SqL K H a (ns.map V.int)) : lowSp K (spLawD K) [.ref a] H (fun v _ => v = .bl true) fun _ _ _ => False := by
  have im : ImL K H [.ref a] [V.ref a] := ImL.cons rfl ImL.nil
  have low : Low K H (fun d _ => d = .bl true) (fun v _ => v = .bl true) := fun d W' v H' q _ _ i => by
    subst q
    exact i
  rcases hS with h | h
  · refine ⟨[.ref a], wset (fun _ => none) a (.ro (ns.map .int)), fun d _ => d = .bl true, im, fun b m e => ?_, ⟨a, ns, rfl, .inl wset_same, hl, fun _ => rfl⟩, low⟩
    by_cases hb : b = a
    · subst hb
      rw [wset_same] at e
      cases e
      exact ⟨ns.map V.int, h, ImL.ints ns⟩
    · rw [wset_ne hb] at e
      cases e
  · exact ⟨[.ref a], fun _ => none, fun d _ => d = .bl true, im, fun b m e => (nomatch e), ⟨a, ns, rfl, .inr fun H' => .inr h, hl, fun _ => rfl⟩, low⟩
theorem walk51 {l : PySem.W.OpenLaw} {q : Program} {loose : List Str} {XP : (Str → Option Value) → Heap → Prop} {YP : World → Heap → Prop} {d : DefRec} {K : Params → Frag} (hn : l.most = some 63) (hdf : d.params.defaults = [])
    (hY : ∀ (w : World) (h : Heap), YP w h → (K w.params).In h)
    (F : ∀ (w : World) (mg : Str → Option Value) (fa : Addr) (h : Heap), (K w.params).In h → h.Ns mainGlobals mg → mg d.name = some (.ref fa) →
      ∃ fd : FuncData, (∀ (s : Shared) (u : Value), BindsTo s fd ⟨[u], []⟩ [("_law_script", u)]) ∧ ∀ base : Heap, (K w.params).In base → base.Ns mainGlobals mg → FnOk l.prog w (K w.params) mg base CX0 15 fa fd ["_law_script"] (lowSp (K w.params) (spLawD (K w.params)))) :
    PySem.W.WalkO q loose XP YP l.row.toRowW d [] (fun f vs => PySem.call f vs) :=
  L2.walk_of (n := 63) (k := 15) (x := "_law_script") (CX := fun _ => CX0) (sp := fun w => lowSp (K w.params) (spLawD (K w.params))) hn (by decide) hdf ⟨rfl, by decide, by decide⟩ hY F (fun _ _ _ _ hl _ hS => hsp hl hS) fun _ _ _ _ _ z => z
end K51


open PySem PySem.W PyProof.Rows in
set_option maxRecDepth 100000 in
set_option maxHeartbeats 0 in
theorem PySem.Challenge.cw_leaveledger_k51_reasons_judged_holds : PySem.Challenge.rw_leaveledger_k51_reasons_judged.Holds := by
  w_on; o_law; k_head; (case hw => w_witness2)
  k_fill
  refine K51.walk51 (l := PySem.Challenge.rw_leaveledger_k51_reasons_judged) rfl rfl (fun w h Y => PySem.W.kIn_of Y) ?F
  case F =>
    intro w mg fa h KX G hmg
    refine' K51.all_mk KX G hmg ?a1 ?l1 ?c1 ?k1 ?a2 ?l2 ?c2 ?k2 ?a3 ?l3 ?c3 ?k3 ?a4 ?l4 ?c4 ?k4 ?a5 ?l5 ?c5 ?k5 ?a6 ?l6 ?c6 ?k6 ?a7 ?l7 ?c7 ?k7 ?a8 ?l8 ?c8 ?k8 ?a9 ?l9 ?c9 ?k9 ?a10 ?l10 ?c10 ?k10 ?a11 ?l11 ?c11 ?k11 ?a12 ?l12 ?c12 ?k12 ?a13 ?l13 ?c13 ?k13 ?a14 ?l14 ?c14 ?k14 ?a15 ?l15 ?c15 ?k15 ?a16 ?l16 ?c16 ?k16 ?a17 ?l17 ?c17 ?k17 ?a18 ?l18 ?c18 ?k18 ?a19 ?l19 ?c19 ?k19 ?a20 ?l20 ?c20 ?k20 ?a21 ?l21 ?c21 ?k21 ?a22 ?l22 ?c22 ?k22 ?a23 ?l23 ?c23 ?k23 ?a24 ?l24 ?c24 ?k24 ?a25 ?l25 ?c25 ?k25 ?a26 ?l26 ?c26 ?k26 ?a27 ?l27 ?c27 ?k27 ?z_len ?z_isinstance ?z_int ?z_bool ?z_str ?z_tuple ?z_list ?z_dict ?z_all ?z_sum ?z_abs ?z_sorted ?z_range ?z_zip
    (case a1 => k_is)
    (case l1 => k_is)
    (case c1 => k_is)
    (case k1 => k_is)
    (case a2 => k_is)
    (case l2 => k_is)
    (case c2 => k_is)
    (case k2 => k_is)
    (case a3 => k_is)
    (case l3 => k_is)
    (case c3 => k_is)
    (case k3 => k_is)
    (case a4 => k_is)
    (case l4 => k_is)
    (case c4 => k_is)
    (case k4 => k_is)
    (case a5 => k_is)
    (case l5 => k_is)
    (case c5 => k_is)
    (case k5 => k_is)
    (case a6 => k_is)
    (case l6 => k_is)
    (case c6 => k_is)
    (case k6 => k_is)
    (case a7 => k_is)
    (case l7 => k_is)
    (case c7 => k_is)
    (case k7 => k_is)
    (case a8 => k_is)
    (case l8 => k_is)
    (case c8 => k_is)
    (case k8 => k_is)
    (case a9 => k_is)
    (case l9 => k_is)
    (case c9 => k_is)
    (case k9 => k_is)
    (case a10 => k_is)
    (case l10 => k_is)
    (case c10 => k_is)
    (case k10 => k_is)
    (case a11 => k_is)
    (case l11 => k_is)
    (case c11 => k_is)
    (case k11 => k_is)
    (case a12 => k_is)
    (case l12 => k_is)
    (case c12 => k_is)
    (case k12 => k_is)
    (case a13 => k_is)
    (case l13 => k_is)
    (case c13 => k_is)
    (case k13 => k_is)
    (case a14 => k_is)
    (case l14 => k_is)
    (case c14 => k_is)
    (case k14 => k_is)
    (case a15 => k_is)
    (case l15 => k_is)
    (case c15 => k_is)
    (case k15 => k_is)
    (case a16 => k_is)
    (case l16 => k_is)
    (case c16 => k_is)
    (case k16 => k_is)
    (case a17 => k_is)
    (case l17 => k_is)
    (case c17 => k_is)
    (case k17 => k_is)
    (case a18 => k_is)
    (case l18 => k_is)
    (case c18 => k_is)
    (case k18 => k_is)
    (case a19 => k_is)
    (case l19 => k_is)
    (case c19 => k_is)
    (case k19 => k_is)
    (case a20 => k_is)
    (case l20 => k_is)
    (case c20 => k_is)
    (case k20 => k_is)
    (case a21 => k_is)
    (case l21 => k_is)
    (case c21 => k_is)
    (case k21 => k_is)
    (case a22 => k_is)
    (case l22 => k_is)
    (case c22 => k_is)
    (case k22 => k_is)
    (case a23 => k_is)
    (case l23 => k_is)
    (case c23 => k_is)
    (case k23 => k_is)
    (case a24 => k_is)
    (case l24 => k_is)
    (case c24 => k_is)
    (case k24 => k_is)
    (case a25 => k_is)
    (case l25 => k_is)
    (case c25 => k_is)
    (case k25 => k_is)
    (case a26 => k_is)
    (case l26 => k_is)
    (case c26 => k_is)
    (case k26 => k_is)
    (case a27 => k_is)
    (case l27 => k_is)
    (case c27 => k_is)
    (case k27 => k_is)
    (case z_len => k_is)
    (case z_isinstance => k_is)
    (case z_int => k_is)
    (case z_bool => k_is)
    (case z_str => k_is)
    (case z_tuple => k_is)
    (case z_list => k_is)
    (case z_dict => k_is)
    (case z_all => k_is)
    (case z_sum => k_is)
    (case z_abs => k_is)
    (case z_sorted => k_is)
    (case z_range => k_is)
    (case z_zip => k_is)
