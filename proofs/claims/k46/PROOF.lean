import PyProof.Rows.All
import Wide.All
import OpenK.AllK
import Wide.FinOn
import HandS.ForMost
import HandS.ForExc
import HandS.Wide
import HandS.Flow
import HandS.Style
import HandS.TryMany
import HandS.IsInst
import HandS.Rev
import HandS.Zip
import HandS.SortInts
import HandS.TupAny
import HandS.TupSets
import PySem.Challenge.RW_turntell_k46_whole_ladders_of_all_rows
set_option Elab.async false
set_option linter.all false
set_option maxRecDepth 100000
set_option maxHeartbeats 4000000
namespace TD
open PySem PySem.Spec PyProof.Rows L2

/-! data: what stands still is a value, what may change is a pointer -/
inductive D where
  | non | bl (b : Bool) | int (i : Int) | str (x : Str) | ty (n : String) | ptr (a : Addr)
  | tup (xs : List D) | lst (xs : List D) | scr (ns : List Int)
instance : Inhabited D := ⟨.non⟩
mutual
def Rp (K : PySem.W.Frag) (F : Hp) : D → V → Prop
  | .non, v => v = .non
  | .bl b, v => v = .bl b
  | .int i, v => v = .int i
  | .str x, v => v = .str x
  | .ty n, v => v = .ty n
  | .ptr a, v => v = .ref a
  | .tup ds, v => ∃ a xs, v = .ref a ∧ SqT K F a xs ∧ Rps K F ds xs
  | .lst ds, v => ∃ a xs, v = .ref a ∧ F a = some (.lst xs) ∧ Rps K F ds xs
  | .scr ns, v => ∃ a, v = .ref a ∧ SqL K F a (ns.map V.int)
def Rps (K : PySem.W.Frag) (F : Hp) : List D → List V → Prop
  | [], xs => xs = []
  | d :: ds, xs => ∃ x r, xs = x :: r ∧ Rp K F d x ∧ Rps K F ds r
end
section
variable {K : PySem.W.Frag} {F F' : Hp}
theorem rp_non {v : V} : Rp K F .non v ↔ v = .non := by rw [Rp]
theorem rp_bl {v : V} {b : Bool} : Rp K F (.bl b) v ↔ v = .bl b := by rw [Rp]
theorem rp_int {v : V} {b : Int} : Rp K F (.int b) v ↔ v = .int b := by rw [Rp]
theorem rp_str {v : V} {b : Str} : Rp K F (.str b) v ↔ v = .str b := by rw [Rp]
theorem rp_ty {v : V} {b : String} : Rp K F (.ty b) v ↔ v = .ty b := by rw [Rp]
theorem rp_ptr {v : V} {b : Addr} : Rp K F (.ptr b) v ↔ v = .ref b := by rw [Rp]
theorem rp_tup {v : V} {ds : List D} : Rp K F (.tup ds) v ↔ ∃ a xs, v = .ref a ∧ SqT K F a xs ∧ Rps K F ds xs := by rw [Rp]
theorem rp_lst {v : V} {ds : List D} : Rp K F (.lst ds) v ↔ ∃ a xs, v = .ref a ∧ F a = some (.lst xs) ∧ Rps K F ds xs := by rw [Rp]
theorem rp_scr {v : V} {ns : List Int} : Rp K F (.scr ns) v ↔ ∃ a, v = .ref a ∧ SqL K F a (ns.map V.int) := by rw [Rp]
theorem rps_nil {vs : List V} : Rps K F [] vs ↔ vs = [] := by rw [Rps]
theorem rps_cons {vs : List V} {d : D} {ds : List D} : Rps K F (d :: ds) vs ↔ ∃ x r, vs = x :: r ∧ Rp K F d x ∧ Rps K F ds r := by rw [Rps]
theorem Same.tup {H H' : Hp} {a : Addr} {xs : List V} (e : Same H H') (h : SqT K H a xs) : SqT K H' a xs := by
  rcases h with (h | ⟨o, h⟩) | h
  · exact .inl (.inl (e _ _ h))
  · exact .inl (.inr ⟨o, e _ _ h⟩)
  · exact .inr h
mutual
theorem Rp.mono (s : Same F F') : ∀ (d : D) (v : V), Rp K F d v → Rp K F' d v
  | .non, _, h => by rw [Rp] at h ⊢; exact h
  | .bl _, _, h => by rw [Rp] at h ⊢; exact h
  | .int _, _, h => by rw [Rp] at h ⊢; exact h
  | .str _, _, h => by rw [Rp] at h ⊢; exact h
  | .ty _, _, h => by rw [Rp] at h ⊢; exact h
  | .ptr _, _, h => by rw [Rp] at h ⊢; exact h
  | .tup ds, _, h => by
    rw [Rp] at h ⊢
    obtain ⟨a, xs, e, t, r⟩ := h
    exact ⟨a, xs, e, Same.tup s t, Rps.mono s ds xs r⟩
  | .lst ds, _, h => by
    rw [Rp] at h ⊢
    obtain ⟨a, xs, e, t, r⟩ := h
    exact ⟨a, xs, e, s _ _ t, Rps.mono s ds xs r⟩
  | .scr ns, _, h => by
    rw [Rp] at h ⊢
    obtain ⟨a, e, t⟩ := h
    exact ⟨a, e, Same.seq s t⟩
theorem Rps.mono (s : Same F F') : ∀ (ds : List D) (xs : List V), Rps K F ds xs → Rps K F' ds xs
  | [], _, h => by rw [Rps] at h ⊢; exact h
  | d :: ds, _, h => by
    rw [Rps] at h ⊢
    obtain ⟨x, r, e, h1, h2⟩ := h
    exact ⟨x, r, e, Rp.mono s d x h1, Rps.mono s ds r h2⟩
end
theorem Rps.nil : Rps K F [] [] := by rw [Rps]
theorem Rps.cons {d : D} {ds : List D} {x : V} {xs : List V} (h : Rp K F d x) (t : Rps K F ds xs) : Rps K F (d :: ds) (x :: xs) := by
  rw [Rps]; exact ⟨x, xs, rfl, h, t⟩
theorem Rps.len : ∀ {ds : List D} {xs : List V}, Rps K F ds xs → ds.length = xs.length
  | [], _, h => by rw [Rps] at h; subst h; rfl
  | d :: ds, _, h => by
    rw [Rps] at h
    obtain ⟨x, r, rfl, _, t⟩ := h
    simp [Rps.len t]
theorem Rps.app : ∀ {ds es : List D} {xs ys : List V}, Rps K F ds xs → Rps K F es ys → Rps K F (ds ++ es) (xs ++ ys)
  | [], _, _, _, h, t => by rw [Rps] at h; subst h; exact t
  | d :: ds, _, _, _, h, t => by
    rw [Rps] at h
    obtain ⟨x, r, rfl, h1, h2⟩ := h
    exact Rps.cons h1 (Rps.app h2 t)
theorem Rps.get : ∀ {ds : List D} {xs : List V} {i : Nat} {d : D}, Rps K F ds xs → ds[i]? = some d → ∃ x, xs[i]? = some x ∧ Rp K F d x
  | [], _, _, _, _, e => by simp at e
  | d :: ds, _, i, d', h, e => by
    rw [Rps] at h
    obtain ⟨x, r, rfl, h1, h2⟩ := h
    cases i with
    | zero => simp at e; subst e; exact ⟨x, by simp, h1⟩
    | succ i =>
      simp at e
      obtain ⟨y, h3, h4⟩ := Rps.get h2 e
      exact ⟨y, by simpa using h3, h4⟩
theorem Rps.set {d : D} {x : V} (hx : Rp K F d x) : ∀ {ds : List D} {xs : List V} (i : Nat), Rps K F ds xs → Rps K F (ds.set i d) (xs.set i x)
  | [], _, _, h => by rw [Rps] at h; subst h; simp; exact Rps.nil
  | c :: ds, _, i, h => by
    rw [Rps] at h
    obtain ⟨y, r, rfl, h1, h2⟩ := h
    cases i with
    | zero => exact Rps.cons hx h2
    | succ i => exact Rps.cons h1 (Rps.set hx i h2)
theorem Rps.drop : ∀ {ds : List D} {xs : List V} (i : Nat), Rps K F ds xs → Rps K F (ds.drop i) (xs.drop i)
  | _, _, 0, h => h
  | [], _, _ + 1, h => by rw [Rps] at h; subst h; simp; exact Rps.nil
  | c :: ds, _, i + 1, h => by
    rw [Rps] at h
    obtain ⟨y, r, rfl, h1, h2⟩ := h
    exact Rps.drop i h2
theorem Rps.take : ∀ {ds : List D} {xs : List V} (i : Nat), Rps K F ds xs → Rps K F (ds.take i) (xs.take i)
  | _, _, 0, h => by simp; exact Rps.nil
  | [], _, _ + 1, h => by rw [Rps] at h; subst h; simp; exact Rps.nil
  | c :: ds, _, i + 1, h => by
    rw [Rps] at h
    obtain ⟨y, r, rfl, h1, h2⟩ := h
    exact Rps.cons h1 (Rps.take i h2)
theorem Rps.rev : ∀ {ds : List D} {xs : List V}, Rps K F ds xs → Rps K F ds.reverse xs.reverse
  | [], _, h => by rw [Rps] at h; subst h; exact Rps.nil
  | c :: ds, _, h => by
    rw [Rps] at h
    obtain ⟨y, r, rfl, h1, h2⟩ := h
    rw [List.reverse_cons, List.reverse_cons]
    exact Rps.app (Rps.rev h2) (Rps.cons h1 Rps.nil)
theorem Rps.ints : ∀ (ns : List Int), Rps K F (ns.map D.int) (ns.map V.int)
  | [] => Rps.nil
  | n :: ns => Rps.cons (by rw [Rp]) (Rps.ints ns)
theorem Rps.ints_of : ∀ {ns : List Int} {xs : List V}, Rps K F (ns.map D.int) xs → xs = ns.map V.int
  | [], _, h => by rw [List.map_nil, Rps] at h; exact h
  | n :: ns, _, h => by
    rw [List.map_cons, Rps] at h
    obtain ⟨y, r, rfl, h1, h2⟩ := h
    rw [Rp] at h1
    rw [h1, Rps.ints_of h2]; rfl
theorem Rps.bls_of : ∀ {ns : List Bool} {xs : List V}, Rps K F (ns.map D.bl) xs → xs = ns.map V.bl
  | [], _, h => by rw [List.map_nil, Rps] at h; exact h
  | n :: ns, _, h => by
    rw [List.map_cons, Rps] at h
    obtain ⟨y, r, rfl, h1, h2⟩ := h
    rw [Rp] at h1
    rw [h1, Rps.bls_of h2]; rfl
end

/-! what may change -/
inductive MO where
  | lst (xs : List D) | ins (C dx : Addr) (fs : List (Str × D)) | dic (kvs : List (Key × D))
def RpF (K : PySem.W.Frag) (F : Hp) : List (Str × D) → List (Str × V) → Prop := Paired fun p q => p.1 = q.1 ∧ Rp K F p.2 q.2
def RpK (K : PySem.W.Frag) (F : Hp) : List (Key × D) → List (Key × V) → Prop := Paired fun p q => p.1 = q.1 ∧ Rp K F p.2 q.2
def Rm (K : PySem.W.Frag) (F : Hp) : MO → HO → Prop
  | .lst ds, o => ∃ xs, o = .lst xs ∧ Rps K F ds xs
  | .ins C dx fs, o => ∃ gs, o = .ins C dx gs ∧ RpF K F fs gs
  | .dic kvs, o => ∃ gs, o = .dK gs ∧ RpK K F kvs gs
abbrev Mu := List (Addr × MO)
abbrev Dl := List (Option D)
theorem Rm.mono {K : PySem.W.Frag} {F F' : Hp} (s : Same F F') : ∀ {m : MO} {o : HO}, Rm K F m o → Rm K F' m o
  | .lst ds, _, ⟨xs, e, r⟩ => ⟨xs, e, Rps.mono s _ _ r⟩
  | .ins C dx fs, _, ⟨gs, e, r⟩ => ⟨gs, e, Paired.mapP r fun p q z => ⟨z.1, Rp.mono s _ _ z.2⟩⟩
  | .dic kvs, _, ⟨gs, e, r⟩ => ⟨gs, e, Paired.mapP r fun p q z => ⟨z.1, Rp.mono s _ _ z.2⟩⟩

structure SRh (K : PySem.W.Frag) (F : Hp) (M : Mu) (H : Hp) : Prop where
  sub : Same F H
  mu : ∀ x ∈ M, F x.1 = none ∧ ∃ o, H x.1 = some o ∧ Rm K F x.2 o
  nd : (M.map (·.1)).Nodup
structure SRs (K : PySem.W.Frag) (F : Hp) (δ : Dl) (σ : L2.St) : Prop where
  len : δ.length = σ.length
  sl : ∀ (i : Nat) (d : D), δ[i]? = some (some d) → ∃ v, σ[i]? = some (some v) ∧ Rp K F d v
theorem SRs.mono {K : PySem.W.Frag} {F F' : Hp} {δ : Dl} {σ : L2.St} (s : Same F F') (h : SRs K F δ σ) : SRs K F' δ σ := ⟨h.len, fun i d e =>
  let ⟨v, h1, h2⟩ := h.sl i d e
  ⟨v, h1, Rp.mono s d v h2⟩⟩
theorem SRs.set {K : PySem.W.Frag} {F : Hp} {δ : Dl} {σ : L2.St} {d : D} {v : V} (h : SRs K F δ σ) (r : Rp K F d v) (i : Nat) : SRs K F (δ.set i (some d)) (σ.set i (some v)) := ⟨by simp [h.len], fun j e q => by
  have hl := h.len
  by_cases hj : i = j
  · subst hj
    by_cases hi : i < δ.length
    · rw [List.getElem?_set_self hi] at q
      cases q
      exact ⟨v, by rw [List.getElem?_set_self (by omega)], r⟩
    · rw [List.getElem?_eq_none (by simp; omega)] at q; cases q
  · rw [List.getElem?_set_ne hj] at q ⊢
    exact h.sl j e q⟩
theorem SRs.forget {K : PySem.W.Frag} {F : Hp} {δ : Dl} {σ : L2.St} (h : SRs K F δ σ) (i : Nat) : SRs K F (δ.set i none) σ := ⟨by simp [h.len], fun j e q => by
  by_cases hj : i = j
  · subst hj
    by_cases hi : i < δ.length
    · rw [List.getElem?_set_self hi] at q; cases q
    · rw [List.getElem?_eq_none (by simp; omega)] at q; cases q
  · rw [List.getElem?_set_ne hj] at q
    exact h.sl j e q⟩
/-- from one state to a later one: the frozen part grows, what is not ours stays, ours stays ours or is new -/
structure Stp (K : PySem.W.Frag) (F : Hp) (M : Mu) (H : Hp) (F' : Hp) (M' : Mu) (H' : Hp) : Prop where
  fr : Same F F'
  ok : SRh K F' M' H'
  kp : ∀ a o, H a = some o → (∀ x ∈ M, x.1 ≠ a) → H' a = some o
  nw : ∀ x ∈ M', (∃ y ∈ M, y.1 = x.1) ∨ H x.1 = none
  th : ∀ a o, H a = some o → ∃ o', H' a = some o'
  fz : ∀ a o, F' a = some o → F a = some o ∨ (∃ x ∈ M, x.1 = a) ∨ H a = none
section
variable {K : PySem.W.Frag} {F F1 F2 : Hp} {M M1 M2 : Mu} {H H1 H2 : Hp}
theorem Stp.refl (h : SRh K F M H) : Stp K F M H F M H := ⟨Same.refl _, h, fun _ _ e _ => e, fun x hx => .inl ⟨x, hx, rfl⟩, fun _ o e => ⟨o, e⟩, fun _ _ e => .inl e⟩
theorem Stp.trans (a : Stp K F M H F1 M1 H1) (b : Stp K F1 M1 H1 F2 M2 H2) : Stp K F M H F2 M2 H2 where
  fr := a.fr.trans b.fr
  ok := b.ok
  kp := fun c o e n => b.kp c o (a.kp c o e n) fun x hx z => by
    rcases a.nw x hx with ⟨y, hy, q⟩ | q
    · exact n y hy (q.trans z)
    · rw [z, e] at q; cases q
  nw := fun x hx => by
    rcases b.nw x hx with ⟨y, hy, q⟩ | q
    · rcases a.nw y hy with ⟨z, hz, q'⟩ | q'
      · exact .inl ⟨z, hz, q'.trans q⟩
      · exact .inr (by rw [← q]; exact q')
    · refine Classical.byCases (p := ∃ y ∈ M, y.1 = x.1) .inl fun hn => .inr ?_
      cases e : H x.1 with
      | none => rfl
      | some o =>
        have := a.kp x.1 o e fun y hy z => hn ⟨y, hy, z⟩
        rw [this] at q; cases q
  th := fun c o e => let ⟨o1, e1⟩ := a.th c o e; b.th c o1 e1
  fz := fun c o e => by
    rcases b.fz c o e with q | ⟨x, hx, q⟩ | q
    · exact a.fz c o q
    · rcases a.nw x hx with ⟨y, hy, z⟩ | z
      · exact .inr (.inl ⟨y, hy, z.trans q⟩)
      · exact .inr (.inr (by rw [← q]; exact z))
    · refine .inr (.inr ?_)
      cases r : H c with
      | none => rfl
      | some u =>
        obtain ⟨o', z⟩ := a.th c u r
        rw [z] at q; cases q
theorem SRh.freeOf (h : SRh K F M H) {p : Addr} (hp : H p = none) : F p = none := h.sub.free hp
theorem SRh.notMem (h : SRh K F M H) {p : Addr} (hp : H p = none) : ∀ x ∈ M, x.1 ≠ p := fun x hx z => by
  obtain ⟨_, o, e, _⟩ := h.mu x hx
  rw [z, hp] at e; cases e
theorem same_upd {F : Hp} {p : Addr} {o : HO} (hp : F p = none) : Same F (upd F p o) := fun b u e => by rw [upd_ne (ne_of_none e hp)]; exact e
/-- a new frozen object -/
theorem Stp.frozen {p : Addr} {o : HO} (h : SRh K F M H) (hp : H p = none) : Stp K F M H (upd F p o) M (upd H p o) := by
  have hF := h.freeOf hp
  refine ⟨same_upd hF, ⟨fun b u e => ?_, fun x hx => ?_, h.nd⟩, fun b u e _ => same_upd hp b u e, fun x hx => .inl ⟨x, hx, rfl⟩, fun b u e => ⟨u, same_upd hp b u e⟩, fun b u e => ?_⟩
  · by_cases hb : b = p
    · subst hb; rw [upd_same] at e ⊢; exact e
    · rw [upd_ne hb] at e ⊢; exact h.sub b u e
  · have ne := h.notMem hp x hx
    obtain ⟨a, o', e, r⟩ := h.mu x hx
    exact ⟨by rw [upd_ne ne]; exact a, o', by rw [upd_ne ne]; exact e, r.mono (same_upd hF)⟩
  · by_cases hb : b = p
    · exact .inr (.inr (by rw [hb]; exact hp))
    · rw [upd_ne hb] at e; exact .inl e
/-- a new object of ours -/
theorem Stp.own {p : Addr} {o : HO} {m : MO} (h : SRh K F M H) (hp : H p = none) (r : Rm K F m o) : Stp K F M H F ((p, m) :: M) (upd H p o) := by
  refine ⟨Same.refl _, ⟨fun b u e => same_upd hp b u (h.sub b u e), fun x hx => ?_, ?_⟩, fun b u e _ => same_upd hp b u e, fun x hx => ?_, fun b u e => ⟨u, same_upd hp b u e⟩, fun _ _ e => .inl e⟩
  · rcases List.mem_cons.mp hx with rfl | hx
    · exact ⟨h.freeOf hp, o, upd_same, r⟩
    · obtain ⟨a, o', e, r'⟩ := h.mu x hx
      exact ⟨a, o', by rw [upd_ne (h.notMem hp x hx)]; exact e, r'⟩
  · rw [List.map_cons, List.nodup_cons]
    refine ⟨fun z => ?_, h.nd⟩
    obtain ⟨y, hy, e⟩ := List.mem_map.mp z
    exact h.notMem hp y hy e
  · rcases List.mem_cons.mp hx with rfl | hx
    · exact .inr hp
    · exact .inl ⟨x, hx, rfl⟩
theorem nodup_ixA {l : List (Addr × MO)} (nd : (l.map (·.1)).Nodup) {i j : Nat} {x y : Addr × MO} (a : l[i]? = some x) (b : l[j]? = some y) (e : x.1 = y.1) : i = j := by
  have h1 : (l.map (·.1))[i]? = some x.1 := by rw [List.getElem?_map, a]; rfl
  have h2 : (l.map (·.1))[j]? = some x.1 := by rw [List.getElem?_map, b, e]; rfl
  exact nd_ix nd h1 h2
/-- one of ours is changed -/
theorem Stp.write {k : Nat} {p : Addr} {m m' : MO} {o' : HO} (h : SRh K F M H) (hk : M[k]? = some (p, m)) (r : Rm K F m' o') : Stp K F M H F (M.set k (p, m')) (upd H p o') := by
  have hm : (p, m) ∈ M := List.mem_of_getElem? hk
  obtain ⟨hF, o, hH, _⟩ := h.mu _ hm
  have hlt : k < M.length := by
    rcases Nat.lt_or_ge k M.length with z | z
    · exact z
    · rw [List.getElem?_eq_none z] at hk; cases hk
  have keys : (M.set k (p, m')).map (·.1) = M.map (·.1) := by
    rw [List.map_set]
    apply List.ext_getElem?
    intro j
    by_cases hj : k = j
    · subst hj
      rw [List.getElem?_set_self (by simpa using hlt), List.getElem?_map, hk]; rfl
    · rw [List.getElem?_set_ne hj]
  refine ⟨Same.refl _, ⟨fun b u e => ?_, fun x hx => ?_, by rw [keys]; exact h.nd⟩, fun b u e n => ?_, fun x hx => ?_, fun b u e => ?_, fun _ _ e => .inl e⟩
  · have hb : b ≠ p := fun z => by rw [z, hF] at e; cases e
    rw [upd_ne hb]; exact h.sub b u e
  · obtain ⟨j, hj⟩ := List.mem_iff_getElem?.mp hx
    by_cases hkj : k = j
    · subst hkj
      rw [List.getElem?_set_self hlt] at hj
      cases hj
      exact ⟨hF, o', upd_same, r⟩
    · rw [List.getElem?_set_ne hkj] at hj
      obtain ⟨a, u, e, r'⟩ := h.mu x (List.mem_of_getElem? hj)
      have hb : x.1 ≠ p := fun z => hkj (nodup_ixA h.nd hk hj z.symm)
      exact ⟨a, u, by rw [upd_ne hb]; exact e, r'⟩
  · have hb : b ≠ p := fun z => n _ hm z.symm
    rw [upd_ne hb]; exact e
  · have : x.1 ∈ (M.set k (p, m')).map (·.1) := List.mem_map.mpr ⟨x, hx, rfl⟩
    rw [keys] at this
    obtain ⟨y, hy, e⟩ := List.mem_map.mp this
    exact .inl ⟨y, hy, e⟩
  · by_cases hb : b = p
    · subst hb; exact ⟨_, upd_same⟩
    · exact ⟨u, by rw [upd_ne hb]; exact e⟩
/-- some of ours are dropped, the order is ours -/
theorem Stp.drop (h : SRh K F M H) (hs : ∀ x ∈ M1, x ∈ M) (nd : (M1.map (·.1)).Nodup) : Stp K F M H F M1 H :=
  ⟨Same.refl _, ⟨h.sub, fun x hx => h.mu x (hs x hx), nd⟩, fun _ _ e _ => e, fun x hx => .inl ⟨x, hs x hx, rfl⟩, fun _ o e => ⟨o, e⟩, fun _ _ e => .inl e⟩
theorem Stp.sub (h : SRh K F M H) (hs : M1.Sublist M) : Stp K F M H F M1 H := Stp.drop h (fun x hx => hs.subset hx) ((hs.map (·.1)).nodup h.nd)
theorem map_eraseIdx {α β : Type} (f : α → β) : ∀ (l : List α) (i : Nat), (l.eraseIdx i).map f = (l.map f).eraseIdx i
  | [], _ => rfl
  | _ :: _, 0 => rfl
  | a :: l, i + 1 => by simp [map_eraseIdx f l i]
/-- one of ours is frozen: a list -/
theorem Stp.freeze {k : Nat} {p : Addr} {ds : List D} (h : SRh K F M H) (hk : M[k]? = some (p, .lst ds)) : ∃ F', Stp K F M H F' (M.eraseIdx k) H ∧ Rp K F' (.lst ds) (.ref p) := by
  obtain ⟨hF, o, hH, xs, rfl, r⟩ := h.mu _ (List.mem_of_getElem? hk)
  have sF : Same F (upd F p (.lst xs)) := same_upd hF
  refine ⟨upd F p (.lst xs), ⟨sF, ⟨fun b u e => ?_, fun x hx => ?_, ?_⟩, fun _ _ e _ => e, fun x hx => .inl ⟨x, List.mem_of_mem_eraseIdx hx, rfl⟩, fun _ o e => ⟨o, e⟩, fun b u e => ?_⟩, ?_⟩
  · by_cases hb : b = p
    · subst hb; rw [upd_same] at e; cases e; exact hH
    · rw [upd_ne hb] at e; exact h.sub b u e
  · obtain ⟨a, u, e, r'⟩ := h.mu x (List.mem_of_mem_eraseIdx hx)
    have hb : x.1 ≠ p := fun z => by
      obtain ⟨j, hj⟩ := List.mem_iff_getElem?.mp hx
      by_cases hlt : j < k
      · rw [List.getElem?_eraseIdx_of_lt hlt] at hj
        exact absurd (nodup_ixA h.nd hk hj z.symm) (by omega)
      · rw [List.getElem?_eraseIdx_of_ge (by omega)] at hj
        exact absurd (nodup_ixA h.nd hk hj z.symm) (by omega)
    exact ⟨by rw [upd_ne hb]; exact a, u, e, r'.mono sF⟩
  · rw [map_eraseIdx]; exact h.nd.eraseIdx k
  · by_cases hb : b = p
    · exact .inr (.inl ⟨_, List.mem_of_getElem? hk, hb.symm⟩)
    · rw [upd_ne hb] at e; exact .inl e
  · rw [Rp]; exact ⟨p, xs, rfl, upd_same, Rps.mono sF _ _ r⟩
/-- an object that is none of ours and not frozen, newer than the first state, is changed -/
theorem Stp.hid {p : Addr} {o : HO} (s : Stp K F M H F1 M1 H1) (hp : H p = none) (n : ∀ x ∈ M1, x.1 ≠ p) (f : F1 p = none) : Stp K F M H F1 M1 (upd H1 p o) where
  fr := s.fr
  ok := ⟨fun b u e => by
      have hb : b ≠ p := fun z => by rw [z, f] at e; cases e
      rw [upd_ne hb]; exact s.ok.sub b u e, fun x hx => by
      obtain ⟨a, u, e, r⟩ := s.ok.mu x hx
      exact ⟨a, u, by rw [upd_ne (n x hx)]; exact e, r⟩, s.ok.nd⟩
  kp := fun a u e z => by
    have hb : a ≠ p := fun z => by rw [z, hp] at e; cases e
    rw [upd_ne hb]; exact s.kp a u e z
  nw := s.nw
  th := fun a u e => by
    have hb : a ≠ p := fun z => by rw [z, hp] at e; cases e
    rw [upd_ne hb]; exact s.th a u e
  fz := s.fz
/-- .. is frozen -/
theorem Stp.seal {p : Addr} {o : HO} (s : Stp K F M H F1 M1 H1) (hp : H p = none) (e : H1 p = some o) (n : ∀ x ∈ M1, x.1 ≠ p) (f : F1 p = none) : Stp K F M H (upd F1 p o) M1 H1 where
  fr := s.fr.trans (same_upd f)
  ok := ⟨fun b u q => by
      by_cases hb : b = p
      · subst hb; rw [upd_same] at q; cases q; exact e
      · rw [upd_ne hb] at q; exact s.ok.sub b u q, fun x hx => by
      obtain ⟨a, u, q, r⟩ := s.ok.mu x hx
      exact ⟨by rw [upd_ne (n x hx)]; exact a, u, q, r.mono (same_upd f)⟩, s.ok.nd⟩
  kp := s.kp
  nw := s.nw
  th := s.th
  fz := fun b u q => by
    by_cases hb : b = p
    · exact .inr (.inr (by rw [hb]; exact hp))
    · rw [upd_ne hb] at q; exact s.fz b u q
/-- .. is made ours -/
theorem Stp.take {p : Addr} {o : HO} {m : MO} (s : Stp K F M H F1 M1 H1) (hp : H p = none) (e : H1 p = some o) (n : ∀ x ∈ M1, x.1 ≠ p) (f : F1 p = none) (r : Rm K F1 m o) : Stp K F M H F1 ((p, m) :: M1) H1 where
  fr := s.fr
  ok := ⟨s.ok.sub, fun x hx => by
      rcases List.mem_cons.mp hx with rfl | hx
      · exact ⟨f, o, e, r⟩
      · exact s.ok.mu x hx, by
      rw [List.map_cons, List.nodup_cons]
      refine ⟨fun z => ?_, s.ok.nd⟩
      obtain ⟨y, hy, q⟩ := List.mem_map.mp z
      exact n y hy q⟩
  kp := s.kp
  nw := fun x hx => by
    rcases List.mem_cons.mp hx with rfl | hx
    · exact .inr hp
    · exact s.nw x hx
  th := s.th
  fz := s.fz
end
end TD

namespace TD
open PySem PySem.Spec PyProof.Rows L2

structure Bs where
  F : Hp
  M : Mu
  H : Hp
abbrev Fld := Option (Str × D)
abbrev WDt := Value → Fld → Dl → Mu → Prop
structure Cc where
  X : Cx
  B : Bs
  W : WDt
  lv : Nat
def XR (K : PySem.W.Frag) (F H : Hp) : Option Addr → Fld → Prop
  | none, none => True
  | some d, some (f, x) => ∃ v, H d = some (.xd [(f, v)]) ∧ Rp K F x v
  | _, _ => False
def Cc.At (Y : Cc) (F : Hp) (M : Mu) (H : Hp) : Prop := Stp Y.X.K Y.B.F Y.B.M Y.B.H F M H
def Cc.wx (Y : Cc) : WX := fun cls d σ H => ∃ F M δ fl, Y.At F M H ∧ SRs Y.X.K F δ σ ∧ XR Y.X.K F H d fl ∧ Y.W cls fl δ M
class COk (Y : Cc) : Prop where
  calm : Y.X.calm = true
  nd : Y.X.N.Nodup
  tk : Takes Y.X Y.wx
  rm : Room Y.lv Y.X.A
class CPo (Y : Cc) : Prop where
  po : PassesOwn (model Y.X.prog Y.X.w) Y.X.A Y.X.env Y.X.xe

section
variable {Y : Cc} {K : PySem.W.Frag} {F F1 : Hp} {M M1 : Mu} {H H1 : Hp} {δ : Dl}
theorem Cc.At.ok {Y : Cc} (h : Y.At F M H) : SRh Y.X.K F M H := Stp.ok h
theorem Cc.At.go {Y : Cc} (h : Y.At F M H) (s : Stp Y.X.K F M H F1 M1 H1) : Y.At F1 M1 H1 := Stp.trans h s

def Out (K : PySem.W.Frag) (F : Hp) (M : Mu) (H : Hp) (Q : D → Mu → Prop) (R : VK) : Prop := ∀ v H' d M' F', Stp K F M H F' M' H' → Rp K F' d v → Q d M' → R v H'
def OutA (K : PySem.W.Frag) (F : Hp) (M : Mu) (H : Hp) (Q : List D → Mu → Prop) (R : List V → Hp → Prop) : Prop := ∀ v H' d M' F', Stp K F M H F' M' H' → Rps K F' d v → Q d M' → R v H'
def OutT (K : PySem.W.Frag) (F : Hp) (M : Mu) (H : Hp) (Q : Bool → Mu → Prop) (R : Bool → Hp → Prop) : Prop := ∀ b H' M' F', Stp K F M H F' M' H' → Q b M' → R b H'
theorem Out.here {Q : D → Mu → Prop} {R : VK} {v : V} {d : D} (o : Out K F M H Q R) (h : SRh K F M H) (r : Rp K F d v) (q : Q d M) : R v H := o _ _ _ _ _ (Stp.refl h) r q
theorem Out.step {Q : D → Mu → Prop} {R : VK} (o : Out K F M H Q R) (s : Stp K F M H F1 M1 H1) : Out K F1 M1 H1 Q R := fun v H' d M' F' t r q => o v H' d M' F' (s.trans t) r q

def tW (X : Cx) (e : Expr) : TE := fun σ H R => ∀ (pins : List (Addr × Obj)) (s : Shared), Inv X pins σ H s → wpAny (model X.prog X.w) X.A (eval e X.env) (EP X pins σ R) X.xe s
def tWt (X : Cx) (e : Expr) : TT := fun σ H R => ∀ (pins : List (Addr × Obj)) (s : Shared), Inv X pins σ H s → wpAny (model X.prog X.w) X.A (isTrue e X.env (eval e X.env)) (TP X pins σ R) X.xe s
def tWw (X : Cx) (e : Expr) : TT := fun σ H R => ∀ (whole : Sem Value) (pins : List (Addr × Obj)) (s : Shared), Inv X pins σ H s → wpAny (model X.prog X.w) X.A (isTrue e X.env whole) (TP X pins σ R) X.xe s
def tWa (X : Cx) (es : List Expr) : TA := fun σ H R => ∀ (pos : Pos) (pins : List (Addr × Obj)) (s : Shared), Inv X pins σ H s → wpAny (model X.prog X.w) X.A (spliced (backTo pos (starEach es X.env))) (AP X pins σ R) X.xe s
theorem pe_tW (X : Cx) (e : Expr) : PE X e (tW X e) := ⟨fun pins s _ _ _ I h => h pins s I⟩
theorem pt_tW (X : Cx) (e : Expr) : PT X e (tWt X e) := ⟨fun pins s _ _ _ I h => h pins s I⟩
theorem pw_tW (X : Cx) (e : Expr) : PW X e (tWw X e) := ⟨fun wh pins s _ _ _ I h => h wh pins s I⟩
theorem pa_tW (X : Cx) (es : List Expr) : PA X es (tWa X es) := ⟨fun pos pins s _ _ _ I h => h pos pins s I⟩
/-- from a rule's reading to the value's wish -/
theorem tW_of {X : Cx} {e : Expr} {t : TE} (p : PE X e t) {σ : L2.St} {R : VK} (h : t σ H R) : tW X e σ H R := fun pins s I => p.run pins s σ H R I h
theorem tWt_of {X : Cx} {e : Expr} {t : TT} (p : PT X e t) {σ : L2.St} {R : Bool → Hp → Prop} (h : t σ H R) : tWt X e σ H R := fun pins s I => p.run pins s σ H R I h
theorem tWw_of {X : Cx} {e : Expr} {t : TT} (p : PW X e t) {σ : L2.St} {R : Bool → Hp → Prop} (h : t σ H R) : tWw X e σ H R := fun wh pins s I => p.run wh pins s σ H R I h
theorem tWa_of {X : Cx} {e : List Expr} {t : TA} (p : PA X e t) {σ : L2.St} {R : List V → Hp → Prop} (h : t σ H R) : tWa X e σ H R := fun pos pins s I => p.run pos pins s σ H R I h

def Ev (Y : Cc) (δ : Dl) (M : Mu) (e : Expr) (Q : D → Mu → Prop) : Prop := ∀ (σ : L2.St) (H F : Hp) (R : VK), Y.At F M H → SRs Y.X.K F δ σ → Out Y.X.K F M H Q R → tW Y.X e σ H R
def Et (Y : Cc) (δ : Dl) (M : Mu) (e : Expr) (Q : Bool → Mu → Prop) : Prop := ∀ (σ : L2.St) (H F : Hp) (R : Bool → Hp → Prop), Y.At F M H → SRs Y.X.K F δ σ → OutT Y.X.K F M H Q R → tWt Y.X e σ H R
def Ew (Y : Cc) (δ : Dl) (M : Mu) (e : Expr) (Q : Bool → Mu → Prop) : Prop := ∀ (σ : L2.St) (H F : Hp) (R : Bool → Hp → Prop), Y.At F M H → SRs Y.X.K F δ σ → OutT Y.X.K F M H Q R → tWw Y.X e σ H R
def Ea (Y : Cc) (δ : Dl) (M : Mu) (es : List Expr) (Q : List D → Mu → Prop) : Prop := ∀ (σ : L2.St) (H F : Hp) (R : List V → Hp → Prop), Y.At F M H → SRs Y.X.K F δ σ → OutA Y.X.K F M H Q R → tWa Y.X es σ H R

/-! ### what one operation does to data -/
def rW (X : Cx) (f : Value → Value → Sem Value) : R2 := fun x y H R => ∀ (pins : List (Addr × Obj)) (s : Shared) (σ : L2.St) (v u : Value), Inv X pins σ H s → RelV x v → RelV y u → wpAny (model X.prog X.w) X.A (f v u) (EP X pins σ R) X.xe s
theorem or_rW (X : Cx) (f : Value → Value → Sem Value) : OpR X f (rW X f) := fun pins s σ H x y v u Q I rx ry h => h pins s σ v u I rx ry
def Op2 (Y : Cc) (f : Value → Value → Sem Value) (x y : D) (M : Mu) (Q : D → Mu → Prop) : Prop := ∀ (H F : Hp) (vx vy : V) (R : VK), Y.At F M H → Rp Y.X.K F x vx → Rp Y.X.K F y vy → Out Y.X.K F M H Q R → rW Y.X f vx vy H R
theorem Op2.of {f : Value → Value → Sem Value} {r : R2} {x y : D} {Q : D → Mu → Prop} (h : OpR Y.X f r)
    (g : ∀ (H F : Hp) (vx vy : V) (R : VK), SRh Y.X.K F M H → Rp Y.X.K F x vx → Rp Y.X.K F y vy → Out Y.X.K F M H Q R → r vx vy H R) : Op2 Y f x y M Q :=
  fun H F vx vy R a rx ry o pins s σ v u I r1 r2 => h pins s σ H vx vy v u R I r1 r2 (g H F vx vy R a.ok rx ry o)
def uW (X : Cx) (f : Value → Sem Value) : V → Hp → VK → Prop := fun x H R => ∀ (pins : List (Addr × Obj)) (s : Shared) (σ : L2.St) (v : Value), Inv X pins σ H s → RelV x v → wpAny (model X.prog X.w) X.A (f v) (EP X pins σ R) X.xe s
theorem or_uW (X : Cx) (f : Value → Sem Value) : UnR X f (uW X f) := fun pins s σ H x v Q I rx h => h pins s σ v I rx
def Op1 (Y : Cc) (f : Value → Sem Value) (x : D) (M : Mu) (Q : D → Mu → Prop) : Prop := ∀ (H F : Hp) (vx : V) (R : VK), Y.At F M H → Rp Y.X.K F x vx → Out Y.X.K F M H Q R → uW Y.X f vx H R
theorem Op1.of {f : Value → Sem Value} {r : V → Hp → VK → Prop} {x : D} {Q : D → Mu → Prop} (h : UnR Y.X f r)
    (g : ∀ (H F : Hp) (vx : V) (R : VK), SRh Y.X.K F M H → Rp Y.X.K F x vx → Out Y.X.K F M H Q R → r vx H R) : Op1 Y f x M Q :=
  fun H F vx R a rx o pins s σ v I r1 => h pins s σ H vx v R I r1 (g H F vx R a.ok rx o)
/-- a call of a builtin by data -/
def cW (X : Cx) (f : Value) : List V → Hp → VK → Prop := fun xs H R => ∀ (pins : List (Addr × Obj)) (s : Shared) (σ : L2.St) (us : List Value), Inv X pins σ H s → Vals xs us → wpAny (model X.prog X.w) X.A (call f us) (EP X pins σ R) X.xe s
theorem or_cW (X : Cx) (f : Value) : CallR X f (cW X f) := fun pins s σ H xs us Q I rx h => h pins s σ us I rx
def OpC (Y : Cc) (f : Value) (xs : List D) (M : Mu) (Q : D → Mu → Prop) : Prop := ∀ (H F : Hp) (vs : List V) (R : VK), Y.At F M H → Rps Y.X.K F xs vs → Out Y.X.K F M H Q R → cW Y.X f vs H R
theorem OpC.of {f : Value} {r : List V → Hp → VK → Prop} {xs : List D} {Q : D → Mu → Prop} (h : CallR Y.X f r)
    (g : ∀ (H F : Hp) (vs : List V) (R : VK), SRh Y.X.K F M H → Rps Y.X.K F xs vs → Out Y.X.K F M H Q R → r vs H R) : OpC Y f xs M Q :=
  fun H F vs R a rx o pins s σ us I r1 => h pins s σ H vs us R I r1 (g H F vs R a.ok rx o)
/-- a method of a builtin type by data -/
def mW (X : Cx) (id : String) : V → List V → Hp → VK → Prop := fun x xs H R => ∀ (pins : List (Addr × Obj)) (s : Shared) (σ : L2.St) (v : Value) (us : List Value), Inv X pins σ H s → RelV x v → Vals xs us → wpAny (model X.prog X.w) X.A (call (.builtin id) (v :: us)) (EP X pins σ R) X.xe s
theorem or_mW (X : Cx) (id : String) : MtR X id (mW X id) := fun pins s σ H x xs v us Q I rx rs h => h pins s σ v us I rx rs
def OpM (Y : Cc) (T id : String) (x : D) (xs : List D) (M : Mu) (Q : D → Mu → Prop) : Prop := ∀ (H F : Hp) (vx : V) (vs : List V) (R : VK), Y.At F M H → Rp Y.X.K F x vx → Rps Y.X.K F xs vs → Out Y.X.K F M H Q R → mW Y.X id vx vs H R
theorem OpM.of {T id : String} {r : V → List V → Hp → VK → Prop} {x : D} {xs : List D} {Q : D → Mu → Prop} (h : MtR Y.X id r)
    (g : ∀ (H F : Hp) (vx : V) (vs : List V) (R : VK), SRh Y.X.K F M H → Rp Y.X.K F x vx → Rps Y.X.K F xs vs → Out Y.X.K F M H Q R → r vx vs H R) : OpM Y T id x xs M Q :=
  fun H F vx vs R a rx rs o pins s σ v us I r1 r2 => h pins s σ H vx vs v us R I r1 r2 (g H F vx vs R a.ok rx rs o)
/-- a subscript by data -/
def xW (X : Cx) : R2 := fun x y H R => ∀ (value slice : Expr) (pins : List (Addr × Obj)) (s : Shared) (σ : L2.St) (v u : Value), Inv X pins σ H s → RelV x v → RelV y u →
  subscripted slice false v u = operate [v, u] (getItem v u) → wpAny (model X.prog X.w) X.A (subscriptTail value slice v u) (EP X pins σ R) X.xe s
theorem or_xW (X : Cx) : IxR X (xW X) := fun value slice pins s σ H x y v u Q I rx ry h hs => h value slice pins s σ v u I rx ry hs
def OpX (Y : Cc) (x y : D) (M : Mu) (Q : D → Mu → Prop) : Prop := ∀ (H F : Hp) (vx vy : V) (R : VK), Y.At F M H → Rp Y.X.K F x vx → Rp Y.X.K F y vy → Out Y.X.K F M H Q R → xW Y.X vx vy H R
theorem OpX.of {r : R2} {x y : D} {Q : D → Mu → Prop} (h : IxR Y.X r)
    (g : ∀ (H F : Hp) (vx vy : V) (R : VK), SRh Y.X.K F M H → Rp Y.X.K F x vx → Rp Y.X.K F y vy → Out Y.X.K F M H Q R → r vx vy H R) : OpX Y x y M Q :=
  fun H F vx vy R a rx ry o value slice pins s σ v u I r1 r2 hs => h value slice pins s σ H vx vy v u R I r1 r2 (g H F vx vy R a.ok rx ry o) hs
/-- a slice by data -/
def sW (X : Cx) : V → Option Int → Option Int → Hp → VK → Prop := fun x lo hi H R => ∀ (pins : List (Addr × Obj)) (s : Shared) (σ : L2.St) (v vl vu : Value) (sl : Addr), Inv X pins σ H s → RelV x v → s.heap.IsSliceOf sl vl vu .none → IsPart vl lo → IsPart vu hi →
    ∃ T id, typeLookup (.type T) "__getitem__" = pure (some (.builtin id)) ∧ s.TypeIs v T ∧ wpAny (model X.prog X.w) X.A (getItem v (.ref sl)) (EP X pins σ R) X.xe s
theorem or_sW (X : Cx) : SlR X (sW X) := fun pins s σ H x v vl vu lo hi sl Q I rx hs pl pu h => h pins s σ v vl vu sl I rx hs pl pu
def OpS (Y : Cc) (x : D) (lo hi : Option Int) (M : Mu) (Q : D → Mu → Prop) : Prop := ∀ (H F : Hp) (vx : V) (R : VK), Y.At F M H → Rp Y.X.K F x vx → Out Y.X.K F M H Q R → sW Y.X vx lo hi H R
theorem OpS.of {r : V → Option Int → Option Int → Hp → VK → Prop} {x : D} {lo hi : Option Int} {Q : D → Mu → Prop} (h : SlR Y.X r)
    (g : ∀ (H F : Hp) (vx : V) (R : VK), SRh Y.X.K F M H → Rp Y.X.K F x vx → Out Y.X.K F M H Q R → r vx lo hi H R) : OpS Y x lo hi M Q :=
  fun H F vx R a rx o pins s σ v vl vu sl I r1 hs pl pu => h pins s σ H vx v vl vu lo hi sl R I r1 hs pl pu (g H F vx R a.ok rx o)
/-- truth by data -/
def OpT (Y : Cc) (x : D) (M : Mu) (Q : Bool → Mu → Prop) : Prop := ∀ (H F : Hp) (vx : V) (R : Bool → Hp → Prop), Y.At F M H → Rp Y.X.K F x vx → OutT Y.X.K F M H Q R → ∃ k, TruV Y.X.K vx H k ∧ R k H
end

/-! ### expressions -/
section
variable {Y : Cc} {δ : Dl} {M : Mu} {Q : D → Mu → Prop} {T : Bool → Mu → Prop} {a b c e : Expr} {es : List Expr} {pos p : Pos}
theorem ev_name {i : Nat} {x : Str} {d : D} (h : δ[i]? = some (some d)) (q : Q d M) (hN : Y.X.N[i]? = some x := by rfl) (hv : Vis Y.X.env.scope x := by first | exact Or.inl rfl | exact Or.inr (Or.inl rfl) | exact Or.inr (Or.inr rfl))
    (hd : (x == ("__debug__" : Str)) = false := by decide) (hcd : (x == ("__classdict__" : Str)) = false := by decide) : Ev Y δ M (.Name x pos) Q := by
  intro σ H F R a hs o
  refine tW_of (pe_var (i := i) hN hv hd hcd) ?_
  obtain ⟨v, hv, r⟩ := hs.sl i d h
  exact ⟨v, hv, o.here a.ok r q⟩
theorem ev_int {i : Int} {j : Nat} (q : Q (.int i) M) : Ev Y δ M (.Constant (.int i) j pos) Q := fun σ H F R a hs o => tW_of pe_int (o.here a.ok (by rw [Rp]) q)
theorem ev_bl {i : Bool} {j : Nat} (q : Q (.bl i) M) : Ev Y δ M (.Constant (.bool i) j pos) Q := fun σ H F R a hs o => tW_of pe_bl (o.here a.ok (by rw [Rp]) q)
theorem ev_non {j : Nat} (q : Q .non M) : Ev Y δ M (.Constant .none j pos) Q := fun σ H F R a hs o => tW_of pe_non (o.here a.ok (by rw [Rp]) q)
theorem ev_str {x : Str} {j : Nat} (q : Q (.str x) M) : Ev Y δ M (.Constant (.str x) j pos) Q := fun σ H F R a hs o => tW_of pe_str (o.here a.ok (by rw [Rp]) q)
/-- a module's name as data: what stands in the written part -/
def GV (K : PySem.W.Frag) (d : D) (u : Value) : Prop := ∃ v, RelV v u ∧ ∀ F, Rp K F d v
theorem ev_glob {x : Str} {u : Value} {d : D} (hm : Y.X.mg x = some u) (r : GV Y.X.K d u) (q : Q d M) (hg : Gl Y.X x := by rfl) (hd : (x == ("__debug__" : Str)) = false := by decide) : Ev Y δ M (.Name x pos) Q := by
  intro σ H F R a hs o
  obtain ⟨v, rv, rd⟩ := r
  exact tW_of (pe_glob hg hm rv hd) (o.here a.ok (rd F) q)
theorem ev_bltn {x : Str} {u : Value} {d : D} {v : V} (hm : Y.X.mg x = none) (hv : bootBuiltins x = some u) (r : RelV v u) (rd : ∀ F, Rp Y.X.K F d v) (q : Q d M) (hg : Gl Y.X x := by rfl) (hn : x ≠ "__name__" := by decide) (hd : (x == ("__debug__" : Str)) = false := by decide) : Ev Y δ M (.Name x pos) Q := by
  intro σ H F R a hs o
  exact tW_of (pe_bltn hg hm hv r hn hd) (o.here a.ok (rd F) q)

theorem ev_bin {op : Operator} (h : Ev Y δ M a fun x M1 => Ev Y δ M1 b fun y M2 => Op2 Y (binaryOp op) x y M2 Q) : Ev Y δ M (.BinOp a op b pos) Q := by
  intro σ H F R at0 hs o
  refine tW_of (pe_op (or_rW Y.X _) (pe_tW _ _) (pe_tW _ _)) ?_
  refine h σ H F _ at0 hs fun v H1 d M1 F1 s1 r1 q1 => ?_
  refine q1 σ H1 F1 _ (at0.go s1) (hs.mono s1.fr) fun u H2 d2 M2 F2 s2 r2 q2 => ?_
  exact q2 H2 F2 v u R (at0.go (s1.trans s2)) (Rp.mono s2.fr _ _ r1) r2 (o.step (s1.trans s2))
theorem ev_un {op : UnaryOp} (h : Ev Y δ M a fun x M1 => Op1 Y (unaryOp op) x M1 Q) : Ev Y δ M (.UnaryOp op a pos) Q := by
  intro σ H F R at0 hs o
  refine tW_of (pe_un (or_uW Y.X _) (pe_tW _ _)) ?_
  refine h σ H F _ at0 hs fun v H1 d M1 F1 s1 r1 q1 => ?_
  exact q1 H1 F1 v R (at0.go s1) r1 (o.step s1)
theorem ev_cmp {op : CmpOp} (hm : behindInMarks op b = false) (h : Ev Y δ M a fun x M1 => Ev Y δ M1 b fun y M2 => Op2 Y (compareOp op) x y M2 Q) : Ev Y δ M (.Compare a [op] [b] pos) Q := by
  intro σ H F R at0 hs o
  refine tW_of (pe_cmpR (or_rW Y.X _) (pe_tW _ _) (pe_tW _ _) hm) ?_
  refine h σ H F _ at0 hs fun v H1 d M1 F1 s1 r1 q1 => ?_
  refine q1 σ H1 F1 _ (at0.go s1) (hs.mono s1.fr) fun u H2 d2 M2 F2 s2 r2 q2 => ?_
  exact q2 H2 F2 v u R (at0.go (s1.trans s2)) (Rp.mono s2.fr _ _ r1) r2 (o.step (s1.trans s2))
/-- a truth value taken -/
def isB (T : Bool → Mu → Prop) : D → Mu → Prop := fun d M => ∃ k, d = .bl k ∧ T k M
theorem isB.mk {k : Bool} (h : T k M) : isB T (.bl k) M := ⟨k, rfl, h⟩
theorem et_cmp {op : CmpOp} (hm : behindInMarks op b = false) (h : Ev Y δ M a fun x M1 => Ev Y δ M1 b fun y M2 => Op2 Y (compareOp op) x y M2 (isB T)) : Et Y δ M (.Compare a [op] [b] pos) T := by
  intro σ H F R at0 hs o
  refine tWt_of (pt_cmpR (or_rW Y.X _) (pe_tW _ _) (pe_tW _ _) hm) ?_
  refine h σ H F _ at0 hs fun v H1 d M1 F1 s1 r1 q1 => ?_
  refine q1 σ H1 F1 _ (at0.go s1) (hs.mono s1.fr) fun u H2 d2 M2 F2 s2 r2 q2 => ?_
  refine q2 H2 F2 v u _ (at0.go (s1.trans s2)) (Rp.mono s2.fr _ _ r1) r2 fun w H3 d3 M3 F3 s3 r3 q3 => ?_
  obtain ⟨k, rfl, q⟩ := q3
  rw [Rp] at r3
  exact ⟨k, r3, o k H3 M3 F3 ((s1.trans s2).trans s3) q⟩
theorem et_chain {op op' : CmpOp} (h : Ev Y δ M a fun x M1 => Ev Y δ M1 b fun y M2 => Op2 Y (compareOp op) x y M2 (isB fun k M3 => if k = true then Ev Y δ M3 c fun z M4 => Op2 Y (compareOp op') y z M4 (isB T) else T false M3))
    (hm : lastMarks [op, op'] [b, c] = false := by with_unfolding_all rfl) : Et Y δ M (.Compare a [op, op'] [b, c] pos) T := by
  intro σ H F R at0 hs o
  refine tWt_of (pt_chain (or_rW Y.X _) (or_rW Y.X _) (pe_tW _ _) (pe_tW _ _) (pe_tW _ _) hm) ?_
  refine h σ H F _ at0 hs fun v H1 d M1 F1 s1 r1 q1 => ?_
  refine q1 σ H1 F1 _ (at0.go s1) (hs.mono s1.fr) fun u H2 d2 M2 F2 s2 r2 q2 => ?_
  have s12 := s1.trans s2
  refine q2 H2 F2 v u _ (at0.go s12) (Rp.mono s2.fr _ _ r1) r2 fun w H3 d3 M3 F3 s3 r3 q3 => ?_
  obtain ⟨k, rfl, q⟩ := q3
  rw [Rp] at r3
  refine ⟨k, r3, ?_⟩
  have s123 := s12.trans s3
  cases k with
  | false =>
    rw [if_neg Bool.false_ne_true] at q ⊢
    exact ⟨false, rfl, o false H3 M3 F3 s123 q⟩
  | true =>
    rw [if_pos rfl] at q ⊢
    refine q σ H3 F3 _ (at0.go s123) (hs.mono s123.fr) fun z H4 d4 M4 F4 s4 r4 q4 => ?_
    refine q4 H4 F4 u z _ (at0.go (s123.trans s4)) (Rp.mono (s3.fr.trans s4.fr) _ _ r2) r4 fun w5 H5 d5 M5 F5 s5 r5 q5 => ?_
    obtain ⟨k, rfl, q⟩ := q5
    rw [Rp] at r5
    exact ⟨k, r5, o k H5 M5 F5 ((s123.trans s4).trans s5) q⟩
theorem ev_chain {op op' : CmpOp} (h : Ev Y δ M a fun x M1 => Ev Y δ M1 b fun y M2 => Op2 Y (compareOp op) x y M2 (isB fun k M3 => if k = true then Ev Y δ M3 c fun z M4 => Op2 Y (compareOp op') y z M4 Q else Q (.bl false) M3))
    (hm : lastMarks [op, op'] [b, c] = false := by with_unfolding_all rfl) : Ev Y δ M (.Compare a [op, op'] [b, c] pos) Q := by
  intro σ H F R at0 hs o
  refine tW_of (pe_chain (or_rW Y.X _) (or_rW Y.X _) (pe_tW _ _) (pe_tW _ _) (pe_tW _ _) hm) ?_
  refine h σ H F _ at0 hs fun v H1 d M1 F1 s1 r1 q1 => ?_
  refine q1 σ H1 F1 _ (at0.go s1) (hs.mono s1.fr) fun u H2 d2 M2 F2 s2 r2 q2 => ?_
  have s12 := s1.trans s2
  refine q2 H2 F2 v u _ (at0.go s12) (Rp.mono s2.fr _ _ r1) r2 fun w H3 d3 M3 F3 s3 r3 q3 => ?_
  obtain ⟨k, rfl, q⟩ := q3
  rw [Rp] at r3
  refine ⟨k, r3, ?_⟩
  have s123 := s12.trans s3
  cases k with
  | false =>
    rw [if_neg Bool.false_ne_true] at q ⊢
    exact o _ H3 _ M3 F3 s123 (by rw [Rp]) q
  | true =>
    rw [if_pos rfl] at q ⊢
    refine q σ H3 F3 _ (at0.go s123) (hs.mono s123.fr) fun z H4 d4 M4 F4 s4 r4 q4 => ?_
    exact q4 H4 F4 u z _ (at0.go (s123.trans s4)) (Rp.mono (s3.fr.trans s4.fr) _ _ r2) r4 (o.step (s123.trans s4))
/-- a test that is the value's truth -/
theorem et_val (h : Ev Y δ M e fun x M1 => OpT Y x M1 T) (he : ∀ whole, isTrue e Y.X.env whole = (do let v ← whole; standAt e.pos; holding [v] (truthy v)) := by intro _; rfl) : Et Y δ M e T := by
  intro σ H F R at0 hs o
  refine tWt_of (pt_truth (pe_tW _ _) he) ?_
  refine h σ H F _ at0 hs fun v H1 d M1 F1 s1 r1 q1 => ?_
  exact q1 H1 F1 v R (at0.go s1) r1 fun b H2 M2 F2 s2 q2 => o b H2 M2 F2 (s1.trans s2) q2
theorem et_w (h : Ew Y δ M e T) : Et Y δ M e T := fun σ H F R at0 hs o => tWt_of ((pw_tW _ _).pt) (h σ H F R at0 hs o)
theorem et_not (h : Et Y δ M a fun k M1 => T (!k) M1) : Et Y δ M (.UnaryOp .Not a pos) T := by
  intro σ H F R at0 hs o
  exact tWt_of (pt_not (pt_tW _ _)) (h σ H F _ at0 hs fun b H1 M1 F1 s1 q1 => o _ H1 M1 F1 s1 q1)
theorem ew_and1 (h : Et Y δ M a T) : Ew Y δ M (.BoolOp .And [a] pos) T := fun σ H F R at0 hs o => tWw_of (pw_and1 (pt_tW _ _)) (h σ H F R at0 hs o)
theorem ew_or1 (h : Et Y δ M a T) : Ew Y δ M (.BoolOp .Or [a] pos) T := fun σ H F R at0 hs o => tWw_of (pw_or1 (pt_tW _ _)) (h σ H F R at0 hs o)
theorem ew_and {rest : List Expr} (h : Et Y δ M a fun k M1 => if k = true then Ew Y δ M1 (.BoolOp .And (b :: rest) pos) T else T false M1) : Ew Y δ M (.BoolOp .And (a :: b :: rest) pos) T := by
  intro σ H F R at0 hs o
  refine tWw_of (pw_and (pt_tW _ _) (pw_tW _ _)) (h σ H F _ at0 hs fun k H1 M1 F1 s1 q1 => ?_)
  cases k with
  | false =>
    rw [if_neg Bool.false_ne_true] at q1 ⊢
    exact o _ H1 M1 F1 s1 q1
  | true =>
    rw [if_pos rfl] at q1 ⊢
    exact q1 σ H1 F1 R (at0.go s1) (hs.mono s1.fr) fun b H2 M2 F2 s2 q2 => o b H2 M2 F2 (s1.trans s2) q2
theorem ew_or {rest : List Expr} (h : Et Y δ M a fun k M1 => if k = true then T true M1 else Ew Y δ M1 (.BoolOp .Or (b :: rest) pos) T) : Ew Y δ M (.BoolOp .Or (a :: b :: rest) pos) T := by
  intro σ H F R at0 hs o
  refine tWw_of (pw_or (pt_tW _ _) (pw_tW _ _)) (h σ H F _ at0 hs fun k H1 M1 F1 s1 q1 => ?_)
  cases k with
  | true =>
    rw [if_pos rfl] at q1 ⊢
    exact o _ H1 M1 F1 s1 q1
  | false =>
    rw [if_neg Bool.false_ne_true] at q1 ⊢
    exact q1 σ H1 F1 R (at0.go s1) (hs.mono s1.fr) fun b H2 M2 F2 s2 q2 => o b H2 M2 F2 (s1.trans s2) q2
/-- and, or, not as truth values -/
theorem ev_one {op} (h : Ev Y δ M a Q) : Ev Y δ M (.BoolOp op [a] pos) Q := fun σ H F R at0 hs o => tW_of (pe_one (pe_tW _ _)) (h σ H F R at0 hs o)
theorem ev_and {rest : List Expr} (h : Ev Y δ M a (isB fun k M1 => if k = true then Ev Y δ M1 (.BoolOp .And (b :: rest) pos) Q else Q (.bl false) M1)) : Ev Y δ M (.BoolOp .And (a :: b :: rest) pos) Q := by
  intro σ H F R at0 hs o
  refine tW_of (pe_and (pe_tW _ _) (pe_tW _ _)) (h σ H F _ at0 hs fun v H1 d M1 F1 s1 r1 q1 => ?_)
  obtain ⟨k, rfl, q1⟩ := q1
  rw [Rp] at r1
  refine ⟨k, r1, ?_⟩
  cases k with
  | false =>
    rw [if_neg Bool.false_ne_true] at q1 ⊢
    exact o _ H1 _ M1 F1 s1 (by rw [Rp]) q1
  | true =>
    rw [if_pos rfl] at q1 ⊢
    exact q1 σ H1 F1 R (at0.go s1) (hs.mono s1.fr) (o.step s1)
theorem ev_or {rest : List Expr} (h : Ev Y δ M a (isB fun k M1 => if k = true then Q (.bl true) M1 else Ev Y δ M1 (.BoolOp .Or (b :: rest) pos) Q)) : Ev Y δ M (.BoolOp .Or (a :: b :: rest) pos) Q := by
  intro σ H F R at0 hs o
  refine tW_of (pe_or (pe_tW _ _) (pe_tW _ _)) (h σ H F _ at0 hs fun v H1 d M1 F1 s1 r1 q1 => ?_)
  obtain ⟨k, rfl, q1⟩ := q1
  rw [Rp] at r1
  refine ⟨k, r1, ?_⟩
  cases k with
  | true =>
    rw [if_pos rfl] at q1 ⊢
    exact o _ H1 _ M1 F1 s1 (by rw [Rp]) q1
  | false =>
    rw [if_neg Bool.false_ne_true] at q1 ⊢
    exact q1 σ H1 F1 R (at0.go s1) (hs.mono s1.fr) (o.step s1)
theorem ev_not (h : Ev Y δ M a (isB fun k M1 => Q (.bl (!k)) M1)) : Ev Y δ M (.UnaryOp .Not a pos) Q := by
  intro σ H F R at0 hs o
  refine tW_of (pe_not (pe_tW _ _)) (h σ H F _ at0 hs fun v H1 d M1 F1 s1 r1 q1 => ?_)
  obtain ⟨k, rfl, q1⟩ := q1
  rw [Rp] at r1
  exact ⟨k, r1, o _ H1 _ M1 F1 s1 (by rw [Rp]) q1⟩
theorem ev_ite (h : Et Y δ M c fun k M1 => if k = true then Ev Y δ M1 a Q else Ev Y δ M1 b Q) : Ev Y δ M (.IfExp c a b pos) Q := by
  intro σ H F R at0 hs o
  refine tW_of (pe_ifExp (pt_tW _ _) (pe_tW _ _) (pe_tW _ _)) (h σ H F _ at0 hs fun k H1 M1 F1 s1 q1 => ?_)
  cases k with
  | true =>
    rw [if_pos rfl] at q1 ⊢
    exact q1 σ H1 F1 R (at0.go s1) (hs.mono s1.fr) (o.step s1)
  | false =>
    rw [if_neg Bool.false_ne_true] at q1 ⊢
    exact q1 σ H1 F1 R (at0.go s1) (hs.mono s1.fr) (o.step s1)
/-! arguments, displays -/
theorem ea_nil {Q : List D → Mu → Prop} (q : Q [] M) : Ea Y δ M [] Q := fun σ H F R a hs o => tWa_of pa_nil (o _ _ _ _ _ (Stp.refl a.ok) Rps.nil q)
theorem ea_cons {Q : List D → Mu → Prop} (h : Ev Y δ M e fun x M1 => Ea Y δ M1 es fun xs M2 => Q (x :: xs) M2) (hs : starEach (e :: es) Y.X.env = (false, eval e Y.X.env) :: starEach es Y.X.env := by rfl) : Ea Y δ M (e :: es) Q := by
  intro σ H F R at0 hs' o
  refine tWa_of (pa_cons (pe_tW _ _) (pa_tW _ _) hs) (h σ H F _ at0 hs' fun v H1 d M1 F1 s1 r1 q1 => ?_)
  refine q1 σ H1 F1 _ (at0.go s1) (hs'.mono s1.fr) fun vs H2 ds M2 F2 s2 r2 q2 => ?_
  exact o _ _ _ _ _ (s1.trans s2) (Rps.cons (Rp.mono s2.fr _ _ r1) r2) q2
theorem ev_tup {x1} (h : Ea Y δ M es fun xs M1 => xs.length ≤ sizeLine ∧ Q (.tup xs) M1) : Ev Y δ M (.Tuple es x1 pos) Q := by
  intro σ H F R at0 hs o
  refine tW_of (pe_tup (pa_tW _ _)) (h σ H F _ at0 hs fun vs H1 ds M1 F1 s1 r1 ⟨l1, q1⟩ => ⟨by rw [← r1.len]; exact l1, fun p hp => ?_⟩)
  have s2 := Stp.frozen (o := .tup vs) s1.ok hp
  exact o _ _ _ _ _ (s1.trans s2) (by rw [Rp]; exact ⟨p, vs, rfl, .of upd_same, Rps.mono s2.fr _ _ r1⟩) q1
/-- a list that stands still from now on -/
theorem ev_lst (h : Ea Y δ M es fun xs M1 => xs.length ≤ sizeLine ∧ Q (.lst xs) M1) : Ev Y δ M (.List es pos) Q := by
  intro σ H F R at0 hs o
  refine tW_of (pe_lst (pa_tW _ _)) (h σ H F _ at0 hs fun vs H1 ds M1 F1 s1 r1 ⟨l1, q1⟩ => ⟨by rw [← r1.len]; exact l1, fun p hp => ?_⟩)
  have s2 := Stp.frozen (o := .lst vs) s1.ok hp
  exact o _ _ _ _ _ (s1.trans s2) (by rw [Rp]; exact ⟨p, vs, rfl, upd_same, Rps.mono s2.fr _ _ r1⟩) q1
/-- a list of ours -/
theorem ev_lstm (h : Ea Y δ M es fun xs M1 => xs.length ≤ sizeLine ∧ ∀ p, Q (.ptr p) ((p, .lst xs) :: M1)) : Ev Y δ M (.List es pos) Q := by
  intro σ H F R at0 hs o
  refine tW_of (pe_lst (pa_tW _ _)) (h σ H F _ at0 hs fun vs H1 ds M1 F1 s1 r1 ⟨l1, q1⟩ => ⟨by rw [← r1.len]; exact l1, fun p hp => ?_⟩)
  have s2 := Stp.own (o := .lst vs) (m := .lst ds) s1.ok hp ⟨vs, rfl, r1⟩
  exact o _ _ _ _ _ (s1.trans s2) (by rw [Rp]) (q1 p)
theorem ev_ix (hi : PlainIx b) (h : Ev Y δ M a fun x M1 => Ev Y δ M1 b fun y M2 => OpX Y x y M2 Q) : Ev Y δ M (.Subscript a b pos) Q := by
  intro σ H F R at0 hs o
  refine tW_of (pe_ix (or_xW Y.X) (pe_tW _ _) (pe_tW _ _) hi) ?_
  refine h σ H F _ at0 hs fun v H1 d M1 F1 s1 r1 q1 => ?_
  refine q1 σ H1 F1 _ (at0.go s1) (hs.mono s1.fr) fun u H2 d2 M2 F2 s2 r2 q2 => ?_
  exact q2 H2 F2 v u R (at0.go (s1.trans s2)) (Rp.mono s2.fr _ _ r1) r2 (o.step (s1.trans s2))
/-! slices: a part -/
def tWo (X : Cx) (e : Option Expr) : TO := fun σ H R => ∀ (t : TO), PO X e t → t σ H R
def Eo (Y : Cc) (δ : Dl) (M : Mu) : Option Expr → (Option Int → Mu → Prop) → Prop
  | none, Q => Q none M
  | some e, Q => Ev Y δ M e fun x M1 => ∃ i, x = .int i ∧ Q (some i) M1
def tOo (X : Cx) : Option Expr → TO
  | none => tNoPart
  | some e => tPart (tW X e)
theorem po_tW (X : Cx) : ∀ e : Option Expr, PO X e (tOo X e)
  | none => po_none
  | some e => po_some (pe_tW X e)
theorem Eo.app {lo : Option Expr} {Q : Option Int → Mu → Prop} (h : Eo Y δ M lo Q) {σ : L2.St} {H F : Hp} {R : Option Int → Hp → Prop} (at0 : Y.At F M H) (hs : SRs Y.X.K F δ σ)
    (o : ∀ i H' M' F', Stp Y.X.K F M H F' M' H' → Q i M' → R i H') : tOo Y.X lo σ H R := by
  cases lo with
  | none => exact o _ _ _ _ (Stp.refl at0.ok) h
  | some e =>
    refine h σ H F _ at0 hs fun v H1 d M1 F1 s1 r1 ⟨i, e, q1⟩ => ?_
    subst e
    rw [Rp] at r1
    exact ⟨i, r1, o _ _ _ _ s1 q1⟩
theorem ev_slice {lo hi : Option Expr} {p2 : Pos} (h : Ev Y δ M a fun x M1 => Eo Y δ M1 lo fun l M2 => Eo Y δ M2 hi fun u M3 => OpS Y x l u M3 Q) : Ev Y δ M (.Subscript a (.Slice lo hi none p2) pos) Q := by
  intro σ H F R at0 hs o
  refine tW_of (pe_slice (or_sW Y.X) (pe_tW _ _) (po_tW _ _) (po_tW _ _)) ?_
  refine h σ H F _ at0 hs fun v H1 d M1 F1 s1 r1 q1 => ?_
  refine Eo.app q1 (at0.go s1) (hs.mono s1.fr) fun i H2 M2 F2 s2 q2 => ?_
  refine Eo.app q2 (at0.go (s1.trans s2)) (hs.mono (s1.trans s2).fr) fun j H3 M3 F3 s3 q3 => ?_
  have s := (s1.trans s2).trans s3
  exact q3 H3 F3 v R (at0.go s) (Rp.mono (s2.fr.trans s3.fr) _ _ r1) (o.step s)
/-! calls of what is built in -/
theorem ev_callB {x : Str} {id : String} (hm : Y.X.mg x = none) (hv : bootBuiltins x = some (.builtin id)) (h : Ea Y δ M (e :: es) fun xs M1 => OpC Y (.builtin id) xs M1 Q) (hg : Gl Y.X x := by rfl) (hn : x ≠ "__name__" := by decide) (hdb : (x == ("__debug__" : Str)) = false := by decide)
    (he : starEach (e :: es) Y.X.env = (false, eval e Y.X.env) :: starEach es Y.X.env := by rfl) (hpl : (backTo pos (starEach es Y.X.env)).any (·.1) = false := by rfl) : Ev Y δ M (.Call (.Name x p) (e :: es) [] pos) Q := by
  intro σ H F R at0 hs o
  refine tW_of (pe_callB (or_cW Y.X _) hg hm hv (pa_tW _ _) hn hdb he hpl) ?_
  refine h σ H F _ at0 hs fun vs H1 ds M1 F1 s1 r1 q1 => ?_
  exact q1 H1 F1 vs R (at0.go s1) r1 (o.step s1)
theorem ev_callTy {x : Str} {id : String} (hm : Y.X.mg x = none) (hv : bootBuiltins x = some (.type id)) (h : Ea Y δ M (e :: es) fun xs M1 => OpC Y (.type id) xs M1 Q) (hg : Gl Y.X x := by rfl) (hn : x ≠ "__name__" := by decide) (hdb : (x == ("__debug__" : Str)) = false := by decide)
    (he : starEach (e :: es) Y.X.env = (false, eval e Y.X.env) :: starEach es Y.X.env := by rfl) (hpl : (backTo pos (starEach es Y.X.env)).any (·.1) = false := by rfl) : Ev Y δ M (.Call (.Name x p) (e :: es) [] pos) Q := by
  intro σ H F R at0 hs o
  refine tW_of (pe_callTy (or_cW Y.X _) hg hm hv (pa_tW _ _) hn hdb he hpl) ?_
  refine h σ H F _ at0 hs fun vs H1 ds M1 F1 s1 r1 q1 => ?_
  exact q1 H1 F1 vs R (at0.go s1) r1 (o.step s1)
end
end TD

namespace TD
open PySem PySem.Spec PyProof.Rows L2

/-! ### statements -/
structure Fx where
  nx : Dl → Mu → Prop
  rt : D → Mu → Prop
  bk : Dl → Mu → Prop := fun _ _ => False
  ct : Dl → Mu → Prop := fun _ _ => False
structure FxR (Y : Cc) (F0 : Hp) (D : Fx) (E : Ends) : Prop where
  nx : ∀ (σ : L2.St) (δ : Dl) (F : Hp) (M : Mu) (H : Hp), Y.At F M H → Same F0 F → SRs Y.X.K F δ σ → D.nx δ M → E.nx σ H
  rt : ∀ (v : V) (d : TD.D) (F : Hp) (M : Mu) (H : Hp), Y.At F M H → Same F0 F → Rp Y.X.K F d v → D.rt d M → E.rt v H
  bk : ∀ (σ : L2.St) (δ : Dl) (F : Hp) (M : Mu) (H : Hp), Y.At F M H → Same F0 F → SRs Y.X.K F δ σ → D.bk δ M → E.bk σ H
  ct : ∀ (σ : L2.St) (δ : Dl) (F : Hp) (M : Mu) (H : Hp), Y.At F M H → Same F0 F → SRs Y.X.K F δ σ → D.ct δ M → E.ct σ H
theorem FxR.step {Y : Cc} {F F1 : Hp} {D : Fx} {E : Ends} (o : FxR Y F D E) (s : Same F F1) : FxR Y F1 D E :=
  ⟨fun σ δ F M H a e => o.nx σ δ F M H a (s.trans e), fun v d F M H a e => o.rt v d F M H a (s.trans e), fun σ δ F M H a e => o.bk σ δ F M H a (s.trans e), fun σ δ F M H a e => o.ct σ δ F M H a (s.trans e)⟩
def tS (X : Cx) (st : Stmt) : TS := fun D σ H => ∀ (pins : List (Addr × Obj)) (s : Shared), Inv X pins σ H s → wpAny (model X.prog X.w) X.A (exec st X.env) (SP X pins D) X.xe s
def tSs (X : Cx) (sts : List Stmt) : TS := fun D σ H => ∀ (pins : List (Addr × Obj)) (s : Shared), Inv X pins σ H s → wpAny (model X.prog X.w) X.A (execs sts X.env) (SP X pins D) X.xe s
theorem ps_tS (X : Cx) (st : Stmt) : PS X st (tS X st) := ⟨fun pins s _ _ _ I h => h pins s I⟩
theorem pss_tS (X : Cx) (sts : List Stmt) : PSs X sts (tSs X sts) := ⟨fun pins s _ _ _ I h => h pins s I⟩
theorem tS_of {X : Cx} {st : Stmt} {t : TS} (p : PS X st t) {σ : L2.St} {H : Hp} {E : Ends} (h : t E σ H) : tS X st E σ H := fun pins s I => p.run pins s σ H E I h
theorem tSs_of {X : Cx} {st : List Stmt} {t : TS} (p : PSs X st t) {σ : L2.St} {H : Hp} {E : Ends} (h : t E σ H) : tSs X st E σ H := fun pins s I => p.run pins s σ H E I h
def E1 (Y : Cc) (δ : Dl) (M : Mu) (st : Stmt) (D : Fx) : Prop := ∀ (σ : L2.St) (H F : Hp) (E : Ends), Y.At F M H → SRs Y.X.K F δ σ → FxR Y F D E → tS Y.X st E σ H
def Es (Y : Cc) (δ : Dl) (M : Mu) (sts : List Stmt) (D : Fx) : Prop := ∀ (σ : L2.St) (H F : Hp) (E : Ends), Y.At F M H → SRs Y.X.K F δ σ → FxR Y F D E → tSs Y.X sts E σ H
section
variable {Y : Cc} {δ : Dl} {M : Mu} {D : Fx} {e a b c : Expr} {st : Stmt} {sts : List Stmt} {pos p : Pos}
theorem es_nil (h : D.nx δ M) : Es Y δ M [] D := fun σ H F E a hs o => tSs_of pss_nil (o.nx σ δ F M H a (Same.refl _) hs h)
theorem es_cons (h : E1 Y δ M st { D with nx := fun δ1 M1 => Es Y δ1 M1 sts D }) : Es Y δ M (st :: sts) D := by
  intro σ H F E a hs o
  refine tSs_of (pss_cons (ps_tS _ _) (pss_tS _ _)) (h σ H F _ a hs ⟨fun σ' δ' F' M' H' a' e' hs' q => q σ' H' F' E a' hs' (o.step e'), o.rt, o.bk, o.ct⟩)
theorem e1_pass (h : D.nx δ M) : E1 Y δ M (.Pass pos) D := fun σ H F E a hs o => tS_of ps_pass (o.nx σ δ F M H a (Same.refl _) hs h)
theorem e1_break (h : D.bk δ M) : E1 Y δ M (.Break pos) D := fun σ H F E a hs o => tS_of ps_break (o.bk σ δ F M H a (Same.refl _) hs h)
theorem e1_cont (h : D.ct δ M) : E1 Y δ M (.Continue pos) D := fun σ H F E a hs o => tS_of ps_continue (o.ct σ δ F M H a (Same.refl _) hs h)
theorem e1_doc {x j pos'} (h : D.nx δ M) : E1 Y δ M (.Expr (.Constant (.str x) j pos) pos') D := fun σ H F E a hs o => tS_of ps_doc (o.nx σ δ F M H a (Same.refl _) hs h)
theorem e1_ret (h : Ev Y δ M e D.rt) : E1 Y δ M (.Return (some e) pos) D := fun σ H F E a hs o =>
  tS_of (ps_ret (pe_tW _ _)) (h σ H F _ a hs fun v H' d M' F' s r q => o.rt v d F' M' H' (a.go s) s.fr r q)
theorem e1_retN (h : D.rt .non M) : E1 Y δ M (.Return none pos) D := fun σ H F E a hs o => tS_of ps_retN (o.rt _ _ F M H a (Same.refl _) (by rw [Rp]) h)
theorem e1_expr (h : Ev Y δ M e fun _ M1 => D.nx δ M1) (hs : swapsWith e none pos.line Y.X.env = pure false := by rfl) : E1 Y δ M (.Expr e pos) D := fun σ H F E a hs' o =>
  tS_of (ps_expr (pe_tW _ _) hs) (h σ H F _ a hs' fun v H' d M' F' s r q => o.nx σ δ F' M' H' (a.go s) s.fr (hs'.mono s.fr) q)
theorem e1_if {x y : List Stmt} (h : Et Y δ M c fun k M1 => if k = true then Es Y δ M1 x D else Es Y δ M1 y D) : E1 Y δ M (.If c x y pos) D := by
  intro σ H F E a hs o
  refine tS_of (ps_if (pt_tW _ _) (pss_tS _ _) (pss_tS _ _)) (h σ H F _ a hs fun k H1 M1 F1 s1 q1 => ?_)
  cases k with
  | true =>
    rw [if_pos rfl] at q1 ⊢
    exact q1 σ H1 F1 E (a.go s1) (hs.mono s1.fr) (o.step s1.fr)
  | false =>
    rw [if_neg Bool.false_ne_true] at q1 ⊢
    exact q1 σ H1 F1 E (a.go s1) (hs.mono s1.fr) (o.step s1.fr)
/-- ghost steps: a name forgotten, a list frozen, ours dropped or ordered anew -/
theorem Es.imp {D' : Fx} (h : Es Y δ M sts D') (i : ∀ F E, FxR Y F D E → FxR Y F D' E) : Es Y δ M sts D := fun σ H F E a hs o => h σ H F E a hs (i F E o)
theorem Es.mono {D' : Fx} (h : Es Y δ M sts D') (hn : ∀ δ M, D'.nx δ M → D.nx δ M) (hr : ∀ d M, D'.rt d M → D.rt d M) (hb : ∀ δ M, D'.bk δ M → D.bk δ M) (hc : ∀ δ M, D'.ct δ M → D.ct δ M) : Es Y δ M sts D :=
  h.imp fun F0 E o => ⟨fun σ δ F M H a e s q => o.nx σ δ F M H a e s (hn _ _ q), fun v d F M H a e s q => o.rt v d F M H a e s (hr _ _ q), fun σ δ F M H a e s q => o.bk σ δ F M H a e s (hb _ _ q), fun σ δ F M H a e s q => o.ct σ δ F M H a e s (hc _ _ q)⟩
theorem es_forget (i : Nat) (h : Es Y (δ.set i none) M sts D) : Es Y δ M sts D := fun σ H F E a hs o => h σ H F E a (hs.forget i) o
theorem es_freeze {k i : Nat} {q : Addr} {ds : List TD.D} (hk : M[k]? = some (q, .lst ds)) (hi : δ[i]? = some (some (.ptr q))) (h : Es Y (δ.set i (some (.lst ds))) (M.eraseIdx k) sts D) : Es Y δ M sts D := by
  intro σ H F E a hs o
  obtain ⟨F', s, r⟩ := Stp.freeze a.ok hk
  have hs' : SRs Y.X.K F' (δ.set i (some (.lst ds))) σ := by
    refine ⟨by simp [hs.len], fun j e hj => ?_⟩
    by_cases hij : i = j
    · subst hij
      obtain ⟨v, hv, rv⟩ := hs.sl i _ hi
      have hlt : i < δ.length := by
        rcases Nat.lt_or_ge i δ.length with z | z
        · exact z
        · rw [List.getElem?_eq_none z] at hi; cases hi
      rw [List.getElem?_set_self hlt] at hj
      cases hj
      rw [Rp] at rv
      exact ⟨v, hv, by rw [rv]; exact r⟩
    · rw [List.getElem?_set_ne hij] at hj
      obtain ⟨v, hv, rv⟩ := hs.sl j e hj
      exact ⟨v, hv, Rp.mono s.fr _ _ rv⟩
  exact h σ H F' E (a.go s) hs' (o.step s.fr)
theorem es_drop {M1 : Mu} (h : Es Y δ M1 sts D) (hm : ∀ x ∈ M1, x ∈ M) (nd : (M.map (·.1)).Nodup → (M1.map (·.1)).Nodup) : Es Y δ M sts D := fun σ H F E a hs o =>
  h σ H F E (a.go (Stp.drop a.ok hm (nd a.ok.nd))) hs o
/-- the k-th of ours to the front -/
theorem es_front {k : Nat} {x : Addr × MO} (hk : M[k]? = some x) (h : Es Y δ (x :: M.eraseIdx k) sts D) : Es Y δ M sts D := by
  have hlt : k < M.length := by
    rcases Nat.lt_or_ge k M.length with z | z
    · exact z
    · rw [List.getElem?_eq_none z] at hk; cases hk
  have pm : ∀ (l : Mu) (k : Nat), l[k]? = some x → (x :: l.eraseIdx k).Perm l := by
    intro l
    induction l with
    | nil => intro k h; simp at h
    | cons y l ih =>
      intro k h
      cases k with
      | zero => simp at h; subst h; exact List.Perm.refl _
      | succ k => exact (List.Perm.swap y x _).trans ((ih k (by simpa using h)).cons y)
  have pm := pm M k hk
  exact es_drop h (fun y hy => pm.mem_iff.mp hy) fun nd => ((pm.map (·.1)).nodup_iff).mpr nd
/-! assignments -/
def gW (X : Cx) (tg : Expr) : TG := fun v σ H R => ∀ (pins : List (Addr × Obj)) (s : Shared) (u : Value), Inv X pins σ H s → RelV v u → wpAny (model X.prog X.w) X.A (assign tg X.env u) (fun _ s' => ∃ σ' H', Inv X pins σ' H' s' ∧ R σ' H') X.xe s
theorem pg_gW (X : Cx) (tg : Expr) : PG X tg (gW X tg) := ⟨fun pins s σ H v u Q I r h => h pins s u I r⟩
def gWs (X : Cx) (tgs : List Expr) : TGs := fun vs σ H R => ∀ (pins : List (Addr × Obj)) (s : Shared) (us : List Value), Inv X pins σ H s → Vals vs us → wpAny (model X.prog X.w) X.A (assignInOrder ((assignEach tgs X.env).map (·.2)) us) (fun _ s' => ∃ σ' H', Inv X pins σ' H' s' ∧ R σ' H') X.xe s
theorem pgs_gW (X : Cx) (tgs : List Expr) : PGs X tgs (gWs X tgs) := ⟨fun pins s σ H vs us Q I r h => h pins s us I r⟩
theorem gW_of {X : Cx} {tg : Expr} {t : TG} (p : PG X tg t) {v : V} {σ : L2.St} {H : Hp} {R : L2.St → Hp → Prop} (h : t v σ H R) : gW X tg v σ H R := fun pins s u I r => p.run pins s σ H v u R I r h
theorem gWs_of {X : Cx} {tg : List Expr} {t : TGs} (p : PGs X tg t) {v : List V} {σ : L2.St} {H : Hp} {R : L2.St → Hp → Prop} (h : t v σ H R) : gWs X tg v σ H R := fun pins s u I r => p.run pins s σ H v u R I r h
def OutG (Y : Cc) (F : Hp) (M : Mu) (H : Hp) (Q : Dl → Mu → Prop) (R : L2.St → Hp → Prop) : Prop := ∀ σ' δ' H' M' F', Stp Y.X.K F M H F' M' H' → SRs Y.X.K F' δ' σ' → Q δ' M' → R σ' H'
theorem OutG.step {Q : Dl → Mu → Prop} {R : L2.St → Hp → Prop} {F F1 : Hp} {M M1 : Mu} {H H1 : Hp} (o : OutG Y F M H Q R) (s : Stp Y.X.K F M H F1 M1 H1) : OutG Y F1 M1 H1 Q R := fun σ' δ' H' M' F' t r q => o σ' δ' H' M' F' (s.trans t) r q
def Eg (Y : Cc) (tg : Expr) (d : TD.D) (δ : Dl) (M : Mu) (Q : Dl → Mu → Prop) : Prop := ∀ (v : V) (σ : L2.St) (H F : Hp) (R : L2.St → Hp → Prop), Y.At F M H → SRs Y.X.K F δ σ → Rp Y.X.K F d v → OutG Y F M H Q R → gW Y.X tg v σ H R
def Egs (Y : Cc) (tg : List Expr) (d : List TD.D) (δ : Dl) (M : Mu) (Q : Dl → Mu → Prop) : Prop := ∀ (v : List V) (σ : L2.St) (H F : Hp) (R : L2.St → Hp → Prop), Y.At F M H → SRs Y.X.K F δ σ → Rps Y.X.K F d v → OutG Y F M H Q R → gWs Y.X tg v σ H R
variable {Q : Dl → Mu → Prop} {d : TD.D} {ds : List TD.D} {tg : Expr} {tgs : List Expr}
theorem eg_name [C : COk Y] (i : Nat) {x : Str} (q : Q (δ.set i (some d)) M) (hi : Y.X.N[i]? = some x := by rfl) (hx : Loc Y.X.env.scope x := by first | exact Or.inl rfl | exact Or.inr rfl) (hf : Y.X.fn x = true ∨ Y.X.env.scope.names.lookup x = some .local := by first | exact .inl rfl | exact .inr rfl) : Eg Y (.Name x pos) d δ M Q :=
  fun v σ H F R a hs r o => gW_of (pg_name (i := i) C.nd hi hx hf) (o _ _ _ _ _ (Stp.refl a.ok) (hs.set r i) q)
theorem egs_nil (q : Q δ M) : Egs Y [] [] δ M Q := fun v σ H F R a hs r o => by
  rw [Rps] at r
  exact gWs_of pgs_nil ⟨r, o _ _ _ _ _ (Stp.refl a.ok) hs q⟩
theorem egs_cons (h : Eg Y tg d δ M fun δ1 M1 => Egs Y tgs ds δ1 M1 Q) (hs : (assignEach (tg :: tgs) Y.X.env).map (·.2) = assign tg Y.X.env :: (assignEach tgs Y.X.env).map (·.2) := by rfl) : Egs Y (tg :: tgs) (d :: ds) δ M Q := fun v σ H F R a hs' r o => by
  rw [Rps] at r
  obtain ⟨x, r', e, r1, r2⟩ := r
  refine gWs_of (pgs_cons (pg_gW _ _) (pgs_gW _ _) hs) ⟨x, r', e, ?_⟩
  refine h x σ H F _ a hs' r1 fun σ1 δ1 H1 M1 F1 s1 h1 q1 => ?_
  exact q1 r' σ1 H1 F1 R (a.go s1) h1 (Rps.mono s1.fr _ _ r2) (o.step s1)
theorem eg_tup [C : COk Y] {k : Nat} (h : Egs Y tgs ds δ M Q) (hl : ds.length = tgs.length := by rfl) (hn : (assignEach tgs Y.X.env).length = tgs.length := by rfl) (hst : (assignEach tgs Y.X.env).findIdx? (·.1) = none := by rfl) : Eg Y (.Tuple tgs k pos) (.tup ds) δ M Q := fun v σ H F R a hs r o => by
  rw [Rp] at r
  obtain ⟨p, xs, e, hT, r⟩ := r
  exact gW_of (pg_tup C.calm (pgs_gW _ _) hn hst) ⟨p, xs, e, Same.tup a.ok.sub hT, by rw [← r.len, hl], h xs σ H F R a hs r o⟩
theorem eg_lst [C : COk Y] {k : Nat} (h : Egs Y tgs ds δ M Q) (hl : ds.length = tgs.length := by rfl) (hn : (assignEach tgs Y.X.env).length = tgs.length := by rfl) (hst : (assignEach tgs Y.X.env).findIdx? (·.1) = none := by rfl) : Eg Y (.Tuple tgs k pos) (.lst ds) δ M Q := fun v σ H F R a hs r o => by
  rw [Rp] at r
  obtain ⟨p, xs, e, hT, r⟩ := r
  exact gW_of (pg_lst C.calm (pgs_gW _ _) hn hst) ⟨p, xs, e, SqL.of (a.ok.sub _ _ hT), by rw [← r.len, hl], h xs σ H F R a hs r o⟩
/-- o[i] = v -/
def setW (X : Cx) : TSet := fun o i v H R => ∀ (pins : List (Addr × Obj)) (s : Shared) (σ : L2.St) (ov iv u : Value), Inv X pins σ H s → RelV o ov → RelV i iv → RelV v u → wpAny (model X.prog X.w) X.A (setItem ov iv u) (fun _ s' => ∃ H', Inv X pins σ H' s' ∧ R H') X.xe s
theorem set_setW (X : Cx) : PSet X (setW X) := fun pins s σ H o i v ov iv u Q I r1 r2 r3 h => h pins s σ ov iv u I r1 r2 r3
def OpSet (Y : Cc) (o i v : TD.D) (M : Mu) (Q : Mu → Prop) : Prop := ∀ (H F : Hp) (vo vi vv : V) (R : Hp → Prop), Y.At F M H → Rp Y.X.K F o vo → Rp Y.X.K F i vi → Rp Y.X.K F v vv → (∀ H' M' F', Stp Y.X.K F M H F' M' H' → Q M' → R H') → setW Y.X vo vi vv H R
theorem eg_sub {o i : Expr} (h : Ev Y δ M o fun x M1 => Ev Y δ M1 i fun y M2 => OpSet Y x y d M2 fun M3 => Q δ M3)
    (ha : ∀ v, assign (.Subscript o i pos) Y.X.env v = (do
      let ov ← holding [v] (eval o Y.X.env)
      let iv ← holding [v, ov] (eval i Y.X.env)
      standAt pos
      holding [v, ov, iv] (setItem ov iv v)
      release [v, ov, iv] []) := by intro _; rfl) : Eg Y (.Subscript o i pos) d δ M Q := fun v σ H F R a hs r out => by
  refine gW_of (pg_sub (pe_tW _ _) (pe_tW _ _) (set_setW _) ha) ?_
  refine h σ H F _ a hs fun x H1 d1 M1 F1 s1 r1 q1 => ?_
  refine q1 σ H1 F1 _ (a.go s1) (hs.mono s1.fr) fun y H2 d2 M2 F2 s2 r2 q2 => ?_
  have s12 := s1.trans s2
  refine q2 H2 F2 x y v _ (a.go s12) (Rp.mono s2.fr _ _ r1) r2 (Rp.mono s12.fr _ _ r) fun H3 M3 F3 s3 q3 => ?_
  exact out σ δ H3 M3 F3 (s12.trans s3) (hs.mono (s12.trans s3).fr) q3
theorem opset_list {k : Nat} {q : Addr} {xs : List TD.D} {i : Int} {j : Nat} {R : Mu → Prop} (hk : M[k]? = some (q, .lst xs)) (hj : ixN xs.length i = some j) (h : R (M.set k (q, .lst (xs.set j d)))) : OpSet Y (.ptr q) (.int i) d M R := by
  intro H F vo vi vv W a ro ri rv out pins s σ ov iv u I r1 r2 r3
  obtain rfl := rp_ptr.mp ro
  obtain rfl := rp_int.mp ri
  obtain ⟨hF, o, hH, ys, rfl, ry⟩ := a.ok.mu _ (List.mem_of_getElem? hk)
  have st := Stp.write (m' := .lst (xs.set j d)) (o' := .lst (ys.set j vv)) a.ok hk ⟨_, rfl, Rps.set rv j ry⟩
  exact set_list pins s σ H _ _ _ ov iv u W I r1 r2 r3 ⟨q, ys, i, j, rfl, rfl, hH, by rw [← ry.len]; exact hj, out _ _ _ st h⟩

theorem e1_asg (h : Ev Y δ M e fun x M1 => Eg Y tg x δ M1 D.nx) (hs : swapsWithSole [tg] e pos.line Y.X.env = pure false := by rfl) (hw : swappedStores [tg] e Y.X.env = pure none := by rfl)
    (h1 : (assignEach [tg] Y.X.env).map (·.2) = [assign tg Y.X.env] := by rfl) : E1 Y δ M (.Assign [tg] e pos) D := fun σ H F E a hs' o => by
  refine tS_of (ps_asg (pe_tW _ _) (pg_gW _ _) hs hw h1) ?_
  refine h σ H F _ a hs' fun v H1 d M1 F1 s1 r1 q1 => ?_
  exact q1 v σ H1 F1 _ (a.go s1) (hs'.mono s1.fr) r1 fun σ' δ' H' M' F' s r q => o.nx σ' δ' F' M' H' ((a.go s1).go s) (s1.fr.trans s.fr) r q
theorem e1_set [C : COk Y] (i : Nat) {x : Str} {pos' : Pos} (h : Ev Y δ M e fun d M1 => D.nx (δ.set i (some d)) M1) (hi : Y.X.N[i]? = some x := by rfl) (hx : Loc Y.X.env.scope x := by first | exact Or.inl rfl | exact Or.inr rfl)
    (hs : swapsWith e (some (.Name x pos')) pos.line Y.X.env = pure false := by rfl) (hf : Y.X.fn x = true ∨ Y.X.env.scope.names.lookup x = some .local := by first | exact .inl rfl | exact .inr rfl) : E1 Y δ M (.Assign [.Name x pos'] e pos) D := fun σ H F E a hs' o => by
  refine tS_of (ps_set (i := i) C.nd hi hx (pe_tW _ _) hs hf) ?_
  refine h σ H F _ a hs' fun v H1 d M1 F1 s1 r1 q1 => ?_
  exact o.nx _ _ F1 M1 H1 (a.go s1) s1.fr ((hs'.mono s1.fr).set r1 i) q1
/-- a, b = x, y -/
theorem e1_par [C : COk Y] (i j : Nat) {x y : Str} {px py pt : Pos} {kt k2 : Nat} {pt2 : Pos} (h : Ea Y δ M [a, b] fun ds M1 => ∃ u v, ds = [u, v] ∧ D.nx ((δ.set i (some u)).set j (some v)) M1) (hi : Y.X.N[i]? = some x := by rfl) (hj : Y.X.N[j]? = some y := by rfl) (hij : i ≠ j := by decide)
    (hx : Y.X.env.scope.names.lookup x = some .local := by rfl) (hy : Y.X.env.scope.names.lookup y = some .local := by rfl)
    (hw : swappedStores [.Tuple [.Name x px, .Name y py] kt pt] (.Tuple [a, b] k2 pt2) Y.X.env = pure (some [x, y]) := by rfl)
    (hs : swapsWithSole [.Tuple [.Name x px, .Name y py] kt pt] (.Tuple [a, b] k2 pt2) pos.line Y.X.env = pure false := by rfl) : E1 Y δ M (.Assign [.Tuple [.Name x px, .Name y py] kt pt] (.Tuple [a, b] k2 pt2) pos) D := fun σ H F E a0 hs' o => by
  refine tS_of (ps_par (i := i) (j := j) C.calm C.nd hi hj hij hx hy (pa_tW _ _) hw hs) ?_
  refine h σ H F _ a0 hs' fun vs H1 ds M1 F1 s1 r1 ⟨u, v, e, q1⟩ => ?_
  subst e
  obtain ⟨w1, r', rfl, r2, r3⟩ := rps_cons.mp r1
  obtain ⟨w2, r', rfl, r4, r5⟩ := rps_cons.mp r3
  obtain rfl := rps_nil.mp r5
  exact ⟨w1, w2, rfl, o.nx _ _ F1 M1 H1 (a0.go s1) s1.fr (((hs'.mono s1.fr).set r2 i).set r4 j) q1⟩
/-- x op= e -/
def ipW (X : Cx) (op : Operator) : TIp := fun x y H R => ∀ (pins : List (Addr × Obj)) (s : Shared) (σ : L2.St) (v u : Value), Inv X pins σ H s → RelV x v → RelV y u → wpAny (model X.prog X.w) X.A (inplaceOp op v u) (EP X pins σ R) X.xe s
theorem ip_ipW (X : Cx) (op : Operator) : PIp X op (ipW X op) := fun pins s σ H x y v u Q I r1 r2 h => h pins s σ v u I r1 r2
theorem e1_aug [C : COk Y] (i : Nat) {x : Str} {op : Operator} {pos' : Pos} {d0 : TD.D} (hd : δ[i]? = some (some d0)) (h : Ev Y δ M e fun y M1 => Op2 Y (inplaceOp op) d0 y M1 fun z M2 => D.nx (δ.set i (some z)) M2) (hi : Y.X.N[i]? = some x := by rfl) (hx : Loc Y.X.env.scope x := by first | exact Or.inl rfl | exact Or.inr rfl)
    (hf : Y.X.fn x = true ∨ Y.X.env.scope.names.lookup x = some .local := by first | exact .inl rfl | exact .inr rfl) : E1 Y δ M (.AugAssign (.Name x pos') op e pos) D := fun σ H F E a hs' o => by
  refine tS_of (ps_aug (i := i) C.nd hi hx (pe_tW _ _) (ip_ipW _ _) hf) ?_
  obtain ⟨v0, hv0, r0⟩ := hs'.sl i d0 hd
  refine ⟨v0, hv0, ?_⟩
  refine h σ H F _ a hs' fun y H1 d M1 F1 s1 r1 q1 => ?_
  refine q1 H1 F1 v0 y _ (a.go s1) (Rp.mono s1.fr _ _ r0) r1 fun z H2 d2 M2 F2 s2 r2 q2 => ?_
  exact o.nx _ _ F2 M2 H2 ((a.go s1).go s2) (s1.trans s2).fr ((hs'.mono (s1.trans s2).fr).set r2 i) q2
/-- x[i] op= e : the item read, the sum stored -/
def getW (X : Cx) : V → V → Hp → VK → Prop := fun x y H R => ∀ (pins : List (Addr × Obj)) (s : Shared) (σ : L2.St) (v u : Value), Inv X pins σ H s → RelV x v → RelV y u → wpAny (model X.prog X.w) X.A (getItem v u) (EP X pins σ R) X.xe s
theorem get_getW (X : Cx) : PGet X (getW X) := fun pins s σ H x y v u Q I r1 r2 h => h pins s σ v u I r1 r2
def OpG (Y : Cc) (x y : TD.D) (M : Mu) (Q : TD.D → Mu → Prop) : Prop := ∀ (H F : Hp) (vx vy : V) (R : VK), Y.At F M H → Rp Y.X.K F x vx → Rp Y.X.K F y vy → Out Y.X.K F M H Q R → getW Y.X vx vy H R
theorem e1_augS {o i : Expr} {op : Operator} {tpos : Pos} (h : Ev Y δ M o fun x M1 => Ev Y δ M1 i fun y M2 => OpG Y x y M2 fun z M3 => Ev Y δ M3 e fun u M4 => Op2 Y (inplaceOp op) z u M4 fun w M5 => OpSet Y x y w M5 fun M6 => D.nx δ M6)
    (ha : ∀ ov iv new, augStore i ov iv new = (do holding [new, ov, iv] (setItem ov iv new); release [new, ov, iv] []; pure .next) := by intros; rfl) : E1 Y δ M (.AugAssign (.Subscript o i tpos) op e pos) D := fun σ H F E a hs o' => by
  refine tS_of (ps_augS (pe_tW _ _) (pe_tW _ _) (get_getW _) (pe_tW _ _) (ip_ipW _ _) (set_setW _) ha) ?_
  refine h σ H F _ a hs fun x H1 d1 M1 F1 s1 r1 q1 => ?_
  refine q1 σ H1 F1 _ (a.go s1) (hs.mono s1.fr) fun y H2 d2 M2 F2 s2 r2 q2 => ?_
  have t2 := s1.trans s2
  refine q2 H2 F2 x y _ (a.go t2) (Rp.mono s2.fr _ _ r1) r2 fun z H3 d3 M3 F3 s3 r3 q3 => ?_
  have t3 := t2.trans s3
  refine q3 σ H3 F3 _ (a.go t3) (hs.mono t3.fr) fun u H4 d4 M4 F4 s4 r4 q4 => ?_
  have t4 := t3.trans s4
  refine q4 H4 F4 z u _ (a.go t4) (Rp.mono s4.fr _ _ r3) r4 fun w H5 d5 M5 F5 s5 r5 q5 => ?_
  have t5 := t4.trans s5
  refine q5 H5 F5 x y w _ (a.go t5) (Rp.mono (s2.fr.trans (s3.fr.trans (s4.fr.trans s5.fr))) _ _ r1) (Rp.mono (s3.fr.trans (s4.fr.trans s5.fr)) _ _ r2) r5 fun H6 M6 F6 s6 q6 => ?_
  exact o'.nx _ _ F6 M6 H6 (a.go (t5.trans s6)) (t5.trans s6).fr (hs.mono (t5.trans s6).fr) q6

/-! ### while: by the turns left -/
def WhL (Y : Cc) (c : Expr) (body : List Stmt) (D : Fx) : Nat → Dl → Mu → Prop
  | 0, _, _ => False
  | n + 1, δ, M => Et Y δ M c fun k M1 => if k = true then Es Y δ M1 body { D with nx := WhL Y c body D n, ct := WhL Y c body D n, bk := D.nx } else D.nx δ M1
theorem e1_while [C : CPo Y] {body : List Stmt} (n : Nat) (h : WhL Y c body D n δ M) : E1 Y δ M (.While c body [] pos) D := fun σ H F E a hs o => by
  refine tS_of (ps_while C.po (pt_tW _ _) (pss_tS _ _)) ?_
  refine ⟨fun m σ H => ∃ δ M F', Y.At F' M H ∧ Same F F' ∧ SRs Y.X.K F' δ σ ∧ WhL Y c body D m δ M, ⟨n, δ, M, F, a, Same.refl _, hs, h⟩, ?_⟩
  rintro m σ H ⟨δ, M, F', a, sf, hs, h⟩
  cases m with
  | zero => exact h.elim
  | succ m =>
    rw [WhL] at h
    refine h σ H F' _ a hs fun k H1 M1 F1 s1 q1 => ?_
    cases k with
    | false =>
      rw [if_neg Bool.false_ne_true] at q1 ⊢
      exact o.nx _ _ F1 M1 H1 (a.go s1) (sf.trans s1.fr) (hs.mono s1.fr) q1
    | true =>
      rw [if_pos rfl] at q1 ⊢
      refine ⟨fun σ H => ∃ δ M F', Y.At F' M H ∧ Same F F' ∧ SRs Y.X.K F' δ σ ∧ WhL Y c body D m δ M, fun σ' H' w => ⟨m, Nat.lt_succ_self _, w⟩, ?_⟩
      have sf1 := sf.trans s1.fr
      exact q1 σ H1 F1 _ (a.go s1) (hs.mono s1.fr) ⟨fun σ' δ' F' M' H' a' e' h' q' => ⟨δ', M', F', a', sf1.trans e', h', q'⟩, fun v d F' M' H' a' e' => o.rt v d F' M' H' a' (sf1.trans e'),
        fun σ' δ' F' M' H' a' e' => o.nx σ' δ' F' M' H' a' (sf1.trans e'), fun σ' δ' F' M' H' a' e' h' q' => ⟨δ', M', F', a', sf1.trans e', h', q'⟩⟩

/-! ### for: over data -/
/-- what is walked gives these data, one by one -/
structure ItD (Y : Cc) (ds : List TD.D) (J : It) (F : Hp) (M : Mu) (H : Hp) : Prop where
  go : ∀ i d, ds[i]? = some d → ∀ F' M' H', Y.At F' M' H' → Same F F' → J.go i H' ∧ ∀ x H2, J.yld i H' x H2 → ∃ F2, Stp Y.X.K F' M' H' F2 M' H2 ∧ Rp Y.X.K F2 d x
  stop : ∀ F' M' H', Y.At F' M' H' → Same F F' → J.stop ds.length H'
def Ei (Y : Cc) (δ : Dl) (M : Mu) (tg it : Expr) (Q : List TD.D → Mu → Prop) : Prop :=
  ∃ wi, PI Y.X tg it wi ∧ ∀ (σ : L2.St) (H F : Hp) (R : It → Hp → Prop), Y.At F M H → SRs Y.X.K F δ σ →
    (∀ J H' M' F' ds, Stp Y.X.K F M H F' M' H' → ItD Y ds J F' M' H' → Q ds M' → R J H') → wi σ H R
def ForL (Y : Cc) (tg : Expr) (body : List Stmt) (D : Fx) : List TD.D → Dl → Mu → Prop
  | [], δ, M => D.nx δ M
  | d :: ds, δ, M => Eg Y tg d δ M fun δ1 M1 => Es Y δ1 M1 body { D with nx := ForL Y tg body D ds, ct := ForL Y tg body D ds, bk := D.nx }
theorem e1_for [C : COk Y] [C2 : CPo Y] {it : Expr} {body : List Stmt} (h : Ei Y δ M tg it fun ds M1 => ForL Y tg body D ds δ M1) (hs : ∀ x, foldedSetIterable it Y.X.env x = pure x := by intro _; rfl) : E1 Y δ M (.For tg it body [] pos) D := fun σ H F E a hs' o => by
  obtain ⟨wi, pi, h⟩ := h
  refine tS_of (ps_for C2.po C.calm pi (pg_gW _ _) (pss_tS _ _) hs) ?_
  refine h σ H F _ a hs' fun J H1 M1 F1 ds s1 it1 q1 => ?_
  refine ⟨fun i m σ H => ∃ δ M F, Y.At F M H ∧ Same F1 F ∧ SRs Y.X.K F δ σ ∧ i ≤ ds.length ∧ m = ds.length - i ∧ ForL Y tg body D (ds.drop i) δ M, ⟨ds.length, δ, M1, F1, a.go s1, Same.refl _, hs'.mono s1.fr, Nat.zero_le _, by simp, by simpa using q1⟩, ?_⟩
  rintro i m σ H ⟨δ, M, F, a, sf, hs, hi, rfl, q⟩
  by_cases hlt : i < ds.length
  · have e : ds.drop i = ds[i] :: ds.drop (i + 1) := (List.drop_eq_getElem_cons hlt)
    rw [e, ForL] at q
    obtain ⟨g1, g2⟩ := it1.go i ds[i] (List.getElem?_eq_getElem hlt) F M H a sf
    refine .inr ⟨g1, fun σ' H' => ∃ δ M F, Y.At F M H' ∧ Same F1 F ∧ SRs Y.X.K F δ σ' ∧ ForL Y tg body D (ds.drop (i + 1)) δ M, fun σ' H' ⟨δ', M', F', a', sf', h', q'⟩ => ⟨ds.length - (i + 1), by omega, δ', M', F', a', sf', h', hlt, rfl, q'⟩, fun x H2 y => ?_⟩
    obtain ⟨F2, s2, r2⟩ := g2 x H2 y
    refine q x σ H2 F2 _ (a.go s2) (hs.mono s2.fr) r2 fun σ3 δ3 H3 M3 F3 s3 h3 q3 => ?_
    refine q3 σ3 H3 F3 _ ((a.go s2).go s3) h3 ?_
    have t : Same F F3 := s2.fr.trans s3.fr
    have t1 : Same F1 F3 := sf.trans t
    exact ⟨fun σ' δ' F' M' H' a' e' h' q' => ⟨δ', M', F', a', t1.trans e', h', q'⟩, fun v d F' M' H' a' e' => o.rt v d F' M' H' a' ((s1.fr.trans t1).trans e'),
      fun σ' δ' F' M' H' a' e' => o.nx σ' δ' F' M' H' a' ((s1.fr.trans t1).trans e'), fun σ' δ' F' M' H' a' e' h' q' => ⟨δ', M', F', a', t1.trans e', h', q'⟩⟩
  · have e : i = ds.length := by omega
    subst e
    rw [List.drop_length, ForL] at q
    exact .inl ⟨it1.stop F M H a sf, o.nx _ _ F M H a (s1.fr.trans sf) hs q⟩
end
end TD

namespace TD
open PySem PySem.Spec PyProof.Rows L2

/-! ### the defs' promises over data -/
abbrev WC := Value → Fld → Mu → Prop
abbrev Ct := List D → Mu → (D → Mu → Prop) → WC → Prop
def spD (K : PySem.W.Frag) (C : Ct) : Sp := fun vs H Q E => ∃ (F : Hp) (M : Mu) (ds : List D) (Qd : D → Mu → Prop) (Ed : WC), SRh K F M H ∧ Rps K F ds vs ∧ C ds M Qd Ed ∧
  (∀ v d F' M' H', Stp K F M H F' M' H' → Rp K F' d v → Qd d M' → Q v H') ∧ (∀ cls o fl F' M' H', Stp K F M H F' M' H' → XR K F' H' o fl → Ed cls fl M' → E cls o H')
structure FnD (P : Program) (w : World) (K : PySem.W.Frag) (mg : Str → Option Value) (base : Heap) (k : Nat) (x : Str) (C : Ct) : Prop where
  ex : ∃ (f : Addr) (fd : FuncData) (ps : List Str), FnOk P w K mg base (L2.CX P w) k f fd ps (spD K C) ∧ mg x = some (.ref f) ∧ PySem.W.keepIn K (.ref f) = true ∧ Binds K fd ps []
theorem FnD.imp {P : Program} {w : World} {K : PySem.W.Frag} {mg : Str → Option Value} {base : Heap} {k : Nat} {x : Str} {C C' : Ct} (h : FnD P w K mg base k x C) (i : ∀ ds M Q E, C' ds M Q E → C ds M Q E) : FnD P w K mg base k x C' := by
  obtain ⟨f, fd, ps, F, a, b, c⟩ := h.ex
  exact ⟨f, fd, ps, F.imp (fun vs H Q E ⟨F, M, ds, Qd, Ed, h1, h2, h3, h4⟩ => ⟨F, M, ds, Qd, Ed, h1, h2, i _ _ _ _ h3, h4⟩), a, b, c⟩
theorem FnD.mono {P : Program} {w : World} {K : PySem.W.Frag} {mg : Str → Option Value} {base : Heap} {k j : Nat} {x : Str} {C : Ct} (h : FnD P w K mg base k x C) (i : k ≤ j) : FnD P w K mg base j x C := by
  obtain ⟨f, fd, ps, F, a⟩ := h.ex
  exact ⟨f, fd, ps, F.mono i, a⟩
section
variable {Y : Cc} {δ : Dl} {M : Mu} {Q : D → Mu → Prop} {e : Expr} {es : List Expr} {pos p : Pos}
theorem ev_call [C : COk Y] {k : Nat} {x : Str} {R : Ct} (f : FnD Y.X.prog Y.X.w Y.X.K Y.X.mg Y.X.base k x R) (h : Ea Y δ M (e :: es) fun xs M1 => R xs M1 Q fun cls fl M2 => Y.W cls fl δ M2) (hk : k ≤ Y.lv := by exact Nat.le_of_ble_eq_true rfl) (hg : Gl Y.X x := by rfl)
    (hdb : (x == ("__debug__" : Str)) = false := by decide) (he : starEach (e :: es) Y.X.env = (false, eval e Y.X.env) :: starEach es Y.X.env := by rfl) (hpl : (backTo pos (starEach es Y.X.env)).any (·.1) = false := by rfl) : Ev Y δ M (.Call (.Name x p) (e :: es) [] pos) Q := by
  obtain ⟨f, fd, ps, F, m, kp, b⟩ := f.ex
  intro σ H F0 R0 at0 hs o
  refine tW_of (pe_callS F (C.rm.mono hk) hg m kp b (fun σ => passAt C.tk σ) (pa_tW _ _) hdb he hpl) ?_
  refine h σ H F0 _ at0 hs fun vs H1 ds M1 F1 s1 r1 q1 => ?_
  refine ⟨F1, M1, ds, _, _, s1.ok, r1, q1, fun v d F' M' H' s r q => o v H' d M' F' (s1.trans s) r q, fun cls od fl F' M' H' s r q => ?_⟩
  exact ⟨F', M', δ, fl, at0.go (s1.trans s), hs.mono (s1.trans s).fr, r, q⟩
end

/-! ### a def's body -/
structure Zp where
  f : Addr
  cdv : Value
  A : Around
  outer : List Env
  s : Shared
  H : Hp
  E : XK
  F : Hp
def yOf (P : Program) (w : World) (K : PySem.W.Frag) (mg : Str → Option Value) (base : Heap) (N : List Str) (qual : Str) (scope : Scope) (k : Nat) (Z : Zp) (M : Mu) (Ed : WC) : Cc :=
  ⟨cxOf (L2.CX P w) P w K mg base N qual scope Z.f Z.cdv Z.A Z.outer Z.s Z.H Z.E, ⟨Z.F, M, Z.H⟩, fun cls fl _ M' => ∃ M1, M1.Sublist M' ∧ Ed cls fl M1, k⟩
def dOf (N : List Str) (ds : List D) : Dl := ds.map some ++ List.replicate (N.length - ds.length) none
theorem FnO.mk' {P : Program} {w : World} {K : PySem.W.Frag} {mg : Str → Option Value} {base : Heap} {k : Nat} {x qual : Str} {st : Stmt} {f : Addr} {fd : FuncData} {N ps : List Str} {C : Ct} (F : Fun K x qual st f fd) (S : FnScope N ps (defScope st))
    (hlen : ∀ ds M Q E, C ds M Q E → ds.length = ps.length) (hN : ps.length ≤ N.length)
    (body : ∀ (Z : Zp) (ds : List D) (M : Mu) (Q : D → Mu → Prop) (E : WC), C ds M Q E → COk (yOf P w K mg base N qual (defScope st) k Z M E) → CPo (yOf P w K mg base N qual (defScope st) k Z M E) →
      Es (yOf P w K mg base N qual (defScope st) k Z M E) (dOf N ds) M (defBody st) { nx := fun _ M' => ∃ M1, M1.Sublist M' ∧ Q .non M1, rt := fun d M' => ∃ M1, M1.Sublist M' ∧ Q d M1 }) : FnOk P w K mg base (L2.CX P w) (k + 1) f fd ps (spD K C) := by
  refine F.okX S (fun vs H Q E h => ?_) (fun cdv A outer s H vs Q E hr h => ?_)
  · obtain ⟨F0, M, ds, Qd, Ed, h1, h2, h3, _⟩ := h
    rw [← h2.len]; exact hlen _ _ _ _ h3
  · obtain ⟨F0, M, ds, Qd, Ed, h1, h2, h3, h4, h5⟩ := h
    have ok : COk (yOf P w K mg base N qual (defScope st) k ⟨f, cdv, A, outer, s, H, E, F0⟩ M Ed) := {
      calm := rfl
      nd := S.nd
      tk := (takes_of (X := cxOf (L2.CX P w) P w K mg base N qual (defScope st) f cdv A outer s H E) rfl rfl rfl rfl).imp fun cls d σ H' ⟨F', M', δ, fl, a, _, r, M1, hM, q⟩ => h5 cls d fl F' M1 H' (Stp.trans a (Stp.sub a.ok hM)) r q
      rm := hr }
    have po : CPo (yOf P w K mg base N qual (defScope st) k ⟨f, cdv, A, outer, s, H, E, F0⟩ M Ed) := ⟨passes_of rfl⟩
    have b := body ⟨f, cdv, A, outer, s, H, E, F0⟩ ds M Qd Ed h3 ok po
    refine ⟨tSs _ (defBody st), pss_tS _ _, ?_⟩
    refine b (L2.start N vs) H F0 _ (Stp.refl h1) ⟨?_, fun i d hd => ?_⟩ ⟨fun σ δ F' M' H' a _ hs q => ?_, fun v d F' M' H' a _ r q => ?_, fun _ _ _ _ _ _ _ _ z => z.elim, fun _ _ _ _ _ _ _ _ z => z.elim⟩
    · have := h2.len
      simp [dOf, L2.start, this]
    · have hl := h2.len
      unfold dOf at hd
      unfold L2.start
      by_cases hi : i < ds.length
      · rw [List.getElem?_append_left (by simpa using hi), List.getElem?_map] at hd
        cases e : ds[i]? with
        | none => rw [e] at hd; cases hd
        | some d' =>
          rw [e] at hd
          cases hd
          obtain ⟨v, hv, r⟩ := h2.get e
          exact ⟨v, by rw [List.getElem?_append_left (by simp; omega), List.getElem?_map, hv]; rfl, r⟩
      · rw [List.getElem?_append_right (by simp; omega), List.getElem?_replicate] at hd
        split at hd <;> cases hd
    · obtain ⟨M1, hM, q⟩ := q
      exact h4 .non .non F' M1 H' (Stp.trans a (Stp.sub a.ok hM)) (by rw [Rp]) q
    · obtain ⟨M1, hM, q⟩ := q
      exact h4 v d F' M1 H' (Stp.trans a (Stp.sub a.ok hM)) r q
theorem FnD.mk' {P : Program} {w : World} {K : PySem.W.Frag} {mg : Str → Option Value} {base : Heap} {k : Nat} {x qual y : Str} {st : Stmt} {f : Addr} {fd : FuncData} {N ps : List Str} {C : Ct} (F : Fun K x qual st f fd) (S : FnScope N ps (defScope st))
    (hm : mg y = some (.ref f)) (hb : Binds K fd ps []) (hlen : ∀ ds M Q E, C ds M Q E → ds.length = ps.length) (hN : ps.length ≤ N.length)
    (body : ∀ (Z : Zp) (ds : List D) (M : Mu) (Q : D → Mu → Prop) (E : WC), C ds M Q E → COk (yOf P w K mg base N qual (defScope st) k Z M E) → CPo (yOf P w K mg base N qual (defScope st) k Z M E) →
      Es (yOf P w K mg base N qual (defScope st) k Z M E) (dOf N ds) M (defBody st) { nx := fun _ M' => ∃ M1, M1.Sublist M' ∧ Q .non M1, rt := fun d M' => ∃ M1, M1.Sublist M' ∧ Q d M1 }) : FnD P w K mg base (k + 1) y C :=
  ⟨f, fd, ps, FnO.mk' F S hlen hN body, hm, F.kp, hb⟩

/-! ### what is walked -/
section
variable {Y : Cc} {δ : Dl} {M : Mu} {e it tg : Expr} {es : List Expr} {pos p : Pos} {Q : List D → Mu → Prop} {K : PySem.W.Frag} {F : Hp} {H : Hp}
theorem itd_list {a : Addr} {xs : List V} {ds : List D} (hF : SqL Y.X.K F a xs) (r : Rps Y.X.K F ds xs) : ItD Y ds (Itl Y.X.K a) F M H where
  go := fun i d hd F' M' H' at0 sf => by
    obtain ⟨x, hx, rx⟩ := r.get hd
    have hq : SqL Y.X.K H' a xs := Same.seq at0.ok.sub (Same.seq sf hF)
    refine ⟨⟨xs, x, hq, hx⟩, fun y H2 hy => ?_⟩
    obtain ⟨e, hy⟩ := hy
    subst e
    have := hy xs hq
    rw [hx] at this; cases this
    exact ⟨F', Stp.refl at0.ok, Rp.mono sf _ _ rx⟩
  stop := fun F' M' H' at0 sf => ⟨xs, Same.seq at0.ok.sub (Same.seq sf hF), by rw [r.len]; exact Nat.le_refl _⟩
theorem itd_tup {a : Addr} {xs : List V} {ds : List D} (hF : SqT Y.X.K F a xs) (r : Rps Y.X.K F ds xs) : ItD Y ds (Itt Y.X.K a) F M H where
  go := fun i d hd F' M' H' at0 sf => by
    obtain ⟨x, hx, rx⟩ := r.get hd
    have hq : SqT Y.X.K H' a xs := Same.tup at0.ok.sub (Same.tup sf hF)
    refine ⟨⟨xs, x, hq, hx⟩, fun y H2 hy => ?_⟩
    obtain ⟨e, hy⟩ := hy
    subst e
    have := hy xs hq
    rw [hx] at this; cases this
    exact ⟨F', Stp.refl at0.ok, Rp.mono sf _ _ rx⟩
  stop := fun F' M' H' at0 sf => ⟨xs, Same.tup at0.ok.sub (Same.tup sf hF), by rw [r.len]; exact Nat.le_refl _⟩
/-- data that is walked as a list: a list, or the script -/
inductive SqD : D → List D → Prop
  | lst (ds : List D) : SqD (.lst ds) ds
  | scr (ns : List Int) : SqD (.scr ns) (ns.map D.int)
theorem SqD.at {d : D} {ds : List D} (h : SqD d ds) {v : V} (r : Rp K F d v) : ∃ a xs, v = .ref a ∧ SqL K F a xs ∧ Rps K F ds xs := by
  cases h with
  | lst =>
    obtain ⟨a, xs, e, h, r⟩ := rp_lst.mp r
    exact ⟨a, xs, e, .of h, r⟩
  | scr ns =>
    obtain ⟨a, e, h⟩ := rp_scr.mp r
    exact ⟨a, _, e, h, Rps.ints ns⟩
theorem ei_list (h : Ev Y δ M it fun d M1 => ∃ ds, SqD d ds ∧ Q ds M1) : Ei Y δ M tg it Q := by
  refine ⟨_, pi_list (pe_tW _ _), fun σ H F R at0 hs o => h σ H F _ at0 hs fun v H1 d M1 F1 s1 r1 ⟨ds, sd, q1⟩ => ?_⟩
  obtain ⟨a, xs, rfl, hF, r⟩ := sd.at r1
  exact ⟨a, rfl, ⟨xs, Same.seq s1.ok.sub hF⟩, o _ H1 M1 F1 ds s1 (itd_list hF r) q1⟩
theorem ei_tup (h : Ev Y δ M it fun d M1 => ∃ ds, d = .tup ds ∧ Q ds M1) : Ei Y δ M tg it Q := by
  refine ⟨_, pi_tup (pe_tW _ _), fun σ H F R at0 hs o => h σ H F _ at0 hs fun v H1 d M1 F1 s1 r1 ⟨ds, sd, q1⟩ => ?_⟩
  subst sd
  obtain ⟨a, xs, rfl, hF, r⟩ := rp_tup.mp r1
  exact ⟨a, rfl, ⟨xs, Same.tup s1.ok.sub hF⟩, o _ H1 M1 F1 ds s1 (itd_tup hF r) q1⟩
def rngD (lo : Int) (n : Nat) : List D := (List.range n).map fun i => .int (lo + (i : Nat))
theorem rngD_len (lo : Int) (n : Nat) : (rngD lo n).length = n := by simp [rngD]
theorem itd_rng {lo : Int} {n : Nat} : ItD Y (rngD lo n) (Itr lo n) F M H where
  go := fun i d hd F' M' H' at0 sf => by
    have hi : i < n := by
      rcases Nat.lt_or_ge i n with z | z
      · exact z
      · rw [List.getElem?_eq_none (by rw [rngD_len]; exact z)] at hd; cases hd
    have hd' : d = .int (lo + (i : Nat)) := by
      simp [rngD, hi] at hd; exact hd.symm
    subst hd'
    refine ⟨hi, fun y H2 hy => ?_⟩
    obtain ⟨e, hy⟩ := hy
    subst e
    exact ⟨F', Stp.refl at0.ok, rp_int.mpr hy⟩
  stop := fun F' M' H' at0 sf => by
    show n ≤ (rngD lo n).length
    rw [rngD_len]; exact Nat.le_refl _
theorem ei_range1 (hm : Y.X.mg "range" = none) (h : Ea Y δ M [e] fun ds M1 => ∃ j : Int, ds = [.int j] ∧ -(2 ^ 62) ≤ j ∧ j < 2 ^ 62 ∧ Q (rngD 0 j.toNat) M1) (hg : Gl Y.X "range" := by rfl) (hs : starEach [e] Y.X.env = [(false, eval e Y.X.env)] := by rfl) : Ei Y δ M tg (.Call (.Name "range" p) [e] [] pos) Q := by
  refine ⟨_, pi_range1 hg hm (pa_tW _ _) hs, fun σ H F R at0 hs o => h σ H F _ at0 hs fun vs H1 ds M1 F1 s1 r1 ⟨j, e1, h1, h2, q1⟩ => ?_⟩
  subst e1
  obtain ⟨w, r', rfl, r2, r3⟩ := rps_cons.mp r1
  obtain rfl := rps_nil.mp r3
  obtain rfl := rp_int.mp r2
  exact ⟨j, rfl, h1, h2, o _ H1 M1 F1 _ s1 itd_rng q1⟩
theorem ei_range2 {e2 : Expr} (hm : Y.X.mg "range" = none) (h : Ea Y δ M [e, e2] fun ds M1 => ∃ i j : Int, ds = [.int i, .int j] ∧ (-(2 ^ 62) ≤ i ∧ i < 2 ^ 62 ∧ -(2 ^ 62) ≤ j ∧ j < 2 ^ 62) ∧ Q (rngD i (j - i).toNat) M1) (hg : Gl Y.X "range" := by rfl)
    (hs : starEach [e, e2] Y.X.env = [(false, eval e Y.X.env), (false, eval e2 Y.X.env)] := by rfl) (hs2 : starEach [e2] Y.X.env = [(false, eval e2 Y.X.env)] := by rfl) : Ei Y δ M tg (.Call (.Name "range" p) [e, e2] [] pos) Q := by
  refine ⟨_, pi_range2 hg hm (pa_tW _ _) hs hs2, fun σ H F R at0 hs o => h σ H F _ at0 hs fun vs H1 ds M1 F1 s1 r1 ⟨i, j, e1, h1, q1⟩ => ?_⟩
  subst e1
  obtain ⟨w, r', rfl, r2, r3⟩ := rps_cons.mp r1
  obtain ⟨w2, r', rfl, r4, r5⟩ := rps_cons.mp r3
  obtain rfl := rps_nil.mp r5
  obtain rfl := rp_int.mp r2
  obtain rfl := rp_int.mp r4
  exact ⟨i, j, rfl, h1, o _ H1 M1 F1 _ s1 itd_rng q1⟩
def signD (x : Str) : List D := x.cps.toList.map fun c => .str ⟨#[c]⟩
theorem itd_str {x : Str} : ItD Y (signD x) (Its x) F M H where
  go := fun i d hd F' M' H' at0 sf => by
    rw [signD, List.getElem?_map] at hd
    cases e : x.cps.toList[i]? with
    | none => rw [e] at hd; cases hd
    | some c =>
      rw [e] at hd; cases hd
      have e' : x.cps[i]? = some c := by simpa using e
      have hi : i < x.cps.size := by
        rcases Nat.lt_or_ge i x.cps.size with z | z
        · exact z
        · rw [Array.getElem?_eq_none z] at e'; cases e'
      refine ⟨hi, fun y H2 hy => ?_⟩
      obtain ⟨q, c', hc, rfl⟩ := hy
      subst q
      rw [e'] at hc; cases hc
      exact ⟨F', Stp.refl at0.ok, by rw [Rp]⟩
  stop := fun F' M' H' at0 sf => by
    show x.cps.size ≤ (signD x).length
    simp [signD]
theorem ei_str (h : Ev Y δ M it fun d M1 => ∃ x, d = .str x ∧ Q (signD x) M1) : Ei Y δ M tg it Q := by
  refine ⟨_, pi_str (pe_tW _ _), fun σ H F R at0 hs o => h σ H F _ at0 hs fun v H1 d M1 F1 s1 r1 ⟨x, sd, q1⟩ => ?_⟩
  subst sd
  obtain rfl := rp_str.mp r1
  exact ⟨x, rfl, o _ H1 M1 F1 _ s1 itd_str q1⟩
def enumFrom (i : Nat) : List D → List D
  | [] => []
  | d :: ds => .tup [.int (i : Nat), d] :: enumFrom (i + 1) ds
theorem enumFrom_len : ∀ (ds : List D) (i : Nat), (enumFrom i ds).length = ds.length
  | [], _ => rfl
  | d :: ds, i => by simp [enumFrom, enumFrom_len ds]
theorem enumFrom_get : ∀ (ds : List D) (i k : Nat) (d : D), (enumFrom i ds)[k]? = some d → ∃ x, ds[k]? = some x ∧ d = .tup [.int ((i + k : Nat) : Int), x]
  | [], _, _, _, h => by simp [enumFrom] at h
  | x :: ds, i, 0, d, h => by simp [enumFrom] at h; exact ⟨x, by simp, by simp [h]⟩
  | x :: ds, i, k + 1, d, h => by
    simp only [enumFrom, List.getElem?_cons_succ] at h
    obtain ⟨y, h1, h2⟩ := enumFrom_get ds (i + 1) k d h
    refine ⟨y, by simpa using h1, ?_⟩
    rw [h2]; congr 4; omega
theorem itd_enum {a : Addr} {xs : List V} {ds : List D} (hF : SqL Y.X.K F a xs) (r : Rps Y.X.K F ds xs) : ItD Y (enumFrom 0 ds) (Ite Y.X.K a) F M H where
  go := fun i d hd F' M' H' at0 sf => by
    obtain ⟨d', hd', rfl⟩ := enumFrom_get ds 0 i d hd
    obtain ⟨x, hx, rx⟩ := r.get hd'
    have hq : SqL Y.X.K H' a xs := Same.seq at0.ok.sub (Same.seq sf hF)
    refine ⟨⟨xs, x, hq, hx⟩, fun y H2 hy => ?_⟩
    obtain ⟨T, x', rfl, hT, rfl, hy⟩ := hy
    have := hy xs hq
    rw [hx] at this; cases this
    have s2 := Stp.frozen (o := .tup [.int (i : Nat), x]) at0.ok hT
    refine ⟨_, s2, rp_tup.mpr ⟨T, _, rfl, .of upd_same, Rps.cons (rp_int.mpr (by simp)) (Rps.cons (Rp.mono (sf.trans s2.fr) _ _ rx) Rps.nil)⟩⟩
  stop := fun F' M' H' at0 sf => ⟨xs, Same.seq at0.ok.sub (Same.seq sf hF), by rw [enumFrom_len, r.len]; exact Nat.le_refl _⟩
theorem ei_enum {elts : List Expr} {kk : Nat} {tpos : Pos} (hm : Y.X.mg "enumerate" = none) (h : Ea Y δ M [e] fun xs M1 => ∃ d ds, xs = [d] ∧ SqD d ds ∧ Q (enumFrom 0 ds) M1) (hg : Gl Y.X "enumerate" := by rfl) (hs : starEach [e] Y.X.env = [(false, eval e Y.X.env)] := by rfl) :
    Ei Y δ M (.Tuple elts kk tpos) (.Call (.Name "enumerate" p) [e] [] pos) Q := by
  refine ⟨_, pi_enum hg hm (pa_tW _ _) hs, fun σ H F R at0 hs o => h σ H F _ at0 hs fun vs H1 xs M1 F1 s1 r1 ⟨d, ds, e1, sd, q1⟩ => ?_⟩
  subst e1
  obtain ⟨w, r', rfl, r2, r3⟩ := rps_cons.mp r1
  obtain rfl := rps_nil.mp r3
  obtain ⟨a, xs, rfl, hF, r⟩ := sd.at r2
  exact ⟨a, xs, rfl, Same.seq s1.ok.sub hF, o _ H1 M1 F1 _ s1 (itd_enum hF r) q1⟩
def zipD (xs ys : List D) : List D := (xs.zip ys).map fun p => .tup [p.1, p.2]
theorem zipD_get {xs ys : List D} {i : Nat} {d : D} (h : (zipD xs ys)[i]? = some d) : ∃ x y, xs[i]? = some x ∧ ys[i]? = some y ∧ d = .tup [x, y] := by
  rw [zipD, List.getElem?_map] at h
  cases e : (xs.zip ys)[i]? with
  | none => rw [e] at h; cases h
  | some q =>
    rw [e] at h; cases h
    obtain ⟨x, y⟩ := q
    obtain ⟨h1, h2⟩ := List.getElem?_zip_eq_some.mp e
    exact ⟨x, y, h1, h2, rfl⟩
theorem itd_zip {a b : Addr} {xs ys : List V} {ds es : List D} (hF : SqL Y.X.K F a xs) (r : Rps Y.X.K F ds xs) (hF2 : SqL Y.X.K F b ys) (r2 : Rps Y.X.K F es ys) : ItD Y (zipD ds es) (Itz Y.X.K a b) F M H where
  go := fun i d hd F' M' H' at0 sf => by
    obtain ⟨d1, d2, h1, h2, rfl⟩ := zipD_get hd
    obtain ⟨x, hx, rx⟩ := r.get h1
    obtain ⟨y, hy, ry⟩ := r2.get h2
    have hq : SqL Y.X.K H' a xs := Same.seq at0.ok.sub (Same.seq sf hF)
    have hq2 : SqL Y.X.K H' b ys := Same.seq at0.ok.sub (Same.seq sf hF2)
    refine ⟨⟨xs, ys, x, y, hq, hq2, hx, hy⟩, fun z H2 hz => ?_⟩
    obtain ⟨T, x', y', rfl, hT, rfl, hz, hz2⟩ := hz
    have e1 := hz xs hq
    have e2 := hz2 ys hq2
    rw [hx] at e1; cases e1
    rw [hy] at e2; cases e2
    have s2 := Stp.frozen (o := .tup [x, y]) at0.ok hT
    exact ⟨_, s2, rp_tup.mpr ⟨T, _, rfl, .of upd_same, Rps.cons (Rp.mono (sf.trans s2.fr) _ _ rx) (Rps.cons (Rp.mono (sf.trans s2.fr) _ _ ry) Rps.nil)⟩⟩
  stop := fun F' M' H' at0 sf => ⟨xs, ys, Same.seq at0.ok.sub (Same.seq sf hF), Same.seq at0.ok.sub (Same.seq sf hF2), by
    have := r.len
    have := r2.len
    simp [zipD]; omega⟩
theorem itd_zipT {a b : Addr} {xs ys : List V} {ds es : List D} (hF : SqT Y.X.K F a xs) (r : Rps Y.X.K F ds xs) (hF2 : SqT Y.X.K F b ys) (r2 : Rps Y.X.K F es ys) : ItD Y (zipD ds es) (RZ.ItzT Y.X.K a b) F M H where
  go := fun i d hd F' M' H' at0 sf => by
    obtain ⟨d1, d2, h1, h2, rfl⟩ := zipD_get hd
    obtain ⟨x, hx, rx⟩ := r.get h1
    obtain ⟨y, hy, ry⟩ := r2.get h2
    have hq : SqT Y.X.K H' a xs := Same.tup at0.ok.sub (Same.tup sf hF)
    have hq2 : SqT Y.X.K H' b ys := Same.tup at0.ok.sub (Same.tup sf hF2)
    refine ⟨⟨xs, ys, x, y, hq, hq2, hx, hy⟩, fun z H2 hz => ?_⟩
    obtain ⟨T, x', y', rfl, hT, rfl, hz, hz2⟩ := hz
    have e1 := hz xs hq
    have e2 := hz2 ys hq2
    rw [hx] at e1; cases e1
    rw [hy] at e2; cases e2
    have s2 := Stp.frozen (o := .tup [x, y]) at0.ok hT
    exact ⟨_, s2, rp_tup.mpr ⟨T, _, rfl, .of upd_same, Rps.cons (Rp.mono (sf.trans s2.fr) _ _ rx) (Rps.cons (Rp.mono (sf.trans s2.fr) _ _ ry) Rps.nil)⟩⟩
  stop := fun F' M' H' at0 sf => ⟨xs, ys, Same.tup at0.ok.sub (Same.tup sf hF), Same.tup at0.ok.sub (Same.tup sf hF2), by
    have := r.len
    have := r2.len
    simp [zipD]; omega⟩
/-- zip of two lists, or of two tuples -/
inductive ZipOk : D → D → List D → List D → Prop
  | lst {d e : D} {ds es : List D} : SqD d ds → SqD e es → ZipOk d e ds es
  | tup {ds es : List D} : ZipOk (.tup ds) (.tup es) ds es
theorem ei_zip {e2 : Expr} {elts : List Expr} {kk : Nat} {tpos : Pos} (hm : Y.X.mg "zip" = none) (h : Ea Y δ M [e, e2] fun xs M1 => ∃ d d2 ds es, xs = [d, d2] ∧ ZipOk d d2 ds es ∧ Q (zipD ds es) M1) (hg : Gl Y.X "zip" := by rfl)
    (hs : starEach [e, e2] Y.X.env = (false, eval e Y.X.env) :: starEach [e2] Y.X.env := by rfl) (hpl : (backTo pos (starEach [e2] Y.X.env)).any (·.1) = false := by rfl) : Ei Y δ M (.Tuple elts kk tpos) (.Call (.Name "zip" p) [e, e2] [] pos) Q := by
  refine ⟨_, RZ.pi_zipA hg hm (pa_tW _ _) hs hpl, fun σ H F R at0 hs o => h σ H F _ at0 hs fun vs H1 xs M1 F1 s1 r1 ⟨d, d2, ds, es, e1, zo, q1⟩ => ?_⟩
  subst e1
  obtain ⟨w, r', rfl, r2, r3⟩ := rps_cons.mp r1
  obtain ⟨w2, r', rfl, r4, r5⟩ := rps_cons.mp r3
  obtain rfl := rps_nil.mp r5
  cases zo with
  | lst sd sd2 =>
    obtain ⟨a, xs, rfl, hF, r⟩ := sd.at r2
    obtain ⟨b, ys, rfl, hF2, r'⟩ := sd2.at r4
    exact ⟨a, b, xs, ys, rfl, .inl ⟨Same.seq s1.ok.sub hF, Same.seq s1.ok.sub hF2, o _ H1 M1 F1 _ s1 (itd_zip hF r hF2 r') q1⟩⟩
  | tup =>
    obtain ⟨a, xs, rfl, hF, r⟩ := rp_tup.mp r2
    obtain ⟨b, ys, rfl, hF2, r'⟩ := rp_tup.mp r4
    exact ⟨a, b, xs, ys, rfl, .inr ⟨Same.tup s1.ok.sub hF, Same.tup s1.ok.sub hF2, o _ H1 M1 F1 _ s1 (itd_zipT hF r hF2 r') q1⟩⟩
theorem itd_rev {a : Addr} {xs : List V} {ds : List D} (hF : SqL Y.X.K F a xs) (r : Rps Y.X.K F ds xs) : ItD Y ds.reverse (Itv Y.X.K a xs.length) F M H where
  go := fun i d hd F' M' H' at0 sf => by
    have hl := r.len
    have hi : i < ds.length := by
      rcases Nat.lt_or_ge i ds.length with z | z
      · exact z
      · rw [List.getElem?_eq_none (by simpa using z)] at hd; cases hd
    rw [List.getElem?_reverse hi] at hd
    obtain ⟨x, hx, rx⟩ := r.get hd
    rw [hl] at hx
    have hq : SqL Y.X.K H' a xs := Same.seq at0.ok.sub (Same.seq sf hF)
    refine ⟨⟨by omega, xs, x, hq, hx⟩, fun y H2 hy => ?_⟩
    obtain ⟨e, hy⟩ := hy
    subst e
    have := hy xs hq
    rw [hx] at this; cases this
    exact ⟨F', Stp.refl at0.ok, Rp.mono sf _ _ rx⟩
  stop := fun F' M' H' at0 sf => by
    show xs.length ≤ ds.reverse.length
    rw [List.length_reverse, r.len]; exact Nat.le_refl _
theorem ei_rev (hm : Y.X.mg "reversed" = none) (h : Ev Y δ M e fun d M1 => ∃ ds, SqD d ds ∧ Q ds.reverse M1) (hg : Gl Y.X "reversed" := by rfl) (hs : starEach [e] Y.X.env = (false, eval e Y.X.env) :: starEach [] Y.X.env := by rfl) : Ei Y δ M tg (.Call (.Name "reversed" p) [e] [] pos) Q := by
  refine ⟨_, RT.pi_revA hg hm (pe_tW _ _) hs, fun σ H F R at0 hs o => h σ H F _ at0 hs fun v H1 d M1 F1 s1 r1 ⟨ds, sd, q1⟩ => ?_⟩
  obtain ⟨a, xs, rfl, hF, r⟩ := sd.at r1
  exact ⟨a, xs, rfl, .inl ⟨Same.seq s1.ok.sub hF, o _ H1 M1 F1 _ s1 (itd_rev hF r) q1⟩⟩
end
end TD

namespace TD
open PySem PySem.Spec PyProof.Rows L2

/-! ### list comprehensions -/
theorem wipe_at (σ : L2.St) : ∀ (vs : List Nat) (k : Nat), (wipe σ vs)[k]? = if k ∈ vs ∧ k < σ.length then some none else σ[k]?
  | [], k => by simp [wipe]
  | v :: vs, k => by
    unfold wipe
    by_cases h : v = k
    · subst h
      by_cases hl : v < σ.length
      · rw [List.getElem?_set_self (by rw [wipe_length]; exact hl)]; simp [hl]
      · rw [List.getElem?_eq_none (by simp [wipe_length]; omega)]
        simp [hl]
    · rw [List.getElem?_set_ne h, wipe_at σ vs k]
      have : (k ∈ v :: vs ↔ k ∈ vs) := by simp [Ne.symm h]
      simp [this]
theorem wipe_set {τ : L2.St} {vs : List Nat} {i : Nat} {v : Option V} (hi : i ∈ vs) : wipe (τ.set i v) vs = wipe τ vs := by
  apply List.ext_getElem?
  intro k
  rw [wipe_at, wipe_at]
  simp only [List.length_set]
  by_cases hk : k ∈ vs ∧ k < τ.length
  · rw [if_pos hk, if_pos hk]
  · rw [if_neg hk, if_neg hk]
    by_cases h : i = k
    · subst h
      have : ¬ i < τ.length := fun z => hk ⟨hi, z⟩
      rw [List.getElem?_eq_none (by simp; omega), List.getElem?_eq_none (by omega)]
    · rw [List.getElem?_set_ne h]
theorem wipe_wipe (σ : L2.St) (vs : List Nat) : wipe (wipe σ vs) vs = wipe σ vs := by
  apply List.ext_getElem?
  intro k
  rw [wipe_at, wipe_at, wipe_length]
  split <;> rfl

def Cc.bk (Y : Cc) (scope : Scope) (s : Shared) (H : Hp) (C : Addr) (cl : List (Str × Addr)) (fp : List Addr) : Cc := ⟨Y.X.blk s H scope (compEnvC scope cl C Y.X.env) fp, Y.B, fun _ _ _ _ => False, Y.lv⟩
instance cok_bk {Y : Cc} [C0 : COk Y] {scope : Scope} {s : Shared} {H : Hp} {C : Addr} {cl : List (Str × Addr)} {fp : List Addr} : COk (Y.bk scope s H C cl fp) where
  calm := C0.calm
  nd := C0.nd
  tk := fun u s' ⟨_, _, _, _, _, _, _, _, _, _, _, _, _, _, _, _, w⟩ => by
    obtain ⟨_, _, _, _, _, _, _, z⟩ := w
    exact z.elim
  rm := C0.rm
def EvB (Y : Cc) (scope : Scope) (δ : Dl) (M : Mu) (e : Expr) (Q : D → Mu → Prop) : Prop := ∀ (s : Shared) (H : Hp) (C : Addr) (cl : List (Str × Addr)) (fp : List Addr), Ev (Y.bk scope s H C cl fp) δ M e Q
def EtB (Y : Cc) (scope : Scope) (δ : Dl) (M : Mu) (e : Expr) (Q : Bool → Mu → Prop) : Prop := ∀ (s : Shared) (H : Hp) (C : Addr) (cl : List (Str × Addr)) (fp : List Addr), Et (Y.bk scope s H C cl fp) δ M e Q
/-- the target of a comprehension: a name, or two names in a tuple -/
inductive Tgt where
  | one (i : Nat) | two (i j : Nat)
def Tgt.vs : Tgt → List Nat
  | .one i => [i]
  | .two i j => [i, j]
def Tgt.g (K : PySem.W.Frag) : Tgt → TG
  | .one i => gName i
  | .two i j => gTup K 2 (gCons (gName i) (gCons (gName j) gNil))
def Tgt.put : Tgt → D → Dl → Dl → Prop
  | .one i, d, δ, δ1 => δ1 = δ.set i (some d)
  | .two i j, d, δ, δ1 => ∃ a b, d = .tup [a, b] ∧ δ1 = (δ.set i (some a)).set j (some b)
def lcTurn (Y : Cc) (scope : Scope) (δ : Dl) (M : Mu) (ifs : List Expr) (elt : Expr) (yes : D → Mu → Prop) (no : Mu → Prop) : Prop :=
  match ifs with
  | [] => EvB Y scope δ M elt yes
  | [c] => EtB Y scope δ M c fun k M1 => if k = true then EvB Y scope δ M1 elt yes else no M1
  | _ => False
def LcL (Y : Cc) (scope : Scope) (tgt : Tgt) (δ : Dl) (ifs : List Expr) (elt : Expr) (Q : List D → Mu → Prop) : List D → List D → Mu → Prop
  | [], acc, M => Q acc M
  | d :: ds, acc, M => ∃ δ1, tgt.put d δ δ1 ∧ lcTurn Y scope δ1 M ifs elt (fun y M1 => acc.length < sizeLine ∧ LcL Y scope tgt δ ifs elt Q ds (acc ++ [y]) M1) (LcL Y scope tgt δ ifs elt Q ds acc)
section
variable {Y : Cc} {δ : Dl} {M : Mu} {elt it tg : Expr} {ifs : List Expr} {scope : Scope} {own : List (Str × Nat)} {pos : Pos} {tgt : Tgt}
/-- the block's parts, whatever the block's frame -/
def bW (X : Cx) (scope : Scope) (e : Expr) : TE := fun σ H R => ∀ (s0 : Shared) (H0 : Hp) (C : Addr) (cl : List (Str × Addr)) (fp : List Addr), tW (X.blk s0 H0 scope (compEnvC scope cl C X.env) fp) e σ H R
def bWt (X : Cx) (scope : Scope) (e : Expr) : TT := fun σ H R => ∀ (s0 : Shared) (H0 : Hp) (C : Addr) (cl : List (Str × Addr)) (fp : List Addr), tWt (X.blk s0 H0 scope (compEnvC scope cl C X.env) fp) e σ H R
def bTs (X : Cx) (scope : Scope) : List Expr → TT
  | [] => tYes
  | [c] => bWt X scope c
  | _ => fun _ _ _ => False
theorem bTs_ok (X : Cx) (scope : Scope) (s0 : Shared) (H0 : Hp) (C : Addr) (cl : List (Str × Addr)) (fp : List Addr) : ∀ ifs : List Expr, PTs (X.blk s0 H0 scope (compEnvC scope cl C X.env) fp) ifs (bTs X scope ifs)
  | [] => pts_nil
  | [c] => pts_one ⟨fun pins s σ H Q I h => h s0 H0 C cl fp pins s I⟩
  | _ :: _ :: _ => ⟨fun _ _ _ _ _ _ h => h.elim⟩
theorem lcTurn_run {δ1 : Dl} {yes : D → Mu → Prop} {no : Mu → Prop} {σ2 : L2.St} {F2 : Hp} {M1 : Mu} {H2 : Hp} {R : V → Hp → Prop} {N : Hp → Prop} (a : Y.At F2 M1 H2) (hs : SRs Y.X.K F2 δ1 σ2)
    (hy : ∀ yv H4 yd M4 F4, Stp Y.X.K F2 M1 H2 F4 M4 H4 → Rp Y.X.K F4 yd yv → yes yd M4 → R yv H4) (hn : ∀ H3 M3 F3, Stp Y.X.K F2 M1 H2 F3 M3 H3 → no M3 → N H3) :
    ∀ ifs, lcTurn Y scope δ1 M1 ifs elt yes no → bTs Y.X scope ifs σ2 H2 (fun b H3 => if b = true then bW Y.X scope elt σ2 H3 R else N H3)
  | [], q => by
    show (if true = true then bW Y.X scope elt σ2 H2 R else N H2)
    rw [if_pos rfl]
    have q' : EvB Y scope δ1 M1 elt yes := q
    intro s0 H0 C cl fp
    exact q' s0 H0 C cl fp σ2 H2 F2 R a hs hy
  | [c], q => by
    have q' : EtB Y scope δ1 M1 c fun k M1 => if k = true then EvB Y scope δ1 M1 elt yes else no M1 := q
    intro s0 H0 C cl fp
    refine q' s0 H0 C cl fp σ2 H2 F2 _ a hs fun b H3 M3 F3 s3 q3 => ?_
    cases b with
    | false =>
      rw [if_neg Bool.false_ne_true] at q3 ⊢
      exact hn H3 M3 F3 s3 q3
    | true =>
      rw [if_pos rfl] at q3 ⊢
      exact fun s0 H0 C cl fp => q3 s0 H0 C cl fp σ2 H3 F3 _ (a.go s3) (hs.mono s3.fr) fun yv H4 yd M4 F4 s4 r4 q4 => hy yv H4 yd M4 F4 (s3.trans s4) r4 q4
  | _ :: _ :: _, q => q.elim
theorem tgt_run {K : PySem.W.Frag} {F : Hp} {H : Hp} {δ1 : Dl} {σ : L2.St} {d : D} {x : V} {R : L2.St → Hp → Prop} (hsub : Same F H) (hs : SRs K F δ σ) (r : Rp K F d x) : ∀ tgt : Tgt, tgt.put d δ δ1 →
    (∀ σ2, SRs K F δ1 σ2 → wipe σ2 tgt.vs = wipe σ tgt.vs → R σ2 H) → tgt.g K x (wipe σ tgt.vs) H R
  | .one i, e, o => by
    cases e
    refine o _ ?_ (by rw [wipe_set (by simp [Tgt.vs]), wipe_wipe])
    refine ⟨by simp [hs.len, wipe_length], fun j e q => ?_⟩
    by_cases hj : i = j
    · subst hj
      have hl : i < δ.length := by
        rcases Nat.lt_or_ge i δ.length with z | z
        · exact z
        · rw [List.getElem?_eq_none (by simpa using z)] at q; cases q
      rw [List.getElem?_set_self hl] at q; cases q
      exact ⟨x, by rw [List.getElem?_set_self (by rw [wipe_length, ← hs.len]; exact hl)], r⟩
    · rw [List.getElem?_set_ne hj] at q ⊢
      obtain ⟨v, hv, rv⟩ := hs.sl j e q
      refine ⟨v, ?_, rv⟩
      rw [wipe_at, if_neg (by simp [Tgt.vs]; intro z; exact absurd z.symm hj)]
      exact hv
  | .two i j, e, o => by
    · obtain ⟨a, b, rfl, rfl⟩ := e
      obtain ⟨p, xs, rfl, hT, rr⟩ := rp_tup.mp r
      obtain ⟨y, r', rfl, r2, r3⟩ := rps_cons.mp rr
      obtain ⟨z, r', rfl, r4, r5⟩ := rps_cons.mp r3
      obtain rfl := rps_nil.mp r5
      refine ⟨p, _, rfl, Same.tup hsub hT, rfl, y, _, rfl, z, _, rfl, rfl, o _ ?_ (by rw [wipe_set (by simp [Tgt.vs]), wipe_set (by simp [Tgt.vs]), wipe_wipe])⟩
      refine ⟨by simp [hs.len, wipe_length], fun k e q => ?_⟩
      by_cases hj : j = k
      · subst hj
        have hl : j < δ.length := by
          rcases Nat.lt_or_ge j δ.length with z | z
          · exact z
          · rw [List.getElem?_eq_none (by simpa using z)] at q; cases q
        rw [List.getElem?_set_self (by simpa using hl)] at q; cases q
        exact ⟨z, by rw [List.getElem?_set_self (by simp [wipe_length, ← hs.len]; exact hl)], r4⟩
      · rw [List.getElem?_set_ne hj] at q ⊢
        by_cases hi : i = k
        · subst hi
          have hl : i < δ.length := by
            rcases Nat.lt_or_ge i δ.length with z | z
            · exact z
            · rw [List.getElem?_eq_none (by simpa using z)] at q; cases q
          rw [List.getElem?_set_self hl] at q; cases q
          exact ⟨y, by rw [List.getElem?_set_self (by simp [wipe_length, ← hs.len]; exact hl)], r2⟩
        · rw [List.getElem?_set_ne hi] at q ⊢
          obtain ⟨v, hv, rv⟩ := hs.sl k e q
          refine ⟨v, ?_, rv⟩
          rw [wipe_at, if_neg (by simp only [Tgt.vs, List.mem_cons, List.not_mem_nil, or_false]; rintro ⟨z | z, _⟩; exact hi z.symm; exact hj z.symm)]
          exact hv
/-- what a comprehension comes to: the new list at D, not yet frozen nor ours -/
theorem lc_run [C0 : COk Y] {own : List (Str × Nat)} {Q : List D → Mu → Prop} {R : VK} {σ : L2.St} {H F : Hp} {ds : List D} {J : It} (a : Y.At F M H) (hs : SRs Y.X.K F δ σ) (ho : own.map (·.2) = tgt.vs) (it1 : ItD Y ds J F M H)
    (h : LcL Y scope tgt δ ifs elt Q ds [] M) (o : ∀ p accV acc H' M' F', H p = none → Stp Y.X.K F M H F' M' H' → H' p = some (.lst accV) → (∀ x ∈ M', x.1 ≠ p) → F' p = none → Rps Y.X.K F' acc accV → Q acc M' → R (.ref p) H') :
    ∀ D, H D = none → ∃ W : Nat → Nat → Hp → Prop, (∃ m, W 0 m (upd H D (.lst []))) ∧ ∀ i m H, W i m H →
      (J.stop i H ∧ R (.ref D) H) ∨ (J.go i H ∧ ∃ Nx : Hp → Prop, (∀ H', Nx H' → ∃ m', m' < m ∧ W (i + 1) m' H') ∧ ∀ x H', J.yld i H x H' → tgt.g Y.X.K x (wipe σ (own.map (·.2))) H' fun σ2 H2 => wipe σ2 (own.map (·.2)) = wipe σ (own.map (·.2)) ∧ bTs Y.X scope ifs σ2 H2 fun b H3 =>
        if b = true then bW Y.X scope elt σ2 H3 fun y H4 => ∃ acc, H4 D = some (.lst acc) ∧ acc.length < sizeLine ∧ Nx (upd H4 D (.lst (acc ++ [y]))) else Nx H3) := by
  intro p hp
  let In : Nat → Hp → Prop := fun i H1 => ∃ accV acc M1 F1, Stp Y.X.K F M H F1 M1 H1 ∧ H1 p = some (.lst accV) ∧ (∀ x ∈ M1, x.1 ≠ p) ∧ F1 p = none ∧ Rps Y.X.K F1 acc accV ∧ i ≤ ds.length ∧ LcL Y scope tgt δ ifs elt Q (ds.drop i) acc M1
  have n0 : ∀ x ∈ M, x.1 ≠ p := a.ok.notMem hp
  have f0 : F p = none := a.ok.freeOf hp
  refine ⟨fun i m H1 => m = ds.length - i ∧ In i H1, ⟨ds.length, by simp, [], [], M, F, (Stp.refl a.ok).hid hp n0 f0, upd_same, n0, f0, Rps.nil, Nat.zero_le _, by simpa using h⟩, ?_⟩
  rintro i m H1 ⟨rfl, accV, acc, M1, F1, st, hD, nD, fD, rD, hi, q⟩
  have a1 := a.go st
  by_cases hlt : i < ds.length
  · have e : ds.drop i = ds[i] :: ds.drop (i + 1) := (List.drop_eq_getElem_cons hlt)
    rw [e, LcL] at q
    obtain ⟨δ1, ht, q⟩ := q
    obtain ⟨g1, g2⟩ := it1.go i ds[i] (List.getElem?_eq_getElem hlt) F1 M1 H1 a1 st.fr
    refine .inr ⟨g1, In (i + 1), fun H' z => ⟨ds.length - (i + 1), by omega, rfl, z⟩, fun x H2 y => ?_⟩
    obtain ⟨F2, s2, r2⟩ := g2 x H2 y
    have keepD : ∀ {F3 : Hp} {M3 : Mu} {H3 : Hp}, Stp Y.X.K F1 M1 H1 F3 M3 H3 → H3 p = some (.lst accV) ∧ (∀ x ∈ M3, x.1 ≠ p) ∧ F3 p = none := fun {F3 M3 H3} s => by
      have k1 := s.kp p _ hD nD
      have k2 : ∀ x ∈ M3, x.1 ≠ p := fun x hx z => by
        rcases s.nw x hx with ⟨y, hy, q⟩ | q
        · exact nD y hy (q.trans z)
        · rw [z, hD] at q; cases q
      refine ⟨k1, k2, ?_⟩
      cases e : F3 p with
      | none => rfl
      | some u =>
        rcases s.fz p u e with q | ⟨x, hx, q⟩ | q
        · rw [fD] at q; cases q
        · exact absurd q (nD x hx)
        · rw [hD] at q; cases q
    have fin : ∀ {F3 : Hp} {M3 : Mu} {H3 : Hp} {yv : V} {yd : D}, Stp Y.X.K F1 M1 H1 F3 M3 H3 → Rp Y.X.K F3 yd yv → LcL Y scope tgt δ ifs elt Q (ds.drop (i + 1)) (acc ++ [yd]) M3 → In (i + 1) (upd H3 p (.lst (accV ++ [yv]))) := fun {F3 M3 H3 yv yd} s r q => by
      obtain ⟨k1, k2, k3⟩ := keepD s
      exact ⟨_, _, M3, F3, (st.trans s).hid hp k2 k3, upd_same, k2, k3, Rps.app (Rps.mono s.fr _ _ rD) (Rps.cons r Rps.nil), hlt, q⟩
    rw [ho]
    refine tgt_run (a1.go s2).ok.sub ((hs.mono st.fr).mono s2.fr) r2 tgt ht fun σ2 hs2 hw => ⟨hw, ?_⟩
    refine lcTurn_run (a1.go s2) hs2 (fun yv H4 yd M4 F4 s4 r4 q4 => ?_) (fun H3 M3 F3 s3 q3 => ?_) ifs q
    · obtain ⟨hz, q4⟩ := q4
      have s24 := s2.trans s4
      obtain ⟨k1, k2, k3⟩ := keepD s24
      exact ⟨accV, k1, by rw [← rD.len]; exact hz, fin s24 r4 q4⟩
    · have s23 := s2.trans s3
      obtain ⟨k1, k2, k3⟩ := keepD s23
      exact ⟨accV, acc, M3, F3, st.trans s23, k1, k2, k3, Rps.mono s23.fr _ _ rD, hlt, q3⟩
  · have e : i = ds.length := by omega
    subst e
    rw [List.drop_length, LcL] at q
    exact .inl ⟨it1.stop F1 M1 H1 a1 st.fr, o p accV acc H1 M1 F1 hp st hD nD fD rD q⟩
/-- [elt for .. in .. if ..], a list that stands still from now on -/
theorem ev_lc [C0 : COk Y] (tgt : Tgt) {own : List (Str × Nat)} {Q : D → Mu → Prop} (ok : BlkOk Y.X.N Y.X.env.scope scope own) (ho : own.map (·.2) = tgt.vs)
    (hg : ∀ (s : Shared) (H : Hp) (C : Addr) (cl : List (Str × Addr)) (fp : List Addr), PG (Y.X.blk s H scope (compEnvC scope cl C Y.X.env) fp) tg (tgt.g Y.X.K))
    (h : Ei Y δ M tg it fun ds M1 => LcL Y scope tgt δ ifs elt (fun acc M2 => Q (.lst acc) M2) ds [] M1) (hs : ∀ x, foldedSetIterable it Y.X.env x = pure x := by intro _; rfl) : Ev Y δ M (.ListComp elt [⟨tg, it, ifs, 0⟩] scope pos) Q := by
  obtain ⟨wi, pi, h⟩ := h
  intro σ H F R a hs' o
  refine tW_of (pe_lc (own := own) (te := bW Y.X scope elt) C0.calm C0.nd pi ok hg (fun s H C cl fp => bTs_ok Y.X scope s H C cl fp ifs) (fun s H C cl fp => ⟨fun pins s1 σ1 H1 Q1 I z => z s H C cl fp pins s1 I⟩) hs) ?_
  refine h σ H F _ a hs' fun J H1 M1 F1 ds s1 it1 q1 => ?_
  refine lc_run (tgt := tgt) (a.go s1) (hs'.mono s1.fr) ho it1 q1 fun p accV acc H' M' F' hp st hD nD fD rD q => ?_
  have s2 := st.seal hp hD nD fD
  exact o _ _ _ _ _ (s1.trans s2) (rp_lst.mpr ⟨p, accV, rfl, upd_same, Rps.mono (same_upd fD) _ _ rD⟩) q
/-- .. ours -/
theorem ev_lcm [C0 : COk Y] (tgt : Tgt) {own : List (Str × Nat)} {Q : D → Mu → Prop} (ok : BlkOk Y.X.N Y.X.env.scope scope own) (ho : own.map (·.2) = tgt.vs)
    (hg : ∀ (s : Shared) (H : Hp) (C : Addr) (cl : List (Str × Addr)) (fp : List Addr), PG (Y.X.blk s H scope (compEnvC scope cl C Y.X.env) fp) tg (tgt.g Y.X.K))
    (h : Ei Y δ M tg it fun ds M1 => LcL Y scope tgt δ ifs elt (fun acc M2 => ∀ p, Q (.ptr p) ((p, .lst acc) :: M2)) ds [] M1) (hs : ∀ x, foldedSetIterable it Y.X.env x = pure x := by intro _; rfl) : Ev Y δ M (.ListComp elt [⟨tg, it, ifs, 0⟩] scope pos) Q := by
  obtain ⟨wi, pi, h⟩ := h
  intro σ H F R a hs' o
  refine tW_of (pe_lc (own := own) (te := bW Y.X scope elt) C0.calm C0.nd pi ok hg (fun s H C cl fp => bTs_ok Y.X scope s H C cl fp ifs) (fun s H C cl fp => ⟨fun pins s1 σ1 H1 Q1 I z => z s H C cl fp pins s1 I⟩) hs) ?_
  refine h σ H F _ a hs' fun J H1 M1 F1 ds s1 it1 q1 => ?_
  refine lc_run (tgt := tgt) (a.go s1) (hs'.mono s1.fr) ho it1 q1 fun p accV acc H' M' F' hp st hD nD fD rD q => ?_
  have s2 := st.take (m := .lst acc) hp hD nD fD ⟨accV, rfl, rD⟩
  exact o _ _ _ _ _ (s1.trans s2) (rp_ptr.mpr rfl) (q p)
/-- name = [..] -/
theorem e1_setLc [C0 : COk Y] (tgt : Tgt) (i : Nat) {y : Str} {py spos : Pos} {own : List (Str × Nat)} {D : Fx} (ok : BlkOk Y.X.N Y.X.env.scope scope own) (ho : own.map (·.2) = tgt.vs)
    (hg : ∀ (s : Shared) (H : Hp) (C : Addr) (cl : List (Str × Addr)) (fp : List Addr), PG (Y.X.blk s H scope (compEnvC scope cl C Y.X.env) fp) tg (tgt.g Y.X.K))
    (hsw : swapsWith (.ListComp elt [⟨tg, it, ifs, 0⟩] scope pos) (some (.Name y py)) spos.line Y.X.env = pure true)
    (h : Ei Y δ M tg it fun ds M1 => LcL Y scope tgt δ ifs elt (fun acc M2 => D.nx (δ.set i (some (.lst acc))) M2) ds [] M1) (hy : Y.X.N[i]? = some y := by rfl) (hyl : Y.X.env.scope.names.lookup y = some .local := by rfl) (hs : ∀ x, foldedSetIterable it Y.X.env x = pure x := by intro _; rfl) :
    E1 Y δ M (.Assign [.Name y py] (.ListComp elt [⟨tg, it, ifs, 0⟩] scope pos) spos) D := by
  obtain ⟨wi, pi, h⟩ := h
  intro σ H F E a hs' o
  refine tS_of (ps_setLc (i := i) (own := own) (te := bW Y.X scope elt) C0.calm C0.nd hy hyl hsw pi ok hg (fun s H C cl fp => bTs_ok Y.X scope s H C cl fp ifs) (fun s H C cl fp => ⟨fun pins s1 σ1 H1 Q1 I z => z s H C cl fp pins s1 I⟩) hs) ?_
  refine h σ H F _ a hs' fun J H1 M1 F1 ds s1 it1 q1 => ?_
  refine lc_run (R := fun v H' => gName i v σ H' E.nx) (tgt := tgt) (a.go s1) (hs'.mono s1.fr) ho it1 q1 fun p accV acc H' M' F' hp st hD nD fD rD q => ?_
  have s2 := s1.trans (st.seal hp hD nD fD)
  exact o.nx _ _ _ _ _ (a.go s2) s2.fr ((hs'.mono s2.fr).set (rp_lst.mpr ⟨p, accV, rfl, upd_same, Rps.mono (same_upd fD) _ _ rD⟩) i) q
theorem e1_setLcm [C0 : COk Y] (tgt : Tgt) (i : Nat) {y : Str} {py spos : Pos} {own : List (Str × Nat)} {D : Fx} (ok : BlkOk Y.X.N Y.X.env.scope scope own) (ho : own.map (·.2) = tgt.vs)
    (hg : ∀ (s : Shared) (H : Hp) (C : Addr) (cl : List (Str × Addr)) (fp : List Addr), PG (Y.X.blk s H scope (compEnvC scope cl C Y.X.env) fp) tg (tgt.g Y.X.K))
    (hsw : swapsWith (.ListComp elt [⟨tg, it, ifs, 0⟩] scope pos) (some (.Name y py)) spos.line Y.X.env = pure true)
    (h : Ei Y δ M tg it fun ds M1 => LcL Y scope tgt δ ifs elt (fun acc M2 => ∀ p, D.nx (δ.set i (some (.ptr p))) ((p, .lst acc) :: M2)) ds [] M1) (hy : Y.X.N[i]? = some y := by rfl) (hyl : Y.X.env.scope.names.lookup y = some .local := by rfl) (hs : ∀ x, foldedSetIterable it Y.X.env x = pure x := by intro _; rfl) :
    E1 Y δ M (.Assign [.Name y py] (.ListComp elt [⟨tg, it, ifs, 0⟩] scope pos) spos) D := by
  obtain ⟨wi, pi, h⟩ := h
  intro σ H F E a hs' o
  refine tS_of (ps_setLc (i := i) (own := own) (te := bW Y.X scope elt) C0.calm C0.nd hy hyl hsw pi ok hg (fun s H C cl fp => bTs_ok Y.X scope s H C cl fp ifs) (fun s H C cl fp => ⟨fun pins s1 σ1 H1 Q1 I z => z s H C cl fp pins s1 I⟩) hs) ?_
  refine h σ H F _ a hs' fun J H1 M1 F1 ds s1 it1 q1 => ?_
  refine lc_run (R := fun v H' => gName i v σ H' E.nx) (tgt := tgt) (a.go s1) (hs'.mono s1.fr) ho it1 q1 fun p accV acc H' M' F' hp st hD nD fD rD q => ?_
  have s2 := s1.trans (st.take (m := .lst acc) hp hD nD fD ⟨accV, rfl, rD⟩)
  exact o.nx _ _ _ _ _ (a.go s2) s2.fr ((hs'.mono s2.fr).set (rp_ptr.mpr rfl) i) (q p)
end
end TD

namespace TD
open PySem PySem.Spec PyProof.Rows L2

/-! ### numbers -/
section
variable {Y : Cc} {M : Mu} {Q : D → Mu → Prop} {i j : Int}
theorem o_add (q : Q (.int (i + j)) M) : Op2 Y (binaryOp .Add) (.int i) (.int j) M Q := Op2.of op_add fun H F vx vy R h rx ry o => ⟨i, j, rp_int.mp rx, rp_int.mp ry, o.here h (by rw [Rp]) q⟩
theorem o_sub (q : Q (.int (i - j)) M) : Op2 Y (binaryOp .Sub) (.int i) (.int j) M Q := Op2.of op_sub fun H F vx vy R h rx ry o => ⟨i, j, rp_int.mp rx, rp_int.mp ry, o.here h (by rw [Rp]) q⟩
theorem o_iadd (q : Q (.int (i + j)) M) : Op2 Y (inplaceOp .Add) (.int i) (.int j) M Q := Op2.of iop_add fun H F vx vy R h rx ry o => ⟨i, j, rp_int.mp rx, rp_int.mp ry, o.here h (by rw [Rp]) q⟩
theorem o_isub (q : Q (.int (i - j)) M) : Op2 Y (inplaceOp .Sub) (.int i) (.int j) M Q := Op2.of iop_sub fun H F vx vy R h rx ry o => ⟨i, j, rp_int.mp rx, rp_int.mp ry, o.here h (by rw [Rp]) q⟩
theorem op_mulX {X : Cx} : OpR X (binaryOp .Mult) (rI IntMulOk fun i j => .int (i * j)) := opI fun _ _ _ _ _ _ _ hc q => mul_int q hc
theorem o_mul (hc : IntMulOk i j) (q : Q (.int (i * j)) M) : Op2 Y (binaryOp .Mult) (.int i) (.int j) M Q := Op2.of op_mulX fun H F vx vy R h rx ry o => ⟨i, j, rp_int.mp rx, rp_int.mp ry, hc, o.here h (by rw [Rp]) q⟩
theorem o_mod (hc : 0 < j) (q : Q (.int (i % j)) M) : Op2 Y (binaryOp .Mod) (.int i) (.int j) M Q := Op2.of op_mod fun H F vx vy R h rx ry o => ⟨i, j, rp_int.mp rx, rp_int.mp ry, hc, o.here h (by rw [Rp]) q⟩
theorem o_div (hc : 0 < j) (hb : j.natAbs < 2 ^ 9000) (q : Q (.int (i / j)) M) : Op2 Y (binaryOp .FloorDiv) (.int i) (.int j) M Q := Op2.of op_fdivW fun H F vx vy R h rx ry o =>
  ⟨i, j, rp_int.mp rx, rp_int.mp ry, wide_div hc hb (by decide) (Nat.le_refl _), o.here h (by rw [Rp]) q⟩
theorem op_powX {X : Cx} : OpR X (binaryOp .Pow) (rI (fun i j => 0 ≤ j ∧ (Builtin.Int.intBits i : Int) * j ≤ 2 ^ 27) fun i j => .int (i ^ j.toNat)) := opI fun _ _ _ _ _ _ _ hc q => pow_int hc.1 hc.2 q
theorem intBits_le {i : Int} {b : Nat} (h : i.natAbs < 2 ^ b) : Builtin.Int.intBits i ≤ b + 1 := by
  unfold Builtin.Int.intBits
  split
  · omega
  · rename_i hz
    by_cases h0 : i.natAbs = 0
    · rw [h0]; simp
    · have h1 : 2 ^ i.natAbs.log2 ≤ i.natAbs := Nat.log2_self_le h0
      have h2 : 2 ^ i.natAbs.log2 < 2 ^ b := Nat.lt_of_le_of_lt h1 h
      have h3 := (Nat.pow_lt_pow_iff_right (by decide : 1 < 2)).mp h2
      omega
theorem o_pow {b : Nat} (hi : i.natAbs < 2 ^ b) (hj : 0 ≤ j) (hb : ((b + 1 : Nat) : Int) * j ≤ 2 ^ 27) (q : Q (.int (i ^ j.toNat)) M) : Op2 Y (binaryOp .Pow) (.int i) (.int j) M Q := Op2.of op_powX fun H F vx vy R h rx ry o =>
  ⟨i, j, rp_int.mp rx, rp_int.mp ry, ⟨hj, Int.le_trans (Int.mul_le_mul_of_nonneg_right (Int.ofNat_le.mpr (intBits_le hi)) hj) hb⟩, o.here h (by rw [Rp]) q⟩
theorem mulOk {a b : Nat} (ha : i.natAbs < 2 ^ a) (hb : j.natAbs < 2 ^ b) (h : a + b ≤ 100000000) : IntMulOk i j := by
  have h1 := intBits_le ha
  have h2 := intBits_le hb
  have e : bitsLine = 134217728 := by decide
  unfold IntMulOk
  intro z
  rw [Bool.and_eq_true] at z
  have z2 := z.2
  unfold Builtin.Int.intTooBig at z2
  have z3 := of_decide_eq_true z2
  rw [e] at z3
  omega
theorem mulOkL (h : -(2 ^ 64) < i ∧ i < 2 ^ 64) : IntMulOk i j := CMul.ok (.inl h)
theorem mulOkR (h : -(2 ^ 64) < j ∧ j < 2 ^ 64) : IntMulOk i j := CMul.ok (.inr h)
theorem o_neg (q : Q (.int (-i)) M) : Op1 Y (unaryOp .USub) (.int i) M Q := Op1.of un_neg fun H F vx R h rx o => ⟨i, rp_int.mp rx, o.here h (by rw [Rp]) q⟩
theorem o_lt (q : Q (.bl (decide (i < j))) M) : Op2 Y (compareOp .Lt) (.int i) (.int j) M Q := Op2.of op_lt fun H F vx vy R h rx ry o => ⟨i, j, rp_int.mp rx, rp_int.mp ry, o.here h (by rw [Rp]) q⟩
theorem o_le (q : Q (.bl (decide (i ≤ j))) M) : Op2 Y (compareOp .LtE) (.int i) (.int j) M Q := Op2.of op_le fun H F vx vy R h rx ry o => ⟨i, j, rp_int.mp rx, rp_int.mp ry, o.here h (by rw [Rp]) q⟩
theorem o_gt (q : Q (.bl (decide (j < i))) M) : Op2 Y (compareOp .Gt) (.int i) (.int j) M Q := Op2.of op_gt fun H F vx vy R h rx ry o => ⟨i, j, rp_int.mp rx, rp_int.mp ry, o.here h (by rw [Rp]) q⟩
theorem o_ge (q : Q (.bl (decide (j ≤ i))) M) : Op2 Y (compareOp .GtE) (.int i) (.int j) M Q := Op2.of op_ge fun H F vx vy R h rx ry o => ⟨i, j, rp_int.mp rx, rp_int.mp ry, o.here h (by rw [Rp]) q⟩
/-- == of two numbers, two truths, two texts, None -/
def D.flat : D → Bool
  | .non => true | .bl _ => true | .int _ => true | .str _ => true | _ => false
def D.v : D → V
  | .non => .non | .bl b => .bl b | .int i => .int i | .str x => .str x | _ => .non
theorem D.v_of {K : PySem.W.Frag} {F : Hp} : ∀ {d : D} {v : V}, d.flat = true → Rp K F d v → v = d.v
  | .non, _, _, r => rp_non.mp r
  | .bl _, _, _, r => rp_bl.mp r
  | .int _, _, _, r => rp_int.mp r
  | .str _, _, _, r => rp_str.mp r
theorem o_eq {x y : D} (fx : x.flat = true) (fy : y.flat = true) (hs : scal x.v y.v = true) (q : Q (.bl (decide (x.v = y.v))) M) : Op2 Y (compareOp .Eq) x y M Q := Op2.of op_eq fun H F vx vy R h rx ry o => by
  rw [D.v_of fx rx, D.v_of fy ry]
  exact ⟨hs, o.here h (by rw [Rp]) q⟩
theorem o_ne {x y : D} (fx : x.flat = true) (fy : y.flat = true) (hs : scal x.v y.v = true) (q : Q (.bl (!decide (x.v = y.v))) M) : Op2 Y (compareOp .NotEq) x y M Q := Op2.of op_ne fun H F vx vy R h rx ry o => by
  rw [D.v_of fx rx, D.v_of fy ry]
  exact ⟨hs, o.here h (by rw [Rp]) q⟩
theorem o_eqI (q : Q (.bl (decide (i = j))) M) : Op2 Y (compareOp .Eq) (.int i) (.int j) M Q := o_eq rfl rfl rfl (by simpa [D.v] using q)
theorem o_neI (q : Q (.bl (!decide (i = j))) M) : Op2 Y (compareOp .NotEq) (.int i) (.int j) M Q := o_ne rfl rfl rfl (by simpa [D.v] using q)
theorem o_eqB {a b : Bool} (q : Q (.bl (decide (a = b))) M) : Op2 Y (compareOp .Eq) (.bl a) (.bl b) M Q := o_eq rfl rfl rfl (by simpa [D.v] using q)
theorem o_neB {a b : Bool} (q : Q (.bl (!decide (a = b))) M) : Op2 Y (compareOp .NotEq) (.bl a) (.bl b) M Q := o_ne rfl rfl rfl (by simpa [D.v] using q)
theorem o_eqS {a b : Str} (q : Q (.bl (decide (a = b))) M) : Op2 Y (compareOp .Eq) (.str a) (.str b) M Q := o_eq rfl rfl rfl (by simpa [D.v] using q)
theorem o_neS {a b : Str} (q : Q (.bl (!decide (a = b))) M) : Op2 Y (compareOp .NotEq) (.str a) (.str b) M Q := o_ne rfl rfl rfl (by simpa [D.v] using q)
def D.isNon : D → Bool
  | .non => true
  | _ => false
theorem Rp.isNon {K : PySem.W.Frag} {F : Hp} : ∀ {d : D} {v : V}, Rp K F d v → decide (v = .non) = d.isNon
  | .non, _, r => by rw [rp_non.mp r]; rfl
  | .bl _, _, r => by rw [rp_bl.mp r]; rfl
  | .int _, _, r => by rw [rp_int.mp r]; rfl
  | .str _, _, r => by rw [rp_str.mp r]; rfl
  | .ty _, _, r => by rw [rp_ty.mp r]; rfl
  | .ptr _, _, r => by rw [rp_ptr.mp r]; rfl
  | .tup _, _, r => by obtain ⟨a, _, e, _⟩ := rp_tup.mp r; rw [e]; rfl
  | .lst _, _, r => by obtain ⟨a, _, e, _⟩ := rp_lst.mp r; rw [e]; rfl
  | .scr _, _, r => by obtain ⟨a, e, _⟩ := rp_scr.mp r; rw [e]; rfl
theorem o_isN {x : D} (q : Q (.bl x.isNon) M) : Op2 Y (compareOp .Is) x .non M Q := Op2.of op_isN fun H F vx vy R h rx ry o => ⟨rp_non.mp ry, by rw [rx.isNon]; exact o.here h (by rw [Rp]) q⟩
theorem o_notN {x : D} (q : Q (.bl (!x.isNon)) M) : Op2 Y (compareOp .IsNot) x .non M Q := Op2.of op_notN fun H F vx vy R h rx ry o => ⟨rp_non.mp ry, by rw [rx.isNon]; exact o.here h (by rw [Rp]) q⟩
/-- a truth value is asked for its truth -/
theorem t_bl {b : Bool} {T : Bool → Mu → Prop} (q : T b M) : OpT Y (.bl b) M T := fun H F vx R a rx o => ⟨b, by rw [rp_bl.mp rx]; rfl, o b H M F (Stp.refl a.ok) q⟩
theorem t_int {T : Bool → Mu → Prop} (q : T (i != 0) M) : OpT Y (.int i) M T := fun H F vx R a rx o => ⟨_, by rw [rp_int.mp rx]; rfl, o _ H M F (Stp.refl a.ok) q⟩
end

/-! ### data as the model's own -/
mutual
def toP : D → Option PyData
  | .non => some .none
  | .bl b => some (.bool b)
  | .int i => some (.int i)
  | .str x => some (.str x)
  | .tup ds => (toPs ds).map .tuple
  | .lst ds => (toPs ds).map .list
  | .scr ns => some (.list (ns.map .int))
  | .ty _ => none
  | .ptr _ => none
def toPs : List D → Option (List PyData)
  | [] => some []
  | d :: ds => (toP d).bind fun p => (toPs ds).map (p :: ·)
end
section
variable {K : PySem.W.Frag} {F H : Hp}
theorem dp_ints : ∀ ns : List Int, DpAll K H (ns.map V.int) (ns.map PyData.int)
  | [] => .nil
  | n :: ns => .cons (.int n) (dp_ints ns)
mutual
theorem dp_of (s : Same F H) : ∀ (d : D) (v : V) (p : PyData), toP d = some p → Rp K F d v → Dp K H v p
  | .non, v, p, e, r => by rw [toP] at e; cases e; rw [rp_non.mp r]; exact .non
  | .bl b, v, p, e, r => by rw [toP] at e; cases e; rw [rp_bl.mp r]; exact .bl b
  | .int i, v, p, e, r => by rw [toP] at e; cases e; rw [rp_int.mp r]; exact .int i
  | .str x, v, p, e, r => by rw [toP] at e; cases e; rw [rp_str.mp r]; exact .str x
  | .ty _, _, _, e, _ => by rw [toP] at e; cases e
  | .ptr _, _, _, e, _ => by rw [toP] at e; cases e
  | .scr ns, v, p, e, r => by
    rw [toP] at e; cases e
    obtain ⟨a, rfl, h⟩ := rp_scr.mp r
    exact .lst (Same.seq s h) (dp_ints ns)
  | .tup ds, v, p, e, r => by
    rw [toP] at e
    obtain ⟨a, xs, rfl, h, r⟩ := rp_tup.mp r
    cases q : toPs ds with
    | none => rw [q] at e; cases e
    | some ps => rw [q] at e; cases e; exact .tup (Same.tup s h) (dps_of s ds xs ps q r)
  | .lst ds, v, p, e, r => by
    rw [toP] at e
    obtain ⟨a, xs, rfl, h, r⟩ := rp_lst.mp r
    cases q : toPs ds with
    | none => rw [q] at e; cases e
    | some ps => rw [q] at e; cases e; exact .lst (SqL.of (s _ _ h)) (dps_of s ds xs ps q r)
theorem dps_of (s : Same F H) : ∀ (ds : List D) (vs : List V) (ps : List PyData), toPs ds = some ps → Rps K F ds vs → DpAll K H vs ps
  | [], vs, ps, e, r => by rw [toPs] at e; cases e; rw [rps_nil.mp r]; exact .nil
  | d :: ds, vs, ps, e, r => by
    rw [toPs] at e
    obtain ⟨x, xs, rfl, r1, r2⟩ := rps_cons.mp r
    cases q : toP d with
    | none => rw [q] at e; cases e
    | some p =>
      rw [q] at e
      cases q2 : toPs ds with
      | none => rw [q2] at e; cases e
      | some ps' => rw [q2] at e; cases e; exact .cons (dp_of s d x p q r1) (dps_of s ds xs ps' q2 r2)
end
end
/-- a Lean type whose values stand for data: == is equality -/
class DE (α : Type) where
  enc : α → D
  pd : α → PyData
  dep : Nat
  hP : ∀ a, toP (enc a) = some (pd a)
  hE : ∀ a b, PyData.eqv (pd a) (pd b) = true ↔ a = b
  hL : ∀ a, (pd a).canLay0 = true
  hD : ∀ a, (pd a).depth ≤ dep
end TD

namespace TD
open PySem PySem.Spec PyProof.Rows L2

theorem toPs_map {α : Type} (f : α → D) (g : α → PyData) (h : ∀ a, toP (f a) = some (g a)) : ∀ l : List α, toPs (l.map f) = some (l.map g)
  | [] => by rw [List.map_nil, toPs]; rfl
  | a :: l => by rw [List.map_cons, toPs, h a, toPs_map f g h l]; rfl
instance : DE Int where
  enc := .int
  pd := .int
  dep := 0
  hP := fun a => by rw [toP]
  hE := fun a b => by simp [PyData.eqv]
  hL := fun a => by simp [PyData.canLay0]
  hD := fun a => by simp [PyData.depth]
instance : DE Bool where
  enc := .bl
  pd := .bool
  dep := 0
  hP := fun a => by rw [toP]
  hE := fun a b => by simp [PyData.eqv]
  hL := fun a => by simp [PyData.canLay0]
  hD := fun a => by simp [PyData.depth]
instance {α β : Type} [DE α] [DE β] : DE (α × β) where
  enc := fun p => .tup [DE.enc p.1, DE.enc p.2]
  pd := fun p => .tuple [DE.pd p.1, DE.pd p.2]
  dep := max (DE.dep α) (DE.dep β) + 1
  hP := fun a => by rw [toP, toPs, DE.hP, toPs, DE.hP, toPs]; rfl
  hE := fun a b => by
    obtain ⟨a1, a2⟩ := a
    obtain ⟨b1, b2⟩ := b
    simp only [PyData.eqv, PyData.eqvAll, Bool.and_eq_true, Bool.and_true, DE.hE, Prod.mk.injEq]
  hL := fun a => by simp [PyData.canLay0, PyData.canLayAll0, DE.hL]
  hD := fun a => by
    have h1 := DE.hD a.1
    have h2 := DE.hD a.2
    simp only [PyData.depth, PyData.depthAll]
    omega
instance {α : Type} [DE α] : DE (List α) where
  enc := fun l => .lst (l.map DE.enc)
  pd := fun l => .list (l.map DE.pd)
  dep := DE.dep α + 1
  hP := fun a => by rw [toP, toPs_map _ _ DE.hP]; rfl
  hE := fun a b => by
    simp only [PyData.eqv]
    induction a generalizing b with
    | nil => cases b <;> simp [PyData.eqvAll]
    | cons x a ih => cases b with
      | nil => simp [PyData.eqvAll]
      | cons y b => simp only [List.map_cons, PyData.eqvAll, Bool.and_eq_true, DE.hE, ih, List.cons.injEq]
  hL := fun a => by
    simp only [PyData.canLay0]
    induction a with
    | nil => rfl
    | cons x a ih => simp only [List.map_cons, PyData.canLayAll0, DE.hL, ih, Bool.and_self]
  hD := fun a => by
    simp only [PyData.depth]
    have : ∀ l : List α, PyData.depthAll (l.map DE.pd) ≤ DE.dep α := fun l => by
      induction l with
      | nil => simp [PyData.depthAll]
      | cons x l ih =>
        have := DE.hD x
        simp only [List.map_cons, PyData.depthAll]
        omega
    have := this a
    omega
theorem DE.shaped {α : Type} [DE α] (a : α) (h : DE.dep α ≤ 64) : SeqAt.shaped (DE.pd a) = true := by
  have := DE.hD a
  unfold SeqAt.shaped
  rw [DE.hL, Bool.true_and]
  exact decide_eq_true (by omega)
theorem DE.eqv {α : Type} [DE α] [DecidableEq α] (a b : α) : PyData.eqv (DE.pd a) (DE.pd b) = decide (a = b) := by
  by_cases h : a = b
  · rw [decide_eq_true h]; exact (DE.hE a b).mpr h
  · rw [decide_eq_false h]
    cases e : PyData.eqv (DE.pd a) (DE.pd b) with
    | false => rfl
    | true => exact absurd ((DE.hE a b).mp e) h
section
variable {Y : Cc} {M : Mu} {Q : D → Mu → Prop} {x y : D} {i j : Int}
theorem o_eqP [C : COk Y] {p q : PyData} (hx : toP x = some p) (hy : toP y = some q) (sx : SeqAt.shaped p = true) (sy : SeqAt.shaped q = true) (k : Q (.bl (PyData.eqv p q)) M) : Op2 Y (compareOp .Eq) x y M Q := Op2.of (op_eqD C.rm.units) fun H F vx vy R h rx ry o =>
  ⟨p, q, dp_of h.sub x vx p hx rx, dp_of h.sub y vy q hy ry, sx, sy, o.here h (by rw [Rp]) k⟩
theorem o_neP [C : COk Y] {p q : PyData} (hx : toP x = some p) (hy : toP y = some q) (sx : SeqAt.shaped p = true) (sy : SeqAt.shaped q = true) (k : Q (.bl (!PyData.eqv p q)) M) : Op2 Y (compareOp .NotEq) x y M Q := Op2.of (op_neD C.rm.units) fun H F vx vy R h rx ry o =>
  ⟨p, q, dp_of h.sub x vx p hx rx, dp_of h.sub y vy q hy ry, sx, sy, o.here h (by rw [Rp]) k⟩
theorem o_eqE [C : COk Y] {α : Type} [DE α] [DecidableEq α] (a b : α) (k : Q (.bl (decide (a = b))) M) (h : DE.dep α ≤ 64 := by decide) : Op2 Y (compareOp .Eq) (DE.enc a) (DE.enc b) M Q :=
  o_eqP (DE.hP a) (DE.hP b) (DE.shaped a h) (DE.shaped b h) (by rw [DE.eqv]; exact k)
theorem o_neE [C : COk Y] {α : Type} [DE α] [DecidableEq α] (a b : α) (k : Q (.bl (!decide (a = b))) M) (h : DE.dep α ≤ 64 := by decide) : Op2 Y (compareOp .NotEq) (DE.enc a) (DE.enc b) M Q :=
  o_neP (DE.hP a) (DE.hP b) (DE.shaped a h) (DE.shaped b h) (by rw [DE.eqv]; exact k)
/-- == of a list of ours: as data -/
theorem lst_ours {K : PySem.W.Frag} {F : Hp} {H : Hp} {k : Nat} {q : Addr} {ds : List D} {v : V} (h : SRh K F M H) (hk : M[k]? = some (q, .lst ds)) (r : Rp K F (.ptr q) v) : ∃ xs, v = .ref q ∧ H q = some (.lst xs) ∧ Rps K F ds xs := by
  obtain ⟨_, o, hH, xs, rfl, rr⟩ := h.mu _ (List.mem_of_getElem? hk)
  exact ⟨xs, rp_ptr.mp r, hH, rr⟩
theorem o_eqM [C : COk Y] {k : Nat} {a : Addr} {ds : List D} {ps : List PyData} {q : PyData} (hk : M[k]? = some (a, .lst ds)) (hx : toPs ds = some ps) (hy : toP y = some q) (sx : SeqAt.shaped (.list ps) = true) (sy : SeqAt.shaped q = true) (z : Q (.bl (PyData.eqv (.list ps) q)) M) :
    Op2 Y (compareOp .Eq) (.ptr a) y M Q := Op2.of (op_eqD C.rm.units) fun H F vx vy R h rx ry o => by
  obtain ⟨xs, rfl, hH, rr⟩ := lst_ours h hk rx
  exact ⟨_, q, .lst (.of hH) (dps_of h.sub _ _ _ hx rr), dp_of h.sub y vy q hy ry, sx, sy, o.here h (by rw [Rp]) z⟩
theorem o_neM [C : COk Y] {k : Nat} {a : Addr} {ds : List D} {ps : List PyData} {q : PyData} (hk : M[k]? = some (a, .lst ds)) (hx : toPs ds = some ps) (hy : toP y = some q) (sx : SeqAt.shaped (.list ps) = true) (sy : SeqAt.shaped q = true) (z : Q (.bl (!PyData.eqv (.list ps) q)) M) :
    Op2 Y (compareOp .NotEq) (.ptr a) y M Q := Op2.of (op_neD C.rm.units) fun H F vx vy R h rx ry o => by
  obtain ⟨xs, rfl, hH, rr⟩ := lst_ours h hk rx
  exact ⟨_, q, .lst (.of hH) (dps_of h.sub _ _ _ hx rr), dp_of h.sub y vy q hy ry, sx, sy, o.here h (by rw [Rp]) z⟩
/-- found == [], found != [] -/
theorem o_eqN [C : COk Y] {α : Type} [DE α] {k : Nat} {a : Addr} (l : List α) (hk : M[k]? = some (a, .lst (l.map DE.enc))) (z : Q (.bl l.isEmpty) M) (h : DE.dep α ≤ 63 := by decide) : Op2 Y (compareOp .Eq) (.ptr a) (.lst []) M Q := by
  refine o_eqM (q := .list []) hk (toPs_map _ _ DE.hP l) (by rw [toP, toPs]; rfl) (DE.shaped l (by show DE.dep α + 1 ≤ 64; omega)) (by decide) ?_
  cases l <;> simpa [PyData.eqv, PyData.eqvAll] using z
theorem o_neN [C : COk Y] {α : Type} [DE α] {k : Nat} {a : Addr} (l : List α) (hk : M[k]? = some (a, .lst (l.map DE.enc))) (z : Q (.bl (!l.isEmpty)) M) (h : DE.dep α ≤ 63 := by decide) : Op2 Y (compareOp .NotEq) (.ptr a) (.lst []) M Q := by
  refine o_neM (q := .list []) hk (toPs_map _ _ DE.hP l) (by rw [toP, toPs]; rfl) (DE.shaped l (by show DE.dep α + 1 ≤ 64; omega)) (by decide) ?_
  cases l <;> simpa [PyData.eqv, PyData.eqvAll] using z
/-! lists put together -/
theorem o_cat {xs ys : List D} (hl : xs.length + ys.length ≤ sizeLine) (q : Q (.lst (xs ++ ys)) M) : Op2 Y (binaryOp .Add) (.lst xs) (.lst ys) M Q := Op2.of op_cat fun H F vx vy R h rx ry o => by
  obtain ⟨a, vs, rfl, h1, r1⟩ := rp_lst.mp rx
  obtain ⟨b, us, rfl, h2, r2⟩ := rp_lst.mp ry
  refine ⟨a, b, vs, us, rfl, rfl, h.sub _ _ h1, h.sub _ _ h2, by rw [← r1.len, ← r2.len]; exact hl, fun p hp => ?_⟩
  have s := Stp.frozen (o := .lst (vs ++ us)) h hp
  exact o _ _ _ _ _ s (rp_lst.mpr ⟨p, _, rfl, upd_same, Rps.mono s.fr _ _ (Rps.app r1 r2)⟩) q
theorem o_catm {xs ys : List D} (hl : xs.length + ys.length ≤ sizeLine) (q : ∀ p, Q (.ptr p) ((p, .lst (xs ++ ys)) :: M)) : Op2 Y (binaryOp .Add) (.lst xs) (.lst ys) M Q := Op2.of op_cat fun H F vx vy R h rx ry o => by
  obtain ⟨a, vs, rfl, h1, r1⟩ := rp_lst.mp rx
  obtain ⟨b, us, rfl, h2, r2⟩ := rp_lst.mp ry
  refine ⟨a, b, vs, us, rfl, rfl, h.sub _ _ h1, h.sub _ _ h2, by rw [← r1.len, ← r2.len]; exact hl, fun p hp => ?_⟩
  have s := Stp.own (o := .lst (vs ++ us)) (m := .lst (xs ++ ys)) h hp ⟨_, rfl, Rps.app r1 r2⟩
  exact o _ _ _ _ _ s (rp_ptr.mpr rfl) (q p)
theorem Rps.rep {K : PySem.W.Frag} {F : Hp} {xs : List D} {vs : List V} (r : Rps K F xs vs) : ∀ n : Nat, Rps K F (List.replicate n xs).flatten (List.replicate n vs).flatten
  | 0 => Rps.nil
  | n + 1 => by
    rw [List.replicate_succ, List.replicate_succ, List.flatten_cons, List.flatten_cons]
    exact Rps.app r (Rps.rep r n)
theorem o_rep {xs : List D} (h1 : -(2 ^ 63) ≤ i) (h2 : i < 2 ^ 63) (hl : xs.length * i.toNat ≤ sizeLine) (q : Q (.lst (List.replicate i.toNat xs).flatten) M) : Op2 Y (binaryOp .Mult) (.lst xs) (.int i) M Q := Op2.of op_rep fun H F vx vy R h rx ry o => by
  obtain ⟨a, vs, rfl, hh, r1⟩ := rp_lst.mp rx
  refine ⟨a, i, vs, rfl, rp_int.mp ry, h.sub _ _ hh, h1, h2, by rw [← r1.len]; exact hl, fun p hp => ?_⟩
  have s := Stp.frozen (o := .lst (List.replicate i.toNat vs).flatten) h hp
  exact o _ _ _ _ _ s (rp_lst.mpr ⟨p, _, rfl, upd_same, Rps.mono s.fr _ _ (Rps.rep r1 _)⟩) q
/-! subscripts -/
theorem Rps.atI {K : PySem.W.Frag} {F : Hp} {xs : List D} {vs : List V} {d : D} (r : Rps K F xs vs) (h : L2.atI xs i = some d) : ∃ v, L2.atI vs i = some v ∧ Rp K F d v := by
  unfold L2.atI at h ⊢
  rw [← r.len]
  cases e : ixN xs.length i with
  | none => rw [e] at h; cases h
  | some j =>
    rw [e] at h
    exact r.get h
theorem x_lst {xs : List D} {d : D} (h : atI xs i = some d) (q : Q d M) : OpX Y (.lst xs) (.int i) M Q := OpX.of ix_list fun H F vx vy R hh rx ry o => by
  obtain ⟨a, vs, rfl, h1, r1⟩ := rp_lst.mp rx
  obtain ⟨v, hv, rv⟩ := r1.atI h
  exact ⟨a, vs, i, v, rfl, rp_int.mp ry, .of (hh.sub _ _ h1), hv, o.here hh rv q⟩
theorem x_tup {xs : List D} {d : D} (h : atI xs i = some d) (q : Q d M) : OpX Y (.tup xs) (.int i) M Q := OpX.of ix_tup fun H F vx vy R hh rx ry o => by
  obtain ⟨a, vs, rfl, h1, r1⟩ := rp_tup.mp rx
  obtain ⟨v, hv, rv⟩ := r1.atI h
  exact ⟨a, vs, i, v, rfl, rp_int.mp ry, Same.tup hh.sub h1, hv, o.here hh rv q⟩
theorem x_scr {ns : List Int} {n : Int} (h : atI ns i = some n) (q : Q (.int n) M) : OpX Y (.scr ns) (.int i) M Q := OpX.of ix_list fun H F vx vy R hh rx ry o => by
  obtain ⟨a, rfl, h1⟩ := rp_scr.mp rx
  refine ⟨a, _, i, .int n, rfl, rp_int.mp ry, Same.seq hh.sub h1, ?_, o.here hh (by rw [Rp]) q⟩
  unfold atI at h ⊢
  rw [List.length_map]
  cases e : ixN ns.length i with
  | none => rw [e] at h; cases h
  | some j =>
    rw [e] at h
    have h' : ns[j]? = some n := h
    show (ns.map V.int)[j]? = some (.int n)
    rw [List.getElem?_map, h']; rfl
theorem x_str {z : Str} {c : Nat} (hz : z.length ≤ sizeLine) (h : atI z.cps.toList i = some c) (q : Q (.str ⟨#[c]⟩) M) : OpX Y (.str z) (.int i) M Q := OpX.of ix_str fun H F vx vy R hh rx ry o =>
  ⟨z, i, c, rp_str.mp rx, rp_int.mp ry, hz, h, o.here hh (by rw [Rp]) q⟩
theorem x_ptr {k : Nat} {a : Addr} {xs : List D} {d : D} (hk : M[k]? = some (a, .lst xs)) (h : atI xs i = some d) (q : Q d M) : OpX Y (.ptr a) (.int i) M Q := OpX.of ix_list fun H F vx vy R hh rx ry o => by
  obtain ⟨vs, rfl, h1, r1⟩ := lst_ours hh hk rx
  obtain ⟨v, hv, rv⟩ := r1.atI h
  exact ⟨a, vs, i, v, rfl, rp_int.mp ry, .of h1, hv, o.here hh rv q⟩
def cutD {α : Type} (xs : List α) (lo hi : Option Int) : List α := (xs.drop (HT.sIx xs.length 0 lo)).take (HT.sIx xs.length xs.length hi - HT.sIx xs.length 0 lo)
theorem Rps.cut {K : PySem.W.Frag} {F : Hp} {xs : List D} {vs : List V} (r : Rps K F xs vs) (lo hi : Option Int) : Rps K F (cutD xs lo hi) (cutV vs lo hi) := by
  unfold cutD cutV
  rw [← r.len]
  exact Rps.take _ (Rps.drop _ r)
theorem s_lst {xs : List D} {lo hi : Option Int} (q : Q (.lst (cutD xs lo hi)) M) : OpS Y (.lst xs) lo hi M Q := OpS.of sl_list fun H F vx R h rx o => by
  obtain ⟨a, vs, rfl, h1, r1⟩ := rp_lst.mp rx
  refine ⟨a, vs, rfl, .of (h.sub _ _ h1), fun p hp => ?_⟩
  have s := Stp.frozen (o := .lst (cutV vs lo hi)) h hp
  exact o _ _ _ _ _ s (rp_lst.mpr ⟨p, _, rfl, upd_same, Rps.mono s.fr _ _ (r1.cut lo hi)⟩) q
theorem s_lstm {xs : List D} {lo hi : Option Int} (q : ∀ p, Q (.ptr p) ((p, .lst (cutD xs lo hi)) :: M)) : OpS Y (.lst xs) lo hi M Q := OpS.of sl_list fun H F vx R h rx o => by
  obtain ⟨a, vs, rfl, h1, r1⟩ := rp_lst.mp rx
  refine ⟨a, vs, rfl, .of (h.sub _ _ h1), fun p hp => ?_⟩
  have s := Stp.own (o := .lst (cutV vs lo hi)) (m := .lst (cutD xs lo hi)) h hp ⟨_, rfl, r1.cut lo hi⟩
  exact o _ _ _ _ _ s (rp_ptr.mpr rfl) (q p)
theorem s_ptr {k : Nat} {a : Addr} {xs : List D} {lo hi : Option Int} (hk : M[k]? = some (a, .lst xs)) (q : Q (.lst (cutD xs lo hi)) M) : OpS Y (.ptr a) lo hi M Q := OpS.of sl_list fun H F vx R h rx o => by
  obtain ⟨vs, rfl, h1, r1⟩ := lst_ours h hk rx
  refine ⟨a, vs, rfl, .of h1, fun p hp => ?_⟩
  have s := Stp.frozen (o := .lst (cutV vs lo hi)) h hp
  exact o _ _ _ _ _ s (rp_lst.mpr ⟨p, _, rfl, upd_same, Rps.mono s.fr _ _ (r1.cut lo hi)⟩) q
theorem cutV_map (ns : List Int) (lo hi : Option Int) : cutV (ns.map V.int) lo hi = (cutD ns lo hi).map V.int := by
  unfold cutV cutD
  rw [List.map_take, List.map_drop, List.length_map]
theorem s_scr {ns : List Int} {lo hi : Option Int} (q : Q (.lst ((cutD ns lo hi).map D.int)) M) : OpS Y (.scr ns) lo hi M Q := OpS.of sl_list fun H F vx R h rx o => by
  obtain ⟨a, rfl, h1⟩ := rp_scr.mp rx
  refine ⟨a, _, rfl, Same.seq h.sub h1, fun p hp => ?_⟩
  rw [cutV_map]
  have s := Stp.frozen (o := .lst ((cutD ns lo hi).map V.int)) h hp
  exact o _ _ _ _ _ s (rp_lst.mpr ⟨p, _, rfl, upd_same, Rps.ints _⟩) q
theorem s_str {z : Str} {lo hi : Option Int} (hz : z.length ≤ sizeLine) (q : Q (.str (cutS z lo hi)) M) : OpS Y (.str z) lo hi M Q := OpS.of sl_str fun H F vx R h rx o => ⟨z, rp_str.mp rx, hz, o.here h (by rw [Rp]) q⟩
theorem s_tup {xs : List D} {lo hi : Option Int} (hn : ¬ (HT.sIx xs.length 0 lo = 0 ∧ HT.sIx xs.length xs.length hi = xs.length)) (q : Q (.tup (cutD xs lo hi)) M) : OpS Y (.tup xs) lo hi M Q := OpS.of sl_tup fun H F vx R h rx o => by
  obtain ⟨a, vs, rfl, h1, r1⟩ := rp_tup.mp rx
  refine ⟨a, vs, rfl, Same.tup h.sub h1, by rw [← r1.len]; exact hn, fun p hp => ?_⟩
  have s := Stp.frozen (o := .tup (cutV vs lo hi)) h hp
  exact o _ _ _ _ _ s (rp_tup.mpr ⟨p, _, rfl, .of upd_same, Rps.mono s.fr _ _ (r1.cut lo hi)⟩) q
/-! what is built in -/
theorem rps1 {K : PySem.W.Frag} {F : Hp} {d : D} {vs : List V} (r : Rps K F [d] vs) : ∃ v, vs = [v] ∧ Rp K F d v := by
  obtain ⟨w, r', rfl, r2, r3⟩ := rps_cons.mp r
  obtain rfl := rps_nil.mp r3
  exact ⟨w, rfl, r2⟩
theorem rps2 {K : PySem.W.Frag} {F : Hp} {d e : D} {vs : List V} (r : Rps K F [d, e] vs) : ∃ v w, vs = [v, w] ∧ Rp K F d v ∧ Rp K F e w := by
  obtain ⟨w, r', rfl, r2, r3⟩ := rps_cons.mp r
  obtain ⟨u, rfl, r4⟩ := rps1 r3
  exact ⟨w, u, rfl, r2, r4⟩
theorem c_lenL {xs : List D} (q : Q (.int xs.length) M) : OpC Y (.builtin "len") [.lst xs] M Q := OpC.of call_len_seq fun H F vs R h r o => by
  obtain ⟨v, rfl, rv⟩ := rps1 r
  obtain ⟨a, us, rfl, h1, r1⟩ := rp_lst.mp rv
  exact ⟨a, us, rfl, .inl (.of (h.sub _ _ h1)), by rw [← r1.len]; exact o.here h (by rw [Rp]) q⟩
theorem c_lenT {xs : List D} (q : Q (.int xs.length) M) : OpC Y (.builtin "len") [.tup xs] M Q := OpC.of call_len_seq fun H F vs R h r o => by
  obtain ⟨v, rfl, rv⟩ := rps1 r
  obtain ⟨a, us, rfl, h1, r1⟩ := rp_tup.mp rv
  exact ⟨a, us, rfl, .inr (Same.tup h.sub h1), by rw [← r1.len]; exact o.here h (by rw [Rp]) q⟩
theorem c_lenS {ns : List Int} (q : Q (.int ns.length) M) : OpC Y (.builtin "len") [.scr ns] M Q := OpC.of call_len_seq fun H F vs R h r o => by
  obtain ⟨v, rfl, rv⟩ := rps1 r
  obtain ⟨a, rfl, h1⟩ := rp_scr.mp rv
  exact ⟨a, _, rfl, .inl (Same.seq h.sub h1), by rw [List.length_map]; exact o.here h (by rw [Rp]) q⟩
theorem c_lenM {k : Nat} {a : Addr} {xs : List D} (hk : M[k]? = some (a, .lst xs)) (q : Q (.int xs.length) M) : OpC Y (.builtin "len") [.ptr a] M Q := OpC.of call_len_seq fun H F vs R h r o => by
  obtain ⟨v, rfl, rv⟩ := rps1 r
  obtain ⟨us, rfl, h1, r1⟩ := lst_ours h hk rv
  exact ⟨a, us, rfl, .inl (.of h1), by rw [← r1.len]; exact o.here h (by rw [Rp]) q⟩
theorem c_lenX {z : Str} (hz : z.length ≤ sizeLine) (q : Q (.int z.length) M) : OpC Y (.builtin "len") [.str z] M Q := OpC.of call_len_str fun H F vs R h r o => by
  obtain ⟨v, rfl, rv⟩ := rps1 r
  exact ⟨z, by rw [rp_str.mp rv], hz, o.here h (by rw [Rp]) q⟩
/-- a list of numbers, a list of truths -/
theorem ints_at {K : PySem.W.Frag} {F : Hp} {ns : List Int} {v : V} (r : Rp K F (.lst (ns.map D.int)) v) : ∃ a, v = .ref a ∧ F a = some (.lst (ns.map V.int)) := by
  obtain ⟨a, us, rfl, h1, r1⟩ := rp_lst.mp r
  exact ⟨a, rfl, by rw [← Rps.ints_of r1]; exact h1⟩
theorem c_sum [C : COk Y] {ns : List Int} (q : Q (.int ns.sum) M) : OpC Y (.builtin "sum") [.lst (ns.map D.int)] M Q := OpC.of (cr_sum C.calm) fun H F vs R h r o => by
  obtain ⟨v, rfl, rv⟩ := rps1 r
  obtain ⟨a, rfl, h1⟩ := ints_at rv
  exact ⟨a, ns, rfl, .of (h.sub _ _ h1), o.here h (by rw [Rp]) q⟩
theorem c_any [C : COk Y] {bs : List Bool} (q : Q (.bl (bs.any id)) M) : OpC Y (.builtin "any") [.lst (bs.map D.bl)] M Q := OpC.of (cr_any C.calm) fun H F vs R h r o => by
  obtain ⟨v, rfl, rv⟩ := rps1 r
  obtain ⟨a, us, rfl, h1, r1⟩ := rp_lst.mp rv
  exact ⟨a, bs, rfl, .of (by rw [← Rps.bls_of r1]; exact h.sub _ _ h1), o.here h (by rw [Rp]) q⟩
theorem c_all [C : COk Y] {bs : List Bool} (q : Q (.bl (bs.all id)) M) : OpC Y (.builtin "all") [.lst (bs.map D.bl)] M Q := OpC.of (cr_all C.calm) fun H F vs R h r o => by
  obtain ⟨v, rfl, rv⟩ := rps1 r
  obtain ⟨a, us, rfl, h1, r1⟩ := rp_lst.mp rv
  exact ⟨a, bs, rfl, .of (by rw [← Rps.bls_of r1]; exact h.sub _ _ h1), o.here h (by rw [Rp]) q⟩
theorem c_max2 [C : COk Y] (q : Q (.int (if j > i then j else i)) M) : OpC Y (.builtin "max") [.int i, .int j] M Q := OpC.of (call_max2 C.calm) fun H F vs R h r o => by
  obtain ⟨v, w, rfl, rv, rw'⟩ := rps2 r
  exact ⟨i, j, by rw [rp_int.mp rv, rp_int.mp rw'], o.here h (by rw [Rp]) q⟩
theorem c_min2 [C : COk Y] (q : Q (.int (if j < i then j else i)) M) : OpC Y (.builtin "min") [.int i, .int j] M Q := OpC.of (call_min2 C.calm) fun H F vs R h r o => by
  obtain ⟨v, w, rfl, rv, rw'⟩ := rps2 r
  exact ⟨i, j, by rw [rp_int.mp rv, rp_int.mp rw'], o.here h (by rw [Rp]) q⟩
theorem c_maxL [C : COk Y] {ns : List Int} (hn : 0 < ns.length) (q : ∀ m, m ∈ ns → (∀ y, y ∈ ns → y ≤ m) → Q (.int m) M) : OpC Y (.builtin "max") [.lst (ns.map D.int)] M Q := OpC.of (cr_max C.calm) fun H F vs R h r o => by
  obtain ⟨v, rfl, rv⟩ := rps1 r
  obtain ⟨a, rfl, h1⟩ := ints_at rv
  exact ⟨a, ns, rfl, .of (h.sub _ _ h1), hn, fun m h1 h2 => o.here h (by rw [Rp]) (q m h1 h2)⟩
theorem c_minL [C : COk Y] {ns : List Int} (hn : 0 < ns.length) (q : ∀ m, m ∈ ns → (∀ y, y ∈ ns → m ≤ y) → Q (.int m) M) : OpC Y (.builtin "min") [.lst (ns.map D.int)] M Q := OpC.of (cr_min C.calm) fun H F vs R h r o => by
  obtain ⟨v, rfl, rv⟩ := rps1 r
  obtain ⟨a, rfl, h1⟩ := ints_at rv
  exact ⟨a, ns, rfl, .of (h.sub _ _ h1), hn, fun m h1 h2 => o.here h (by rw [Rp]) (q m h1 h2)⟩
theorem c_abs (q : Q (.int (if i < 0 then -i else i)) M) : OpC Y (.builtin "abs") [.int i] M Q := OpC.of call_abs fun H F vs R h r o => by
  obtain ⟨v, rfl, rv⟩ := rps1 r
  exact ⟨i, by rw [rp_int.mp rv], o.here h (by rw [Rp]) q⟩
theorem c_intB {b : Bool} (q : Q (.int (if b then 1 else 0)) M) : OpC Y (.type "int") [.bl b] M Q := OpC.of call_int1 fun H F vs R h r o => by
  obtain ⟨v, rfl, rv⟩ := rps1 r
  exact .inr ⟨b, by rw [rp_bl.mp rv], o.here h (by rw [Rp]) q⟩
theorem c_intI (q : Q (.int i) M) : OpC Y (.type "int") [.int i] M Q := OpC.of call_int1 fun H F vs R h r o => by
  obtain ⟨v, rfl, rv⟩ := rps1 r
  exact .inl ⟨i, by rw [rp_int.mp rv], o.here h (by rw [Rp]) q⟩
theorem c_sorted [C : COk Y] {ns : List Int} (q : ∀ ns' : List Int, ns'.Perm ns → ns'.Pairwise (· ≤ ·) → Q (.lst (ns'.map D.int)) M) : OpC Y (.builtin "sorted") [.lst (ns.map D.int)] M Q := OpC.of cr_sortedI fun H F vs R h r o => by
  obtain ⟨v, rfl, rv⟩ := rps1 r
  obtain ⟨a, rfl, h1⟩ := ints_at rv
  refine ⟨a, ns, rfl, .of (h.sub _ _ h1), fun ns' p h1 h2 hp => ?_⟩
  have s := Stp.frozen (o := .lst (ns'.map V.int)) h hp
  exact o _ _ _ _ _ s (rp_lst.mpr ⟨p, _, rfl, upd_same, Rps.ints _⟩) (q ns' h1 h2)
theorem c_listm {xs : List D} (x : D) (hx : x = .lst xs ∨ x = .tup xs) (q : ∀ p, Q (.ptr p) ((p, .lst xs) :: M)) : OpC Y (.type "list") [x] M Q := OpC.of call_list_of fun H F vs R h r o => by
  obtain ⟨v, rfl, rv⟩ := rps1 r
  have : ∃ a us, v = .ref a ∧ (SqL Y.X.K H a us ∨ SqT Y.X.K H a us) ∧ Rps Y.X.K F xs us := by
    rcases hx with rfl | rfl
    · obtain ⟨a, us, rfl, h1, r1⟩ := rp_lst.mp rv
      exact ⟨a, us, rfl, .inl (.of (h.sub _ _ h1)), r1⟩
    · obtain ⟨a, us, rfl, h1, r1⟩ := rp_tup.mp rv
      exact ⟨a, us, rfl, .inr (Same.tup h.sub h1), r1⟩
  obtain ⟨a, us, rfl, hq, r1⟩ := this
  refine ⟨a, us, rfl, hq, fun p hp => ?_⟩
  have s := Stp.own (o := .lst us) (m := .lst xs) h hp ⟨_, rfl, r1⟩
  exact o _ _ _ _ _ s (rp_ptr.mpr rfl) (q p)
/-! isinstance -/
/-- a value's built-in type -/
def tyD : D → String
  | .non => "NoneType" | .bl _ => "bool" | .int _ => "int" | .str _ => "str" | .tup _ => "tuple" | .lst _ => "list" | .scr _ => "list" | .ty _ => "type" | .ptr _ => "?"
def D.plain : D → Bool
  | .ty _ => false | .ptr _ => false | _ => true
theorem tyx_of {K : PySem.W.Frag} {F H : Hp} (s : Same F H) : ∀ {d : D} {v : V}, d.plain = true → Rp K F d v → TyX K H v (.type (tyD d))
  | .non, _, _, r => by rw [rp_non.mp r]; exact .base .non
  | .bl b, _, _, r => by rw [rp_bl.mp r]; exact .base (.bl b)
  | .int b, _, _, r => by rw [rp_int.mp r]; exact .base (.int b)
  | .str b, _, _, r => by rw [rp_str.mp r]; exact .base (.str b)
  | .tup ds, _, _, r => by
    obtain ⟨a, xs, rfl, h, _⟩ := rp_tup.mp r
    rcases Same.tup s h with (h | ⟨o, h⟩) | ⟨o, _, _, h, c, _⟩
    · exact .base (.tup h)
    · exact .fTuple h
    · exact .kTuple h c
  | .lst ds, _, _, r => by
    obtain ⟨a, xs, rfl, h, _⟩ := rp_lst.mp r
    exact .base (.lst (s _ _ h))
  | .scr ns, _, _, r => by
    obtain ⟨a, rfl, h⟩ := rp_scr.mp r
    rcases Same.seq s h with (h | ⟨o, h⟩) | ⟨o, _, _, h, c, _⟩
    · exact .base (.lst h)
    · exact .base (.frz h)
    · exact .kList h c
/-- whether data is of a built-in class -/
def isT (x : D) (T : String) : Bool := (kitB (tyD x) T).getD false
def TyN (T : String) : Bool := T == "int" || T == "bool" || T == "list" || T == "tuple" || T == "str"
theorem isT_some {x : D} {T : String} (hp : x.plain = true) (hT : TyN T = true) : kitB (tyD x) T = some (isT x T) := by
  have h : T = "int" ∨ T = "bool" ∨ T = "list" ∨ T = "tuple" ∨ T = "str" := by
    simp [TyN] at hT
    rcases hT with (((h | h) | h) | h) | h <;> simp [h]
  have e : ∀ t : String, (t = "NoneType" ∨ t = "bool" ∨ t = "int" ∨ t = "str" ∨ t = "tuple" ∨ t = "list") → (kitB t T).isSome = true := by
    rcases h with rfl | rfl | rfl | rfl | rfl <;> (intro t ht; rcases ht with rfl | rfl | rfl | rfl | rfl | rfl <;> decide +kernel)
  have e2 : (kitB (tyD x) T).isSome = true := e _ (by cases x <;> simp_all [tyD, D.plain])
  unfold isT
  cases q : kitB (tyD x) T with
  | none => rw [q] at e2; cases e2
  | some b => rfl
theorem c_isi {T : String} (hp : x.plain = true) (hT : TyN T = true) (q : Q (.bl (isT x T)) M) : OpC Y (.builtin "isinstance") [x, .ty T] M Q := OpC.of call_isi fun H F vs R h r o => by
  obtain ⟨v, w, rfl, rv, rw'⟩ := rps2 r
  rw [rp_ty.mp rw']
  exact ⟨v, .ty T, _, _, _, rfl, .ty T, tyx_of h.sub hp rv, kit_ty (isT_some hp hT), o.here h (by rw [Rp]) q⟩
def is_int : D → Bool
  | .int _ => true
  | .bl _ => true
  | _ => false
theorem isT_int {x : D} (hp : x.plain = true) : isT x "int" = is_int x := by
  cases x <;> first | (simp [D.plain] at hp; done) | (simp only [isT, tyD, is_int]; decide +kernel)
def is_bool : D → Bool
  | .bl _ => true
  | _ => false
theorem isT_bool {x : D} (hp : x.plain = true) : isT x "bool" = is_bool x := by
  cases x <;> first | (simp [D.plain] at hp; done) | (simp only [isT, tyD, is_bool]; decide +kernel)
def is_list : D → Bool
  | .lst _ => true
  | .scr _ => true
  | _ => false
theorem isT_list {x : D} (hp : x.plain = true) : isT x "list" = is_list x := by
  cases x <;> first | (simp [D.plain] at hp; done) | (simp only [isT, tyD, is_list]; decide +kernel)
def is_tuple : D → Bool
  | .tup _ => true
  | _ => false
theorem isT_tuple {x : D} (hp : x.plain = true) : isT x "tuple" = is_tuple x := by
  cases x <;> first | (simp [D.plain] at hp; done) | (simp only [isT, tyD, is_tuple]; decide +kernel)
def is_str : D → Bool
  | .str _ => true
  | _ => false
theorem isT_str {x : D} (hp : x.plain = true) : isT x "str" = is_str x := by
  cases x <;> first | (simp [D.plain] at hp; done) | (simp only [isT, tyD, is_str]; decide +kernel)
def kitAnyB (t : String) : List String → Option Bool
  | [] => some false
  | c :: cs => match kitB t c with
    | some true => some true
    | some false => kitAnyB t cs
    | none => none
theorem kitAnyB_ok {K : PySem.W.Frag} {t : String} : ∀ {cs : List String} {b : Bool}, kitAnyB t cs = some b → PySem.W.kitAny K (.type t) (cs.map Value.type) = some b
  | [], b, h => by cases h; rfl
  | c :: cs, b, h => by
    unfold kitAnyB at h
    cases e : kitB t c with
    | none => rw [e] at h; cases h
    | some k =>
      rw [e] at h
      cases k with
      | true => cases h; exact kitAny_cons (kit_ty e) (fun z => nomatch z) fun _ => rfl
      | false => exact kitAny_cons (kit_ty e) (fun _ => kitAnyB_ok h) fun z => nomatch z
theorem tys_of {K : PySem.W.Frag} {F : Hp} : ∀ {cs : List String} {vs : List V}, Rps K F (cs.map D.ty) vs → vs = cs.map V.ty
  | [], _, h => by rw [List.map_nil] at h; exact rps_nil.mp h
  | c :: cs, _, h => by
    rw [List.map_cons] at h
    obtain ⟨y, r, rfl, h1, h2⟩ := rps_cons.mp h
    rw [rp_ty.mp h1, tys_of h2]; rfl
theorem paired_ty : ∀ cs : List String, Paired ClsV (cs.map V.ty) (cs.map Value.type)
  | [] => .nil
  | c :: cs => .cons (.ty c) (paired_ty cs)
/-- isinstance(x, T), T any tuple of classes -/
def rIsiT' (K : PySem.W.Frag) : List V → Hp → VK → Prop := fun xs H Q => ∃ (x : V) (tp : Addr) (cs : List V) (t : Value) (us : List Value) (b : Bool), xs = [x, .ref tp] ∧ SqT K H tp cs ∧ Paired ClsV cs us ∧ TyX K H x t ∧ PySem.W.kitAny K t us = some b ∧ Q (.bl b) H
theorem call_isiT' {X : Cx} : CallR X (.builtin "isinstance") (rIsiT' X.K) := by
  intro pins s σ H xs us Q I r h
  obtain ⟨x, tp, cs, t, ws, b, rfl, hT, k, ty, e, q⟩ := h
  obtain ⟨u1, u2, rfl, r1, r2⟩ := vals2 r
  cases (show u2 = Value.ref tp from r2)
  obtain ⟨P, Z, p, hx⟩ := kit_of I r1 ty
  obtain ⟨its, rv, ⟨o, h1, h2, n, h3⟩, _⟩ := I.tuple hT
  have e3 := ClsV.all k rv
  subst e3
  obtain ⟨oc, od, dt, sl⟩ := o
  simp only at h2 h3
  subst h2 h3
  exact PySem.W.kia_tup Z I.kIn p h1 e hx fun tk => ⟨.bl b, H, I.tok tk, rfl, q⟩
theorem kitAnyB_isT {x : D} (hp : x.plain = true) : ∀ {cs : List String}, cs.all TyN = true → kitAnyB (tyD x) cs = some (cs.any (isT x))
  | [], _ => rfl
  | c :: cs, h => by
    rw [List.all_cons, Bool.and_eq_true] at h
    unfold kitAnyB
    rw [isT_some hp h.1, List.any_cons]
    cases isT x c with
    | true => rfl
    | false => exact kitAnyB_isT hp h.2
theorem c_isiT (cs : List String) (hp : x.plain = true) (hc : cs.all TyN = true) (q : Q (.bl (cs.any (isT x))) M) : OpC Y (.builtin "isinstance") [x, .tup (cs.map D.ty)] M Q := OpC.of call_isiT' fun H F vs R h r o => by
  obtain ⟨v, w, rfl, rv, rw'⟩ := rps2 r
  obtain ⟨a, xs, rfl, hT, r1⟩ := rp_tup.mp rw'
  have e := tys_of r1
  exact ⟨v, a, xs, _, cs.map Value.type, _, rfl, Same.tup h.sub hT, by rw [e]; exact paired_ty cs, tyx_of h.sub hp rv, kitAnyB_ok (kitAnyB_isT hp hc), o.here h (by rw [Rp]) q⟩
/-! ### methods of what is built in -/
def TyD (K : PySem.W.Frag) (T : String) (x : D) (M : Mu) : Prop := ∀ F H v, SRh K F M H → Rp K F x v → tyV K T v H
theorem tyd_str {K : PySem.W.Frag} {z : Str} : TyD K "str" (.str z) M := fun F H v h r => by rw [rp_str.mp r]; rfl
theorem tyd_lst {K : PySem.W.Frag} {xs : List D} : TyD K "list" (.lst xs) M := fun F H v h r => by
  obtain ⟨a, us, rfl, h1, _⟩ := rp_lst.mp r
  exact .inl ⟨rfl, us, .of (h.sub _ _ h1)⟩
theorem tyd_ptr {K : PySem.W.Frag} {k : Nat} {a : Addr} {xs : List D} (hk : M[k]? = some (a, .lst xs)) : TyD K "list" (.ptr a) M := fun F H v h r => by
  obtain ⟨us, rfl, h1, _⟩ := lst_ours h hk r
  exact .inl ⟨rfl, us, .of h1⟩
end
section
variable {Y : Cc} {δ : Dl} {M : Mu} {Q : D → Mu → Prop} {o e : Expr} {es : List Expr} {name : Str} {apos cpos : Pos} {T id : String}
theorem ev_bm0 (pa : PlainAttrs T) (slot : Slot T name id) (hty : typeOf (.builtin id) = pure (.type "method_descriptor")) (h : Ev Y δ M o fun x M1 => TyD Y.X.K T x M1 ∧ OpM Y T id x [] M1 Q)
    (hbase : attributeBase o name Y.X.env (eval o Y.X.env) = eval o Y.X.env := by rfl) (hline : (apos.endLine == cpos.line) = true := by rfl) : Ev Y δ M (.Call (.Attribute o name apos) [] [] cpos) Q := by
  intro σ H F R at0 hs out
  refine tW_of (pe_bm0 pa slot hty (or_mW Y.X id) (pe_tW _ _) hbase hline) (h σ H F _ at0 hs fun v H1 d M1 F1 s1 r1 ⟨ty, q1⟩ => ?_)
  exact ⟨ty F1 H1 v s1.ok r1, q1 H1 F1 v [] R (at0.go s1) r1 Rps.nil (out.step s1)⟩
theorem ev_bm (pa : PlainAttrs T) (slot : Slot T name id) (hty : typeOf (.builtin id) = pure (.type "method_descriptor")) (h : Ev Y δ M o fun x M1 => TyD Y.X.K T x M1 ∧ Ea Y δ M1 (e :: es) fun xs M2 => OpM Y T id x xs M2 Q)
    (hbase : attributeBase o name Y.X.env (eval o Y.X.env) = eval o Y.X.env := by rfl)
    (hfew : ((backTo cpos (starEach (e :: es) Y.X.env)).all (fun x => !x.1) && (backToKw cpos (keywordEach [] Y.X.env)).all (fun x => x.1.isSome)
      && decide ((e :: es).length + ([] : List Keyword).length + (if ([] : List Keyword).isEmpty then 0 else 1) < 30)) = true := by rfl)
    (hline : (apos.endLine == cpos.line) = true := by rfl) (hs : starEach (e :: es) Y.X.env = (false, eval e Y.X.env) :: starEach es Y.X.env := by rfl) (hplain : (backTo cpos (starEach es Y.X.env)).any (·.1) = false := by rfl) :
    Ev Y δ M (.Call (.Attribute o name apos) (e :: es) [] cpos) Q := by
  intro σ H F R at0 hs' out
  refine tW_of (pe_bm pa slot hty (or_mW Y.X id) (pe_tW _ _) (pa_tW _ _) hbase hfew hline hs hplain) (h σ H F _ at0 hs' fun v H1 d M1 F1 s1 r1 ⟨ty, q1⟩ => ?_)
  refine ⟨ty F1 H1 v s1.ok r1, q1 σ H1 F1 _ (at0.go s1) (hs'.mono s1.fr) fun vs H2 ds M2 F2 s2 r2 q2 => ?_⟩
  exact q2 H2 F2 v vs R (at0.go (s1.trans s2)) (Rp.mono s2.fr _ _ r1) r2 (out.step (s1.trans s2))
theorem ev_app (h : Ev Y δ M o fun x M1 => TyD Y.X.K "list" x M1 ∧ Ea Y δ M1 [e] fun xs M2 => OpM Y "list" "list.append" x xs M2 Q)
    (hbase : attributeBase o "append" Y.X.env (eval o Y.X.env) = eval o Y.X.env := by rfl)
    (hfew : ((backTo cpos (starEach [e] Y.X.env)).all (fun x => !x.1) && (backToKw cpos (keywordEach [] Y.X.env)).all (fun x => x.1.isSome)
      && decide ([e].length + ([] : List Keyword).length + (if ([] : List Keyword).isEmpty then 0 else 1) < 30)) = true := by rfl)
    (hline : (apos.endLine == cpos.line) = true := by rfl) (hs : starEach [e] Y.X.env = (false, eval e Y.X.env) :: starEach [] Y.X.env := by rfl) : Ev Y δ M (.Call (.Attribute o "append" apos) [e] [] cpos) Q :=
  ev_bm PySem.F.plainAttrs_list PySem.F.slot_list_append PySem.F.type_list_append h hbase hfew hline hs
theorem m_append {k : Nat} {a : Addr} {xs : List D} {d : D} (hk : M[k]? = some (a, .lst xs)) (hl : xs.length < sizeLine) (q : Q .non (M.set k (a, .lst (xs ++ [d])))) : OpM Y "list" "list.append" (.ptr a) [d] M Q := OpM.of mt_append fun H F vx vs R h rx r out => by
  obtain ⟨v, rfl, rv⟩ := rps1 r
  obtain ⟨us, rfl, h1, r1⟩ := lst_ours h hk rx
  have s := Stp.write (m' := .lst (xs ++ [d])) (o' := .lst (us ++ [v])) h hk ⟨_, rfl, Rps.app r1 (Rps.cons rv Rps.nil)⟩
  exact ⟨a, us, v, rfl, rfl, h1, by rw [← r1.len]; exact hl, out _ _ _ _ _ s (by rw [Rp]) q⟩
theorem m_pop {k : Nat} {a : Addr} {xs : List D} {d : D} (hk : M[k]? = some (a, .lst (xs ++ [d]))) (q : Q d (M.set k (a, .lst xs))) : OpM Y "list" "list.pop" (.ptr a) [] M Q := OpM.of mt_pop fun H F vx vs R h rx r out => by
  obtain rfl := rps_nil.mp r
  obtain ⟨us, rfl, h1, r1⟩ := lst_ours h hk rx
  have hlen := r1.len
  have hg : (xs ++ [d])[us.length - 1]? = some d := by rw [← hlen]; simp
  obtain ⟨v, hv, rv⟩ := r1.get hg
  have hdl : us.dropLast = us.take xs.length := by rw [List.dropLast_eq_take, ← hlen]; simp
  have r2 : Rps Y.X.K F xs us.dropLast := by
    have := Rps.take xs.length r1
    rw [hdl]; simpa using this
  have s := Stp.write (m' := .lst xs) (o' := .lst us.dropLast) h hk ⟨_, rfl, r2⟩
  exact ⟨a, us, v, rfl, rfl, h1, hv, out _ _ _ _ _ s rv q⟩
theorem m_extend {k : Nat} {a : Addr} {xs ys : List D} (hk : M[k]? = some (a, .lst xs)) (hl : xs.length + ys.length ≤ sizeLine) (q : Q .non (M.set k (a, .lst (xs ++ ys)))) : OpM Y "list" "list.extend" (.ptr a) [.lst ys] M Q := OpM.of mt_extend fun H F vx vs R h rx r out => by
  obtain ⟨v, rfl, rv⟩ := rps1 r
  obtain ⟨us, rfl, h1, r1⟩ := lst_ours h hk rx
  obtain ⟨b, ws, rfl, h2, r2⟩ := rp_lst.mp rv
  have s := Stp.write (m' := .lst (xs ++ ys)) (o' := .lst (us ++ ws)) h hk ⟨_, rfl, Rps.app r1 r2⟩
  exact ⟨a, b, us, ws, rfl, rfl, h1, h.sub _ _ h2, by rw [← r1.len, ← r2.len]; exact hl, out _ _ _ _ _ s (by rw [Rp]) q⟩
theorem m_clear {k : Nat} {a : Addr} {xs : List D} (hk : M[k]? = some (a, .lst xs)) (q : Q .non (M.set k (a, .lst []))) : OpM Y "list" "list.clear" (.ptr a) [] M Q := OpM.of mt_clear fun H F vx vs R h rx r out => by
  obtain rfl := rps_nil.mp r
  obtain ⟨us, rfl, h1, r1⟩ := lst_ours h hk rx
  have s := Stp.write (m' := .lst []) (o' := .lst []) h hk ⟨_, rfl, Rps.nil⟩
  exact ⟨a, us, rfl, rfl, h1, out _ _ _ _ _ s (by rw [Rp]) q⟩
theorem m_reverse {k : Nat} {a : Addr} {xs : List D} (hk : M[k]? = some (a, .lst xs)) (q : Q .non (M.set k (a, .lst xs.reverse))) : OpM Y "list" "list.reverse" (.ptr a) [] M Q := OpM.of mt_reverse fun H F vx vs R h rx r out => by
  obtain rfl := rps_nil.mp r
  obtain ⟨us, rfl, h1, r1⟩ := lst_ours h hk rx
  have s := Stp.write (m' := .lst xs.reverse) (o' := .lst us.reverse) h hk ⟨_, rfl, r1.rev⟩
  exact ⟨a, us, rfl, rfl, h1, out _ _ _ _ _ s (by rw [Rp]) q⟩
/-- x[i] read for x[i] op= e -/
theorem g_ptr {k : Nat} {a : Addr} {xs : List D} {i : Int} {d : D} (hk : M[k]? = some (a, .lst xs)) (h0 : 0 ≤ i) (h : atI xs i = some d) (q : Q d M) : OpG Y (.ptr a) (.int i) M Q := fun H F vx vy R at0 rx ry out pins s σ v u I r1 r2 => by
  obtain ⟨vs, rfl, h1, rr⟩ := lst_ours at0.ok hk rx
  obtain ⟨w, hw, rw'⟩ := rr.atI h
  obtain rfl := rp_int.mp ry
  cases r1
  obtain ⟨t, rfl⟩ := r2
  obtain ⟨its, r, pl, hz⟩ := I.list (.of h1)
  obtain ⟨j, e1, e2, e3, e4, e5⟩ := atI_get hw
  obtain ⟨u', hu', ru'⟩ := r.get e2
  have hl := r.length
  have hn := line63
  have hj : i.toNat = j := by
    rw [seqIndex_of h0 e5] at e1
    exact Option.some.inj e1
  exact wpAny_getItem_list pl.isList h0 (by omega) (by rw [hj]; simpa using hu') ⟨w, H, I, ru', out.here at0.ok rw' q⟩
theorem s_tup' {xs : List D} {lo hi : Option Int} (q : Q (.tup (cutD xs lo hi)) M) : OpS Y (.tup xs) lo hi M Q := OpS.of sl_tupA fun H F vx R h rx o => by
  obtain ⟨a, vs, rfl, h1, r1⟩ := rp_tup.mp rx
  refine ⟨a, vs, rfl, Same.tup h.sub h1, fun hw => ?_, fun hw p hp => ?_⟩
  · have e : cutD xs lo hi = xs := by
      rw [← r1.len] at hw
      unfold cutD
      rw [hw.1, hw.2]; simp
    rw [e] at q
    exact o.here h rx q
  · have s := Stp.frozen (o := .tup (cutV vs lo hi)) h hp
    exact o _ _ _ _ _ s (rp_tup.mpr ⟨p, _, rfl, .of upd_same, Rps.mono s.fr _ _ (r1.cut lo hi)⟩) q
end
end TD

namespace TD
open PySem PySem.Spec PyProof.Rows L2

/-! ### less is known -/
structure Kn (δ δ' : Dl) : Prop where
  len : δ.length = δ'.length
  sl : ∀ (i : Nat) (d : D), δ'[i]? = some (some d) → δ[i]? = some (some d)
theorem Kn.refl (δ : Dl) : Kn δ δ := ⟨rfl, fun _ _ h => h⟩
theorem Kn.trans {a b c : Dl} (h : Kn a b) (g : Kn b c) : Kn a c := ⟨h.len.trans g.len, fun i d e => h.sl i d (g.sl i d e)⟩
theorem Kn.nil : Kn [] [] := Kn.refl _
theorem Kn.cons {x : Option D} {a b : Dl} (h : Kn a b) : Kn (x :: a) (x :: b) := ⟨by simp [h.len], fun i d e => by
  cases i with
  | zero => simpa using e
  | succ i => simpa using h.sl i d (by simpa using e)⟩
theorem Kn.lose {x : Option D} {a b : Dl} (h : Kn a b) : Kn (x :: a) (none :: b) := ⟨by simp [h.len], fun i d e => by
  cases i with
  | zero => simp at e
  | succ i => simpa using h.sl i d (by simpa using e)⟩
theorem SRs.know {K : PySem.W.Frag} {F : Hp} {δ δ' : Dl} {σ : L2.St} (h : SRs K F δ σ) (k : Kn δ δ') : SRs K F δ' σ := ⟨k.len.symm.trans h.len, fun i d e => h.sl i d (k.sl i d e)⟩
section
variable {Y : Cc} {δ δ' : Dl} {M : Mu} {D : Fx} {sts body : List Stmt} {tg c : Expr}
theorem Es.know (h : Es Y δ' M sts D) (k : Kn δ δ') : Es Y δ M sts D := fun σ H F E a hs o => h σ H F E a (hs.know k) o
/-- the slots are as told, the rest forgotten -/
theorem es_kn (δ' : Dl) (k : Kn δ δ') (h : Es Y δ' M sts D) : Es Y δ M sts D := h.know k
def Mono (f : Dl → Mu → Prop) : Prop := ∀ δ δ' M, Kn δ δ' → f δ' M → f δ M
theorem mono_es : Mono (fun δ M => Es Y δ M sts D) := fun _ _ _ k h => Es.know h k
theorem mono_c {f : Mu → Prop} : Mono (fun _ M => f M) := fun _ _ _ _ h => h
def Nxt {S : Type} (st : S → Dl) (mu : S → Mu) (R : S → Prop) : Dl → Mu → Prop := fun δ M => ∃ s, R s ∧ Kn δ (st s) ∧ M = mu s
theorem mono_nxt {S : Type} {st : S → Dl} {mu : S → Mu} {R : S → Prop} : Mono (Nxt st mu R) := fun _ _ _ k ⟨s, r, k2, e⟩ => ⟨s, r, k.trans k2, e⟩
theorem Eg.know {Q : Dl → Mu → Prop} {d : TD.D} (h : Eg Y tg d δ' M Q) (k : Kn δ δ') : Eg Y tg d δ M Q := fun v σ H F R a hs r o => h v σ H F R a (hs.know k) r o
theorem ForL.know (hm : Mono D.nx) : ∀ (ds : List TD.D) {δ δ' : Dl} {M : Mu}, Kn δ δ' → ForL Y tg body D ds δ' M → ForL Y tg body D ds δ M
  | [], _, _, _, k, h => by rw [ForL] at h ⊢; exact hm _ _ _ k h
  | d :: ds, _, _, _, k, h => by rw [ForL] at h ⊢; exact Eg.know h k
/-- a loop over data, by what is to hold of the rest and the state -/
theorem forL_ind {α S : Type} (en : α → TD.D) (st : S → Dl) (mu : S → Mu) (R : List α → S → Prop) (hm : Mono D.nx) (nil : ∀ s, R [] s → D.nx (st s) (mu s))
    (cons : ∀ a as s, R (a :: as) s → Eg Y tg (en a) (st s) (mu s) fun δ1 M1 => Es Y δ1 M1 body { D with nx := Nxt st mu (R as), ct := Nxt st mu (R as), bk := D.nx }) :
    ∀ (as : List α) (s : S), R as s → ForL Y tg body D (as.map en) (st s) (mu s)
  | [], s, r => by rw [List.map_nil, ForL]; exact nil s r
  | a :: as, s, r => by
    rw [List.map_cons, ForL]
    have step : ∀ δ M, Nxt st mu (R as) δ M → ForL Y tg body D (as.map en) δ M := fun δ M ⟨s', r', k, e⟩ => by
      subst e
      exact ForL.know hm _ k (forL_ind en st mu R hm nil cons as s' r')
    have h := cons a as s r
    intro v σ H F R0 a0 hs rr o
    refine h v σ H F R0 a0 hs rr fun σ' δ' H' M' F' s1 r1 q1 => o σ' δ' H' M' F' s1 r1 ?_
    exact q1.mono step (fun _ _ q => q) (fun _ _ q => q) step
/-- .. where each turn does f to the state -/
theorem forL_fold {α S : Type} (en : α → TD.D) (st : S → Dl) (mu : S → Mu) (f : S → α → S) (as : List α) (s : S) (hm : Mono D.nx)
    (step : ∀ a as' s', (∃ pre, as = pre ++ a :: as' ∧ s' = pre.foldl f s) → Eg Y tg (en a) (st s') (mu s') fun δ1 M1 => Es Y δ1 M1 body { D with nx := Nxt st mu (· = f s' a), ct := Nxt st mu (· = f s' a), bk := D.nx })
    (fin : D.nx (st (as.foldl f s)) (mu (as.foldl f s))) : ForL Y tg body D (as.map en) (st s) (mu s) := by
  refine forL_ind en st mu (fun r s' => ∃ pre, as = pre ++ r ∧ s' = pre.foldl f s) hm (fun s' ⟨pre, e, e2⟩ => ?_) (fun a r s' ⟨pre, e, e2⟩ => ?_) as s ⟨[], rfl, rfl⟩
  · rw [List.append_nil] at e
    subst e; subst e2
    exact fin
  · have nx : ∀ δ M, Nxt st mu (· = f s' a) δ M → Nxt st mu (fun s'' => ∃ pre, as = pre ++ r ∧ s'' = pre.foldl f s) δ M := fun δ M ⟨s'', e1, k, e3⟩ => ⟨s'', ⟨pre ++ [a], by rw [e]; simp, by rw [e1, e2]; simp⟩, k, e3⟩
    have h := step a r s' ⟨pre, e, e2⟩
    intro v σ H F R0 a0 hs rr o
    refine h v σ H F R0 a0 hs rr fun σ' δ' H' M' F' s1 r1 q1 => o σ' δ' H' M' F' s1 r1 ?_
    exact q1.mono nx (fun _ _ q => q) (fun _ _ q => q) nx
/-- over a range -/
theorem forL_rng {S : Type} {lo : Int} {n : Nat} (st : S → Dl) (mu : S → Mu) (R : Nat → S → Prop) (s : S) (hm : Mono D.nx) (h0 : R 0 s)
    (cons : ∀ i s, i < n → R i s → Eg Y tg (.int (lo + (i : Nat))) (st s) (mu s) fun δ1 M1 => Es Y δ1 M1 body { D with nx := Nxt st mu (R (i + 1)), ct := Nxt st mu (R (i + 1)), bk := D.nx })
    (nil : ∀ s, R n s → D.nx (st s) (mu s)) : ForL Y tg body D (rngD lo n) (st s) (mu s) := by
  unfold rngD
  refine forL_ind (fun i : Nat => .int (lo + (i : Nat))) st mu (fun r s => ∃ i, r = (List.range n).drop i ∧ i ≤ n ∧ R i s) hm (fun s ⟨i, e, hi, r⟩ => ?_) (fun a as s ⟨i, e, hi, r⟩ => ?_) (List.range n) s ⟨0, by simp, Nat.zero_le _, h0⟩
  · have := congrArg List.length e
    simp at this
    have e : i = n := by omega
    subst e
    exact nil s r
  · have hlt : i < n := by
      rcases Nat.lt_or_ge i n with z | z
      · exact z
      · rw [List.drop_eq_nil_of_le (by simpa using z)] at e; cases e
    rw [List.drop_eq_getElem_cons (by simpa using hlt)] at e
    injection e with e1 e2
    rw [List.getElem_range] at e1
    subst e1
    have nx : ∀ δ M, Nxt st mu (R (a + 1)) δ M → Nxt st mu (fun s => ∃ i, as = (List.range n).drop i ∧ i ≤ n ∧ R i s) δ M := fun δ M ⟨s', r', k, e3⟩ => ⟨s', ⟨a + 1, e2, hlt, r'⟩, k, e3⟩
    have h := cons a s hlt r
    intro v σ H F R0 a0 hs rr o
    refine h v σ H F R0 a0 hs rr fun σ' δ' H' M' F' s1 r1 q1 => o σ' δ' H' M' F' s1 r1 ?_
    exact q1.mono nx (fun _ _ q => q) (fun _ _ q => q) nx
/-- a while by a measure -/
theorem whL_know (hm : Mono D.nx) : ∀ (n : Nat) {δ δ' : Dl} {M : Mu}, Kn δ δ' → WhL Y c body D n δ' M → WhL Y c body D n δ M
  | 0, _, _, _, _, h => h
  | n + 1, _, _, _, k, h => by
    rw [WhL] at h ⊢
    intro σ H F R a hs o
    refine h σ H F R a (hs.know k) fun b H' M' F' s q => o b H' M' F' s ?_
    cases b with
    | true => rw [if_pos rfl] at q ⊢; exact Es.know q k
    | false => rw [if_neg Bool.false_ne_true] at q ⊢; exact hm _ _ _ k q
theorem whL_more {n m : Nat} (h : n ≤ m) : ∀ {δ : Dl} {M : Mu}, WhL Y c body D n δ M → WhL Y c body D m δ M := by
  induction n generalizing m with
  | zero => intro δ M h; exact h.elim
  | succ n ih =>
    intro δ M hw
    cases m with
    | zero => omega
    | succ m =>
      rw [WhL] at hw ⊢
      intro σ H F R a hs o
      refine hw σ H F R a hs fun b H' M' F' s q => o b H' M' F' s ?_
      cases b with
      | true =>
        rw [if_pos rfl] at q ⊢
        exact q.mono (fun _ _ z => ih (by omega) z) (fun _ _ z => z) (fun _ _ z => z) fun _ _ z => ih (by omega) z
      | false => rw [if_neg Bool.false_ne_true] at q ⊢; exact q
theorem whL_ind {S : Type} (st : S → Dl) (mu : S → Mu) (R : S → Prop) (μ : S → Nat) (hm : Mono D.nx)
    (step : ∀ s, R s → Et Y (st s) (mu s) c fun k M1 => if k = true then Es Y (st s) M1 body { D with nx := Nxt st mu (fun s' => R s' ∧ μ s' < μ s), ct := Nxt st mu (fun s' => R s' ∧ μ s' < μ s), bk := D.nx } else D.nx (st s) M1) :
    ∀ (n : Nat) (s : S), R s → μ s < n → WhL Y c body D n (st s) (mu s)
  | 0, s, _, h => absurd h (Nat.not_lt_zero _)
  | n + 1, s, r, hn => by
    rw [WhL]
    have nx : ∀ δ M, Nxt st mu (fun s' => R s' ∧ μ s' < μ s) δ M → WhL Y c body D n δ M := fun δ M ⟨s', ⟨r', lt⟩, k, e⟩ => by
      subst e
      exact whL_know hm n k (whL_ind st mu R μ hm step n s' r' (by omega))
    intro σ H F R0 a hs o
    refine step s r σ H F R0 a hs fun b H' M' F' s1 q => o b H' M' F' s1 ?_
    cases b with
    | true =>
      rw [if_pos rfl] at q ⊢
      exact q.mono nx (fun _ _ z => z) (fun _ _ z => z) nx
    | false => rw [if_neg Bool.false_ne_true] at q ⊢; exact q
theorem e1_whileI [C : CPo Y] {pos : Pos} {S : Type} (st : S → Dl) (mu : S → Mu) (R : S → Prop) (μ : S → Nat) (s : S) (hm : Mono D.nx) (r : R s)
    (step : ∀ s, R s → Et Y (st s) (mu s) c fun k M1 => if k = true then Es Y (st s) M1 body { D with nx := Nxt st mu (fun s' => R s' ∧ μ s' < μ s), ct := Nxt st mu (fun s' => R s' ∧ μ s' < μ s), bk := D.nx } else D.nx (st s) M1) :
    E1 Y (st s) (mu s) (.While c body [] pos) D := e1_while (μ s + 1) (whL_ind st mu R μ hm step _ s r (Nat.lt_succ_self _))
end
/-! comprehensions over data -/
section
variable {Y : Cc} {δ : Dl} {elt : Expr} {ifs : List Expr} {scope : Scope} {tgt : Tgt} {Q : List D → Mu → Prop}
theorem lcTurn_mono {δ1 : Dl} {M : Mu} {yes yes' : D → Mu → Prop} {no no' : Mu → Prop} (hy : ∀ d M, yes d M → yes' d M) (hn : ∀ M, no M → no' M) : ∀ {ifs : List Expr}, lcTurn Y scope δ1 M ifs elt yes no → lcTurn Y scope δ1 M ifs elt yes' no'
  | [], h => fun s H C cl fp σ H1 F R a hs o => (show EvB Y scope δ1 M elt yes from h) s H C cl fp σ H1 F R a hs fun v H' d M' F' st r q => o v H' d M' F' st r (hy _ _ q)
  | [c], h => fun s H C cl fp σ H1 F R a hs o => (show EtB Y scope δ1 M c fun k M1 => if k = true then EvB Y scope δ1 M1 elt yes else no M1 from h) s H C cl fp σ H1 F R a hs fun b H' M' F' st q => o b H' M' F' st (by
      cases b with
      | true =>
        rw [if_pos rfl] at q ⊢
        exact fun s H C cl fp σ H1 F R a hs o => q s H C cl fp σ H1 F R a hs fun v H' d M' F' st r q => o v H' d M' F' st r (hy _ _ q)
      | false => rw [if_neg Bool.false_ne_true] at q ⊢; exact hn _ q)
  | _ :: _ :: _, h => h.elim
/-- by what is to hold of the rest, what is made, and ours -/
theorem lcL_ind {α S : Type} (en : α → D) (mu : S → Mu) (R : List α → List D → S → Prop) (put : α → Dl) (hp : ∀ a, tgt.put (en a) δ (put a)) (nil : ∀ acc s, R [] acc s → Q acc (mu s))
    (cons : ∀ a as acc s, R (a :: as) acc s → lcTurn Y scope (put a) (mu s) ifs elt (fun y M1 => acc.length < sizeLine ∧ ∃ s', R as (acc ++ [y]) s' ∧ M1 = mu s') (fun M1 => ∃ s', R as acc s' ∧ M1 = mu s')) :
    ∀ (as : List α) (acc : List D) (s : S), R as acc s → LcL Y scope tgt δ ifs elt Q (as.map en) acc (mu s)
  | [], acc, s, r => by rw [List.map_nil, LcL]; exact nil acc s r
  | a :: as, acc, s, r => by
    rw [List.map_cons, LcL]
    refine ⟨put a, hp a, lcTurn_mono (fun d M ⟨hz, s', r', e⟩ => ⟨hz, ?_⟩) (fun M ⟨s', r', e⟩ => ?_) (cons a as acc s r)⟩
    · subst e; exact lcL_ind en mu R put hp nil cons as _ s' r'
    · subst e; exact lcL_ind en mu R put hp nil cons as _ s' r'
/-- nothing of ours changes: a map -/
theorem lcL_map {α β : Type} {M : Mu} (en : α → D) (g : α → β) (c : β → D) (put : α → Dl) (as : List α) (hp : ∀ a, tgt.put (en a) δ (put a)) (hl : as.length ≤ sizeLine)
    (turn : ∀ a ∈ as, EvB Y scope (put a) M elt fun y M1 => y = c (g a) ∧ M1 = M) (fin : Q ((as.map g).map c) M) : LcL Y scope tgt δ [] elt Q (as.map en) [] M := by
  refine lcL_ind (S := Unit) en (fun _ => M) (fun r acc _ => ∃ pre, as = pre ++ r ∧ acc = (pre.map g).map c) put hp ?nil ?cons as [] () ⟨[], rfl, rfl⟩
  case nil =>
    intro acc _ ⟨pre, e, e2⟩
    rw [List.append_nil] at e
    rw [e2, ← e]; exact fin
  case cons =>
    intro a r acc _ ⟨pre, e, e2⟩
    intro s H C cl fp σ H1 F R a0 hs o
    refine turn a (by rw [e]; simp) s H C cl fp σ H1 F R a0 hs fun v H' d M' F' st rr ⟨e3, e4⟩ => o v H' d M' F' st rr ⟨?_, (), ⟨pre ++ [a], by rw [e]; simp, by rw [e2, e3]; simp⟩, e4⟩
    have := congrArg List.length e
    rw [e2]
    simp at this ⊢
    omega
theorem lcL_mapD {β : Type} {M : Mu} (g : D → β) (c : β → D) (put : D → Dl) (as : List D) (hp : ∀ a, tgt.put a δ (put a)) (hl : as.length ≤ sizeLine)
    (turn : ∀ a ∈ as, EvB Y scope (put a) M elt fun y M1 => y = c (g a) ∧ M1 = M) (fin : Q ((as.map g).map c) M) : LcL Y scope tgt δ [] elt Q as [] M := by
  have := lcL_map (Y := Y) (scope := scope) (tgt := tgt) (δ := δ) (elt := elt) (Q := Q) id g c put as hp hl turn fin
  rwa [List.map_id] at this
/-- .. a filter and a map -/
theorem lcL_filter {α β : Type} {M : Mu} {c : Expr} (en : α → D) (p : α → Bool) (g : α → β) (cc : β → D) (put : α → Dl) (as : List α) (hp : ∀ a, tgt.put (en a) δ (put a)) (hl : as.length ≤ sizeLine)
    (test : ∀ a ∈ as, EtB Y scope (put a) M c fun k M1 => k = p a ∧ M1 = M) (turn : ∀ a ∈ as, p a = true → EvB Y scope (put a) M elt fun y M1 => y = cc (g a) ∧ M1 = M) (fin : Q (((as.filter p).map g).map cc) M) : LcL Y scope tgt δ [c] elt Q (as.map en) [] M := by
  refine lcL_ind (S := Unit) en (fun _ => M) (fun r acc _ => ∃ pre, as = pre ++ r ∧ acc = ((pre.filter p).map g).map cc) put hp ?nil ?cons as [] () ⟨[], rfl, rfl⟩
  case nil =>
    intro acc _ ⟨pre, e, e2⟩
    rw [List.append_nil] at e
    rw [e2, ← e]; exact fin
  case cons =>
    intro a r acc _ ⟨pre, e, e2⟩
    have ha : a ∈ as := by rw [e]; simp
    intro s H C cl fp σ H1 F R a0 hs o
    refine test a ha s H C cl fp σ H1 F R a0 hs fun b H' M' F' st ⟨e3, e4⟩ => o b H' M' F' st ?_
    subst e3
    subst e4
    cases hpa : p a with
    | true =>
      rw [if_pos rfl]
      intro s H C cl fp σ H1 F R a0 hs o
      refine turn a ha hpa s H C cl fp σ H1 F R a0 hs fun v H' d M' F' st rr ⟨e3, e4⟩ => o v H' d M' F' st rr ⟨?_, (), ⟨pre ++ [a], by rw [e]; simp, by rw [e2, e3]; simp [hpa]⟩, e4⟩
      have h1 := congrArg List.length e
      have h2 := List.length_filter_le p pre
      rw [e2]
      simp at h1 ⊢
      omega
    | false =>
      rw [if_neg Bool.false_ne_true]
      exact ⟨(), ⟨pre ++ [a], by rw [e]; simp, by rw [e2]; simp [hpa]⟩, rfl⟩
end
/-! tests joined -/
section
variable {Y : Cc} {δ : Dl} {M : Mu} {T : Bool → Mu → Prop} {a b : Expr} {rest : List Expr} {pos : Pos} {Q : D → Mu → Prop}
theorem Et.mono {T' : Bool → Mu → Prop} {e : Expr} (h : Et Y δ M e T) (i : ∀ k M, T k M → T' k M) : Et Y δ M e T' := fun σ H F R a hs o => h σ H F R a hs fun b H' M' F' s q => o b H' M' F' s (i _ _ q)
theorem Ew.mono {T' : Bool → Mu → Prop} {e : Expr} (h : Ew Y δ M e T) (i : ∀ k M, T k M → T' k M) : Ew Y δ M e T' := fun σ H F R a hs o => h σ H F R a hs fun b H' M' F' s q => o b H' M' F' s (i _ _ q)
theorem Ev.mono {Q' : D → Mu → Prop} {e : Expr} (h : Ev Y δ M e Q) (i : ∀ k M, Q k M → Q' k M) : Ev Y δ M e Q' := fun σ H F R a hs o => h σ H F R a hs fun b H' d M' F' s r q => o b H' d M' F' s r (i _ _ q)
theorem ew_andP (k1 k2 : Bool) (ha : Et Y δ M a fun k M1 => k = k1 ∧ M1 = M) (hb : k1 = true → Ew Y δ M (.BoolOp .And (b :: rest) pos) fun k M1 => k = k2 ∧ M1 = M) (q : T (k1 && k2) M) : Ew Y δ M (.BoolOp .And (a :: b :: rest) pos) T := by
  refine ew_and (ha.mono fun k M1 ⟨e1, e2⟩ => ?_)
  subst e1; subst e2
  cases k with
  | true =>
    rw [if_pos rfl]
    refine (hb rfl).mono fun k M1 ⟨e1, e2⟩ => ?_
    subst e1; subst e2
    simpa using q
  | false => rw [if_neg Bool.false_ne_true]; simpa using q
theorem ew_orP (k1 k2 : Bool) (ha : Et Y δ M a fun k M1 => k = k1 ∧ M1 = M) (hb : k1 = false → Ew Y δ M (.BoolOp .Or (b :: rest) pos) fun k M1 => k = k2 ∧ M1 = M) (q : T (k1 || k2) M) : Ew Y δ M (.BoolOp .Or (a :: b :: rest) pos) T := by
  refine ew_or (ha.mono fun k M1 ⟨e1, e2⟩ => ?_)
  subst e1; subst e2
  cases k with
  | false =>
    rw [if_neg Bool.false_ne_true]
    refine (hb rfl).mono fun k M1 ⟨e1, e2⟩ => ?_
    subst e1; subst e2
    simpa using q
  | true => rw [if_pos rfl]; simpa using q
theorem ev_andP (k1 k2 : Bool) (ha : Ev Y δ M a fun k M1 => k = .bl k1 ∧ M1 = M) (hb : k1 = true → Ev Y δ M (.BoolOp .And (b :: rest) pos) fun k M1 => k = .bl k2 ∧ M1 = M) (q : Q (.bl (k1 && k2)) M) : Ev Y δ M (.BoolOp .And (a :: b :: rest) pos) Q := by
  refine ev_and (ha.mono fun k M1 ⟨e1, e2⟩ => ⟨k1, e1, ?_⟩)
  subst e2
  cases k1 with
  | true =>
    rw [if_pos rfl]
    refine (hb rfl).mono fun k M1 ⟨e1, e2⟩ => ?_
    subst e1; subst e2
    simpa using q
  | false => rw [if_neg Bool.false_ne_true]; simpa using q
theorem ev_orP (k1 k2 : Bool) (ha : Ev Y δ M a fun k M1 => k = .bl k1 ∧ M1 = M) (hb : k1 = false → Ev Y δ M (.BoolOp .Or (b :: rest) pos) fun k M1 => k = .bl k2 ∧ M1 = M) (q : Q (.bl (k1 || k2)) M) : Ev Y δ M (.BoolOp .Or (a :: b :: rest) pos) Q := by
  refine ev_or (ha.mono fun k M1 ⟨e1, e2⟩ => ⟨k1, e1, ?_⟩)
  subst e2
  cases k1 with
  | false =>
    rw [if_neg Bool.false_ne_true]
    refine (hb rfl).mono fun k M1 ⟨e1, e2⟩ => ?_
    subst e1; subst e2
    simpa using q
  | true => rw [if_pos rfl]; simpa using q
end
/-! a if t else b, joined -/
section
variable {Y : Cc} {δ : Dl} {M : Mu} {a b c : Expr} {pos : Pos} {Q : D → Mu → Prop}
theorem ev_iteF {α : Type} (f : α → D) (k : Bool) (x1 x2 : α) (hc : Et Y δ M c fun k' M1 => k' = k ∧ M1 = M) (ha : k = true → Ev Y δ M a fun x M1 => x = f x1 ∧ M1 = M) (hb : k = false → Ev Y δ M b fun x M1 => x = f x2 ∧ M1 = M) (q : Q (f (if k = true then x1 else x2)) M) : Ev Y δ M (.IfExp c a b pos) Q := by
  refine ev_ite (hc.mono fun k' M1 ⟨e1, e2⟩ => ?_)
  subst e1; subst e2
  cases k' with
  | true =>
    rw [if_pos rfl]
    refine (ha rfl).mono fun x M1 ⟨e1, e2⟩ => ?_
    subst e1; subst e2
    simpa using q
  | false =>
    rw [if_neg Bool.false_ne_true]
    refine (hb rfl).mono fun x M1 ⟨e1, e2⟩ => ?_
    subst e1; subst e2
    simpa using q
end
/-! which way a test goes -/
theorem if_t {c : Bool} {A B : Prop} (h : c = true) (a : A) : if c = true then A else B := by rw [if_pos h]; exact a
theorem if_f {c : Bool} {A B : Prop} (h : c = false) (b : B) : if c = true then A else B := by rw [h, if_neg Bool.false_ne_true]; exact b
theorem if_2 {c : Bool} {A B : Prop} (a : c = true → A) (b : c = false → B) : if c = true then A else B := by
  cases c with
  | true => rw [if_pos rfl]; exact a rfl
  | false => rw [if_neg Bool.false_ne_true]; exact b rfl
theorem if_d {p : Prop} [Decidable p] {A B : Prop} (a : p → A) (b : ¬ p → B) : if decide p = true then A else B := if_2 (fun h => a (of_decide_eq_true h)) fun h => b (of_decide_eq_false h)
theorem if_nd {p : Prop} [Decidable p] {A B : Prop} (a : ¬ p → A) (b : p → B) : if (!decide p) = true then A else B := if_2 (fun h => a (by simpa using h)) fun h => b (by simpa using h)
/-- a contract: what is handed in, what is asked, what is told -/
def mkC {T : Type} (arg : T → List D) (C : T → Mu → (D → Mu → Prop) → WC → Prop) : Ct := fun ds M Q E => ∃ x : T, ds = arg x ∧ C x M Q E
theorem es_drop0 {Y : Cc} {δ : Dl} {M : Mu} {x : Addr × MO} {sts : List Stmt} {D : Fx} (h : Es Y δ M sts D) : Es Y δ (x :: M) sts D := es_drop h (fun y hy => List.mem_cons_of_mem _ hy) fun nd => (List.nodup_cons.mp nd).2
/-- where a def stands -/
structure DfAt (K : PySem.W.Frag) (mg : Str → Option Value) (x : Str) (st : Stmt) (ps : List Str) : Prop where
  ex : ∃ (f : Addr) (fd : FuncData), Fun K x x st f fd ∧ mg x = some (.ref f) ∧ Binds K fd ps []
theorem FnD.of {P : Program} {w : World} {K : PySem.W.Frag} {mg : Str → Option Value} {base : Heap} {k : Nat} {x : Str} {st : Stmt} {N ps : List Str} {T : Type} {arg : T → List D} {C : T → Mu → (D → Mu → Prop) → WC → Prop} (F : DfAt K mg x st ps) (S : FnScope N ps (defScope st))
    (hlen : ∀ x, (arg x).length = ps.length) (hN : ps.length ≤ N.length)
    (body : ∀ (Z : Zp) (t : T) (M : Mu) (Q : D → Mu → Prop) (E : WC), C t M Q E → COk (yOf P w K mg base N x (defScope st) k Z M E) → CPo (yOf P w K mg base N x (defScope st) k Z M E) →
      Es (yOf P w K mg base N x (defScope st) k Z M E) (dOf N (arg t)) M (defBody st) { nx := fun _ M' => ∃ M1, M1.Sublist M' ∧ Q .non M1, rt := fun d M' => ∃ M1, M1.Sublist M' ∧ Q d M1 }) : FnD P w K mg base (k + 1) x (mkC arg C) := by
  obtain ⟨f, fd, F, hm, hb⟩ := F.ex
  refine FnD.mk' F S hm hb (fun ds M Q E ⟨t, e, _⟩ => by rw [e]; exact hlen t) hN fun Z ds M Q E ⟨t, e, h⟩ ok po => ?_
  subst e
  exact body Z t M Q E h ok po
theorem FnO.of {P : Program} {w : World} {K : PySem.W.Frag} {mg : Str → Option Value} {base : Heap} {k : Nat} {x : Str} {st : Stmt} {N ps : List Str} {T : Type} {arg : T → List D} {C : T → Mu → (D → Mu → Prop) → WC → Prop} {f : Addr} {fd : FuncData} (F : Fun K x x st f fd) (S : FnScope N ps (defScope st))
    (hlen : ∀ x, (arg x).length = ps.length) (hN : ps.length ≤ N.length)
    (body : ∀ (Z : Zp) (t : T) (M : Mu) (Q : D → Mu → Prop) (E : WC), C t M Q E → COk (yOf P w K mg base N x (defScope st) k Z M E) → CPo (yOf P w K mg base N x (defScope st) k Z M E) →
      Es (yOf P w K mg base N x (defScope st) k Z M E) (dOf N (arg t)) M (defBody st) { nx := fun _ M' => ∃ M1, M1.Sublist M' ∧ Q .non M1, rt := fun d M' => ∃ M1, M1.Sublist M' ∧ Q d M1 }) : FnOk P w K mg base (L2.CX P w) (k + 1) f fd ps (spD K (mkC arg C)) := by
  refine FnO.mk' F S (fun ds M Q E ⟨t, e, _⟩ => by rw [e]; exact hlen t) hN fun Z ds M Q E ⟨t, e, h⟩ ok po => ?_
  subst e
  exact body Z t M Q E h ok po
end TD

namespace TD
open PySem PySem.Spec PyProof.Rows L2
def itemsD : D → Option (List D)
  | .lst ds => some ds
  | .tup ds => some ds
  | _ => none
def lenD (d : D) : Nat := match itemsD d with
  | some ds => ds.length
  | none => 0
theorem items_at {K : PySem.W.Frag} {F H : Hp} (s : Same F H) {d : D} {ds : List D} {v : V} (h : itemsD d = some ds) (r : Rp K F d v) : ∃ a xs, v = .ref a ∧ (SqL K H a xs ∨ SqT K H a xs) ∧ Rps K F ds xs := by
  cases d <;> simp [itemsD] at h
  · subst h
    obtain ⟨a, xs, rfl, h, rr⟩ := rp_tup.mp r
    exact ⟨a, xs, rfl, .inr (Same.tup s h), rr⟩
  · subst h
    obtain ⟨a, xs, rfl, h, rr⟩ := rp_lst.mp r
    exact ⟨a, xs, rfl, .inl (.of (s _ _ h)), rr⟩
section
variable {Y : Cc} {δ : Dl} {M : Mu} {D : Fx} {sts : List Stmt} {e : Expr} {Q : TD.D → Mu → Prop}
/-- how long a list is at the most -/
theorem sl_len {K : PySem.W.Frag} {X : Cx} {pins : List (Addr × Obj)} {σ : L2.St} {H F : Hp} {s : Shared} {d : TD.D} {ds : List TD.D} {v : V} (I : Inv X pins σ H s) (sub : Same F H) (r : Rp X.K F d v) (hd : d = .lst ds ∨ d = .tup ds) : ds.length ≤ sizeLine := by
  rcases hd with rfl | rfl
  · obtain ⟨a, xs, rfl, h, rr⟩ := rp_lst.mp r
    obtain ⟨_, _, _, hz⟩ := I.list (.of (sub _ _ h))
    rw [rr.len]; exact hz
  · obtain ⟨a, xs, rfl, h, rr⟩ := rp_tup.mp r
    obtain ⟨_, _, _, hz⟩ := I.tuple (Same.tup sub h)
    rw [rr.len]; exact hz
theorem es_learn (i : Nat) {d : TD.D} {ds : List TD.D} (hi : δ[i]? = some (some d)) (hd : d = .lst ds ∨ d = .tup ds) (h : ds.length ≤ sizeLine → Es Y δ M sts D) : Es Y δ M sts D := by
  intro σ H F E a hs o pins s I
  obtain ⟨v, _, r⟩ := hs.sl i _ hi
  exact h (sl_len (K := Y.X.K) I a.ok.sub r hd) σ H F E a hs o pins s I
theorem c_lenQ {x : TD.D} {ds : List TD.D} (h : itemsD x = some ds) (q : Q (.int ds.length) M) : OpC Y (.builtin "len") [x] M Q := OpC.of call_len_seq fun H F vs R hh r o => by
  obtain ⟨v, rfl, rv⟩ := rps1 r
  obtain ⟨a, us, rfl, h1, r1⟩ := items_at hh.sub h rv
  exact ⟨a, us, rfl, h1, by rw [← r1.len]; exact o.here hh (by rw [Rp]) q⟩
theorem x_seq {x d : TD.D} {ds : List TD.D} {i : Int} (h : itemsD x = some ds) (hi : atI ds i = some d) (q : Q d M) : OpX Y x (.int i) M Q := by
  cases x <;> simp [itemsD] at h
  · subst h; exact x_tup hi q
  · subst h; exact x_lst hi q
theorem s_seq {x : TD.D} {ds : List TD.D} {lo hi : Option Int} (h : itemsD x = some ds) (q : ∀ y, itemsD y = some (cutD ds lo hi) → ((∃ a, y = .lst a) ↔ (∃ a, x = .lst a)) → Q y M) : OpS Y x lo hi M Q := by
  cases x <;> simp [itemsD] at h
  · subst h; exact s_tup' (q _ rfl (by simp))
  · subst h; exact s_lst (q _ rfl (by simp))
theorem es_learnQ (i : Nat) {d : TD.D} {ds : List TD.D} (hi : δ[i]? = some (some d)) (hd : itemsD d = some ds) (h : ds.length ≤ sizeLine → Es Y δ M sts D) : Es Y δ M sts D :=
  es_learn i hi (by cases d <;> simp [itemsD] at hd <;> subst hd <;> simp) h
theorem es_learnT (i : Nat) {d : TD.D} (hi : δ[i]? = some (some d)) (h : (∀ ds, itemsD d = some ds → ds.length ≤ sizeLine) → Es Y δ M sts D) : Es Y δ M sts D := by
  cases e : itemsD d with
  | none => exact h fun ds z => by rw [e] at z; cases z
  | some ds => exact es_learnQ i hi e fun l => h fun ds' z => by rw [e] at z; cases z; exact l
theorem ei_seq {it tg : Expr} {Q : List TD.D → Mu → Prop} {x : TD.D} {ds : List TD.D} (hx : itemsD x = some ds) (h : Ev Y δ M it fun d M1 => d = x ∧ Q ds M1) : Ei Y δ M tg it Q := by
  cases x <;> simp [itemsD] at hx
  · subst hx; exact ei_tup (h.mono fun d M1 ⟨e, q⟩ => ⟨_, e, q⟩)
  · subst hx; exact ei_list (h.mono fun d M1 ⟨e, q⟩ => ⟨_, by rw [e]; exact .lst _, q⟩)
theorem zip_seq {x y : TD.D} {ds es : List TD.D} (hx : itemsD x = some ds) (hy : itemsD y = some es) (k : (∃ a, y = .lst a) ↔ (∃ a, x = .lst a)) : ZipOk x y ds es := by
  cases x <;> simp [itemsD] at hx <;> cases y <;> simp [itemsD] at hy <;> simp at k
  · subst hx; subst hy; exact .tup
  · subst hx; subst hy; exact .lst (.lst _) (.lst _)
theorem ev_rev {a : Expr} {k : Nat} {p1 p2 p3 pos : Pos} (h : Ev Y δ M a fun x M1 => (∃ xs : List TD.D, x = .lst xs ∧ Q (.lst xs.reverse) M1) ∨ ∃ (i : Nat) (q : Addr) (xs : List TD.D), x = .ptr q ∧ M1[i]? = some (q, .lst xs) ∧ Q (.lst xs.reverse) M1) : Ev Y δ M (.Subscript a (.Slice none none (some (.UnaryOp .USub (.Constant (.int 1) k p1) p2)) p3) pos) Q := by
  intro σ H F R at0 hs o
  refine tW_of (pe_revL (pe_tW _ _)) (h σ H F _ at0 hs fun v H1 d M1 F1 s1 r1 q1 => ?_)
  rcases q1 with ⟨xs, rfl, q1⟩ | ⟨i, q, xs, rfl, hk, q1⟩
  · obtain ⟨p, us, rfl, h1, r⟩ := rp_lst.mp r1
    refine ⟨p, us, rfl, .of (s1.ok.sub _ _ h1), fun p hp => ?_⟩
    have s2 := Stp.frozen (o := .lst us.reverse) s1.ok hp
    exact o _ _ _ _ _ (s1.trans s2) (rp_lst.mpr ⟨p, _, rfl, upd_same, Rps.mono s2.fr _ _ r.rev⟩) q1
  · obtain ⟨us, rfl, h1, r⟩ := lst_ours s1.ok hk r1
    refine ⟨q, us, rfl, .of h1, fun p hp => ?_⟩
    have s2 := Stp.frozen (o := .lst us.reverse) s1.ok hp
    exact o _ _ _ _ _ (s1.trans s2) (rp_lst.mpr ⟨p, _, rfl, upd_same, Rps.mono s2.fr _ _ r.rev⟩) q1
theorem x_any {xs : List TD.D} {i : Int} (h0 : 0 ≤ i) (h1 : i < xs.length) (q : ∀ d ∈ xs, Q d M) : OpX Y (.lst xs) (.int i) M Q := by
  obtain ⟨n, rfl⟩ : ∃ n : Nat, i = (n : Int) := ⟨i.toNat, by omega⟩
  have hlt : n < xs.length := by omega
  exact x_lst (atI_nat (List.getElem?_eq_getElem hlt)) (q _ (List.getElem_mem hlt))
theorem atI_lastD {α : Type} (xs : List α) (v : α) : atI (xs ++ [v]) (-1) = some v := atI_last xs v
theorem db_of {j : Int} (h0 : 0 ≤ j) (h : j < 2 ^ 250) : j.natAbs < 2 ^ 9000 := by
  have : j.natAbs < 2 ^ 250 := by omega
  exact Nat.lt_of_lt_of_le this (Nat.pow_le_pow_right (by decide) (by decide))
theorem gv_int {K : PySem.W.Frag} {i : Int} {t : Tok} : GV K (.int i) (.int i t) := ⟨.int i, ⟨t, rfl⟩, fun _ => by rw [Rp]⟩
theorem gv_str {K : PySem.W.Frag} {x : Str} {t : Tok} : GV K (.str x) (.str x t) := ⟨.str x, ⟨t, rfl⟩, fun _ => by rw [Rp]⟩
end
theorem enc_pair {α β : Type} [DE α] [DE β] (a : α) (b : β) : DE.enc (a, b) = .tup [DE.enc a, DE.enc b] := rfl
theorem enc_int (i : Int) : DE.enc i = D.int i := rfl
theorem enc_bl (i : Bool) : DE.enc i = D.bl i := rfl
theorem enc_list {α : Type} [DE α] (l : List α) : DE.enc l = .lst (l.map DE.enc) := rfl
/-- the names of what is built in are not bound by the text -/
structure Blt (mg : Str → Option Value) : Prop where
  len : mg "len" = none
  isinstance : mg "isinstance" = none
  sum : mg "sum" = none
  any : mg "any" = none
  all : mg "all" = none
  max : mg "max" = none
  min : mg "min" = none
  sorted : mg "sorted" = none
  abs : mg "abs" = none
  repr : mg "repr" = none
  set : mg "set" = none
  int : mg "int" = none
  bool : mg "bool" = none
  list : mg "list" = none
  tuple : mg "tuple" = none
  str : mg "str" = none
  range : mg "range" = none
  zip : mg "zip" = none
  enumerate : mg "enumerate" = none
  reversed : mg "reversed" = none
  ValueError : mg "ValueError" = none
end TD

namespace TD
open PySem PySem.Spec PyProof.Rows L2
section
variable {Y : Cc} {δ : Dl} {M : Mu} {D : Fx} {st : Stmt} {sts : List Stmt}
theorem E1.mono_nx {n' : Dl → Mu → Prop} (h : E1 Y δ M st { D with nx := n' }) (i : ∀ δ1 M1, n' δ1 M1 → D.nx δ1 M1) : E1 Y δ M st D := fun σ H F E a hs o => h σ H F E a hs ⟨fun σ' δ' F' M' H' a' e' hs' q => o.nx σ' δ' F' M' H' a' e' hs' (i _ _ q), o.rt, o.bk, o.ct⟩
/-- behind a statement all its ways are one -/
theorem es_join (δ' : Dl) (M' : Mu) (h1 : E1 Y δ M st { D with nx := fun δ1 M1 => Kn δ1 δ' ∧ M1 = M' }) (h2 : Es Y δ' M' sts D) : Es Y δ M (st :: sts) D :=
  es_cons (E1.mono_nx (D := { D with nx := fun δ1 M1 => Es Y δ1 M1 sts D }) h1 fun δ1 M1 ⟨k, e⟩ => by subst e; exact Es.know h2 k)
end
def enumN {α : Type} : Nat → List α → List (Nat × α)
  | _, [] => []
  | i, a :: as => (i, a) :: enumN (i + 1) as
theorem enum_enc {α : Type} (f : α → D) : ∀ (as : List α) (i : Nat), enumFrom i (as.map f) = (enumN i as).map fun x => D.tup [.int (x.1 : Nat), f x.2]
  | [], _ => rfl
  | a :: as, i => by rw [List.map_cons, enumFrom, enum_enc f as, enumN, List.map_cons]
theorem enumN_lt {α : Type} : ∀ (as : List α) (i : Nat), ∀ x ∈ enumN i as, i ≤ x.1 ∧ x.1 < i + as.length
  | [], _, x, h => by cases h
  | a :: as, i, x, h => by
    rcases List.mem_cons.mp h with rfl | h
    · simp
    · have := enumN_lt as (i + 1) x h
      simp only [List.length_cons]; omega
theorem cutD_le {α : Type} (xs : List α) (lo hi : Option Int) : (cutD xs lo hi).length ≤ xs.length := by
  unfold cutD; rw [List.length_take, List.length_drop]; omega
end TD

namespace TD
open PySem PySem.Spec PyProof.Rows L2
/-! the head: from what the top has written to the law's promise -/
structure DfK (K : PySem.W.Frag) (x : Str) (st : Stmt) : Prop where
  ex : ∃ (f : Addr) (oc : Value) (od an : Option Addr) (osl : Array (Option Value)) (kV doc pm cdv ct : Value), PySem.W.nsIn K mainGlobals x = some (some (.ref f)) ∧
    K.lookup f = some ⟨oc, od, .func (PySem.W.fnOf x x (defArgs st) (defBody st) (defScope st) .none kV doc pm an cdv ct), osl⟩ ∧ PySem.W.codeIn K cdv x = true ∧ PySem.W.keepIn K (.ref f) = true
theorem df_of {K : PySem.W.Frag} {x : Str} {st : Stmt} {f : Addr} {oc : Value} {od an : Option Addr} {osl : Array (Option Value)} {kV doc pm cdv ct : Value} (a : PySem.W.nsIn K mainGlobals x = some (some (.ref f)))
    (l : K.lookup f = some ⟨oc, od, .func (PySem.W.fnOf x x (defArgs st) (defBody st) (defScope st) .none kV doc pm an cdv ct), osl⟩) (c : PySem.W.codeIn K cdv x = true) (k : PySem.W.keepIn K (.ref f) = true) : DfK K x st := ⟨f, oc, od, an, osl, kV, doc, pm, cdv, ct, a, l, c, k⟩
/-- how a def's arguments are bound -/
def BindN (x : Str) (st : Stmt) (ps : List Str) : Prop := ∀ (kV doc pm : Value) (an : Option Addr) (cdv ct : Value) (us : List Value), us.length = ps.length → bindArgs (PySem.W.fnOf x x (defArgs st) (defBody st) (defScope st) .none kV doc pm an cdv ct) ⟨us, []⟩ = pure (ps.zip us)
theorem DfK.at {K : PySem.W.Frag} {x : Str} {st : Stmt} {mg : Str → Option Value} {h : Heap} {ps : List Str} (D : DfK K x st) (X : K.In h) (G : h.Ns mainGlobals mg) (b : BindN x st ps) : DfAt K mg x st ps := by
  obtain ⟨f, oc, od, an, osl, kV, doc, pm, cdv, ct, a, l, c, k⟩ := D.ex
  have F := fun_mk (st := st) l c k
  exact ⟨f, _, F, PySem.W.mg_of X G a, F.binds b⟩
def lawC : Ct := mkC (fun ns : List Int => [.scr ns]) fun x M Q _ => x.length ≤ 63 ∧ ∀ M', Q (.bl true) M'
theorem law_walk {l : PySem.W.OpenLaw} {q : Program} {loose : List Str} {XP : (Str → Option Value) → Heap → Prop} {YP : World → Heap → Prop} {d : DefRec} {K : Params → PySem.W.Frag} {k : Nat} (hn : l.most = some 63) (hdf : d.params.defaults = []) (hr : Room k callerA)
    (hY : ∀ (w : World) (h : Heap), YP w h → (K w.params).In h)
    (F : ∀ (w : World) (mg : Str → Option Value) (fa : Addr) (h : Heap), (K w.params).In h → h.Ns mainGlobals mg → mg d.name = some (.ref fa) →
      ∃ fd : FuncData, (∀ (s : Shared) (u : Value), BindsTo s fd ⟨[u], []⟩ [("script", u)]) ∧ ∀ base : Heap, (K w.params).In base → base.Ns mainGlobals mg → FnOk l.prog w (K w.params) mg base (L2.CX l.prog w) k fa fd ["script"] (spD (K w.params) lawC)) :
    PySem.W.WalkO q loose XP YP l.row.toRowW d [] (fun f vs => PySem.call f vs) := by
  refine L2.walk_of (n := 63) (k := k) (x := "script") (CX := fun w => L2.CX l.prog w) (sp := fun w => spD (K w.params) lawC) hn (by decide) hdf hr hY F (fun w H a ns hl hO hS => ?_) fun w H s e s' ⟨_, _, _, _, _, _, _, _, _, _, _, _, z⟩ => z
  refine ⟨H, [], [.scr ns], (fun d _ => d = .bl true), (fun _ _ _ => False), ⟨Same.refl _, by simp, by simp⟩, Rps.cons (rp_scr.mpr ⟨a, rfl, hS⟩) Rps.nil, ⟨ns, rfl, hl, fun _ => rfl⟩, fun v d F' M' H' st r e => ?_, fun _ _ _ _ _ _ _ _ z => z⟩
  subst e
  exact rp_bl.mp r
theorem FnOk.law {P : Program} {w : World} {K : PySem.W.Frag} {mg : Str → Option Value} {h : Heap} {st : Stmt} {k : Nat} {fa : Addr} (D : DfK K "law" st) (X : K.In h) (G : h.Ns mainGlobals mg) (hfa : mg "law" = some (.ref fa)) (b : ∀ (kV doc pm : Value) (an : Option Addr) (cdv ct : Value) (s : Shared) (v : Value), bindArgs (PySem.W.fnOf "law" "law" (defArgs st) (defBody st) (defScope st) .none kV doc pm an cdv ct) ⟨[v], []⟩ = pure [(("script" : Str), v)])
    (hF : ∀ (fd : FuncData) (base : Heap), Fun K "law" "law" st fa fd → K.In base → base.Ns mainGlobals mg → FnOk P w K mg base (L2.CX P w) k fa fd ["script"] (spD K lawC)) :
    ∃ fd : FuncData, (∀ (s : Shared) (u : Value), BindsTo s fd ⟨[u], []⟩ [("script", u)]) ∧ ∀ base : Heap, K.In base → base.Ns mainGlobals mg → FnOk P w K mg base (L2.CX P w) k fa fd ["script"] (spD K lawC) := by
  obtain ⟨f, oc, od, an, osl, kV, doc, pm, cdv, ct, a, l, c, kk⟩ := D.ex
  have e := hfa.symm.trans (PySem.W.mg_of X G a)
  cases e
  exact ⟨_, fun s v => .of_eq (b kV doc pm an cdv ct s v), fun base h1 h2 => hF _ base (fun_mk (st := st) l c kk) h1 h2⟩
/-- a name that the text does not bind -/
theorem none_at {K : PySem.W.Frag} {x : Str} {mg : Str → Option Value} {h : Heap} (X : K.In h) (G : h.Ns mainGlobals mg) (a : PySem.W.nsIn K mainGlobals x = some none) : mg x = none := PySem.W.mg_none_of X G a
/-- a name of a constant -/
theorem val_at {K : PySem.W.Frag} {x : Str} {mg : Str → Option Value} {h : Heap} {v : Value} (X : K.In h) (G : h.Ns mainGlobals mg) (a : PySem.W.nsIn K mainGlobals x = some (some v)) : mg x = some v := PySem.W.mg_of X G a
structure BltK (K : PySem.W.Frag) : Prop where
  len : PySem.W.nsIn K mainGlobals "len" = some none
  isinstance : PySem.W.nsIn K mainGlobals "isinstance" = some none
  sum : PySem.W.nsIn K mainGlobals "sum" = some none
  any : PySem.W.nsIn K mainGlobals "any" = some none
  all : PySem.W.nsIn K mainGlobals "all" = some none
  max : PySem.W.nsIn K mainGlobals "max" = some none
  min : PySem.W.nsIn K mainGlobals "min" = some none
  sorted : PySem.W.nsIn K mainGlobals "sorted" = some none
  abs : PySem.W.nsIn K mainGlobals "abs" = some none
  repr : PySem.W.nsIn K mainGlobals "repr" = some none
  set : PySem.W.nsIn K mainGlobals "set" = some none
  int : PySem.W.nsIn K mainGlobals "int" = some none
  bool : PySem.W.nsIn K mainGlobals "bool" = some none
  list : PySem.W.nsIn K mainGlobals "list" = some none
  tuple : PySem.W.nsIn K mainGlobals "tuple" = some none
  str : PySem.W.nsIn K mainGlobals "str" = some none
  range : PySem.W.nsIn K mainGlobals "range" = some none
  zip : PySem.W.nsIn K mainGlobals "zip" = some none
  enumerate : PySem.W.nsIn K mainGlobals "enumerate" = some none
  reversed : PySem.W.nsIn K mainGlobals "reversed" = some none
  ValueError : PySem.W.nsIn K mainGlobals "ValueError" = some none
theorem BltK.at {K : PySem.W.Frag} {mg : Str → Option Value} {h : Heap} (B : BltK K) (X : K.In h) (G : h.Ns mainGlobals mg) : Blt mg :=
  ⟨none_at X G B.len, none_at X G B.isinstance, none_at X G B.sum, none_at X G B.any, none_at X G B.all, none_at X G B.max, none_at X G B.min, none_at X G B.sorted, none_at X G B.abs, none_at X G B.repr, none_at X G B.set, none_at X G B.int, none_at X G B.bool, none_at X G B.list, none_at X G B.tuple, none_at X G B.str, none_at X G B.range, none_at X G B.zip, none_at X G B.enumerate, none_at X G B.reversed, none_at X G B.ValueError⟩
theorem tok_of {K : PySem.W.Frag} {x : Str} {i : Int} {tk : Tok} (h : PySem.W.nsIn K mainGlobals x = some (some (.int i tk))) : ∃ tk, PySem.W.nsIn K mainGlobals x = some (some (.int i tk)) := ⟨tk, h⟩
end TD

/-! len(set(xs)), xs at most sixty-four unlike tuples of whole numbers -/
namespace TD
open PySem PySem.Spec PyProof.Rows L2
section
variable {P : Program} {w : World} {A : Around} {E : Value → Shared → Prop} {s : Shared}
/-- a set of so many -/
def SetN (h : Heap) (a : Addr) (n : Nat) : Prop := ∃ (o : Obj) (es : Array (Int × Value)) (ep : Nat) (t : SetTable), h.get? a = some o ∧ o.ExactSet ∧ o.data = .set es ep t ∧ t.fits es.size = true ∧ es.size = n
theorem SetN.of {a : Addr} {L : List (Addr × List Int)} {es : Array (Int × Value)} {ep : Nat} {t : SetTable} (R : SetTR P w s.heap a L es ep t) : SetN s.heap a L.length := by
  obtain ⟨o, ho, hex, hd⟩ := R.ob
  exact ⟨o, es, ep, t, ho, hex, hd, R.fits, R.size⟩
theorem SetN.keep {h h' : Heap} {a : Addr} {n : Nat} (R : SetN h a n) (k : ∀ o, h.get? a = some o → h'.get? a = some o) : SetN h' a n := by
  obtain ⟨o, es, ep, t, ho, r⟩ := R
  exact ⟨o, es, ep, t, k o ho, r⟩
/-- the sixty-fourth -/
theorem add_last {a : Addr} {L : List (Addr × List Int)} {es : Array (Int × Value)} {ep : Nat} {t : SetTable} (R : SetTR P w s.heap a L es ep t) (h63 : L.length = 63) {x : Addr} {k : List Int} (hx : IsT P w s.heap k x) (hu : A.units < cLine) (hk : k ∉ L.map (·.2)) {Q : Bool → Shared → Prop}
    (hQ : ∀ h', Heap.SameBut a s.heap h' → SetN h' a 64 → Q true { s with heap := h' }) : wpAny (model P w) A (setAddHashed a (.ref x) (thash P w k)) Q E s := by
  obtain ⟨o, ho, hex, hd⟩ := R.ob
  have hsl := R.size
  have hroom := R.room
  have hmask : t.mask = 127 := by
    rcases R.tab.mok with e | e | e
    · omega
    · omega
    · exact e
  unfold setAddHashed
  refine wpAny_holding ?_
  rw [show (100000 : Nat) = 99999 + 1 from rfl, setAddHashedIn_succ]
  refine wpAny_bind (wpAny_setState_of ho hd R.fits ?_)
  dsimp only
  refine wp_if_neg (by simp [byScan, Value.scannable]) ?_
  try refine wpAny_bind (wpAny_pure ?_)
  refine wpAny_bind (search_at R hx hu (fun hm => absurd hm hk) fun K hm hK hb => ?_)
  dsimp only
  refine wpAny_bind (wpAny_setState_of ho hd R.fits ?_)
  dsimp only
  obtain ⟨q1, q2, q3, q4, q5, q6, q7, q8, q9⟩ := R.tab.put hK hb
  have hp1 : (t.put (way t.mask (thash P w k) K)).1.plain = true := by rw [q6]; exact R.plain
  generalize hpt : t.put (way t.mask (thash P w k) K) = pt at q1 q3 q4 q5 q6 q7 q8 q9 hp1 ⊢
  obtain ⟨t1, p⟩ := pt
  dsimp only at q1 q3 q4 q5 q6 q7 q8 q9 hp1 ⊢
  subst q1
  first
    | (refine wpAny_bind ?_; refine wp_if_pos hp1 ?_; refine hashBy_tup hx ?_)
    | refine wp_if_pos hp1 (wpAny_bind (hashBy_tup hx ?_))
  simp only [if_true]
  have hin : (SetTable.insertAt es (SetTable.below t.place (way t.mask (thash P w k) K)) (thash P w k, Value.ref x)).toList = rowsOf P w (L.take (SetTable.below t.place (way t.mask (thash P w k) K)) ++ (x, k) :: L.drop (SetTable.below t.place (way t.mask (thash P w k) K))) := by
    rw [SetTable.toList_insertAt, rows_put, R.rows]
  generalize hpp : SetTable.below t.place (way t.mask (thash P w k) K) = p at q2 q3 hin ⊢
  have hes : (SetTable.insertAt es p (thash P w k, Value.ref x)).size = 64 := by
    have h := congrArg List.length hin
    unfold rowsOf at h
    rw [Array.length_toList, List.length_map, (put_perm L p (x, k)).length_eq, List.length_cons, h63] at h
    exact h
  have q3s := q3.sz
  have hpl : p ≤ 63 := by rw [List.length_map, h63] at q2; exact q2
  rw [List.length_append, List.length_cons, List.length_take, List.length_drop, List.length_map, h63] at q3s
  have hsz : t1.place.size = 64 := by omega
  have hdm := q3.dm
  generalize SetTable.insertAt es p (thash P w k, Value.ref x) = es1 at hes ⊢
  refine wpAny_bind (wpAny_storeSet_of ho hd ?_ (by rw [hes, sizeLine_eq]; omega))
  have sb : Heap.SameBut a s.heap (s.heap.update a (Obj.putSet es1 t1)) := Heap.SameBut.update ..
  have ho1 := store_at (es' := es1) (t' := t1) ho hd
  generalize s.heap.update a (Obj.putSet es1 t1) = h1 at sb ho1 ⊢
  have hf : ¬ t1.tooFull = true := by
    unfold SetTable.tooFull
    rw [decide_eq_true_eq, q9, q4, List.length_map, h63, hmask]
    decide
  first
    | refine wp_if_neg (by simp [hf]) ?_
    | (refine wpAny_bind ?_; refine wp_if_neg (by simp [hf]) ?_; refine wpAny_pure ?_)
  refine wpAny_pure (hQ h1 sb ⟨_, es1, ep + 1, t1, ho1, ⟨hex.1, hex.2.1, hex.2.2⟩, rfl, ?_, hes⟩)
  unfold SetTable.fits SetTable.fill
  rw [hdm, Bool.and_eq_true, beq_iff_eq, decide_eq_true_eq]
  show t1.place.size = es1.size ∧ t1.place.size + 0 ≤ t1.mask
  rw [hsz, hes, q4, hmask]
  decide
/-- set.update's loop, over unlike tuples -/
theorem set_loop {I : Addr} {fp wr : List Addr} {G : Array GenState → Array GenState → Prop} {n : Nat} {Pv : Nat → Value → Prop} {St : Nat → Shared → Prop} {R : Result → Shared → Prop}
    (W : WalksS P w A.in1 I fp wr G n Pv St) (S : Addr) (hSf : S ∉ fp) (ks : List (Addr × List Int)) (hn : n = ks.length) (h64 : ks.length ≤ 64) (nd : (ks.map (·.2)).Nodup) (hval : ∀ i v, Pv i v → ∃ p, ks[i]? = some p ∧ v = .ref p.1)
    (h0 : Heap) (hk : ∀ p ∈ ks, IsT P w h0 p.2 p.1) (hS0 : h0.get? S = none) (hw0 : ∀ b ∈ wr, h0.get? b = none) (hu : A.in1.units < cLine) :
    ∀ (k i : Nat) (s : Shared), n - i = k → i ≤ n → St i s → (∀ b o, h0.get? b = some o → s.heap.get? b = some o) → (i < 64 → ∃ L es ep t, SetTR P w s.heap S L es ep t ∧ Got ks i L ∧ L.length = i) → (i = 64 → SetN s.heap S 64) →
      (∀ s', Moved (S :: wr) G s s' → SetN s'.heap S n → (∀ b o, h0.get? b = some o → s'.heap.get? b = some o) → R (.ok (.ret .none)) s') →
      codeAny (model P w) A (.builtin "set.update.loop" ⟨[.ref S, .ref I], []⟩) R s := by
  have hSw : S ∉ wr := fun h => hSf (W.sub _ h)
  have hsub : ∀ b ∈ wr, b ∈ S :: wr := fun b hb => List.mem_cons_of_mem _ hb
  have keepM : ∀ {s s' : Shared}, Moved wr G s s' → (∀ b o, h0.get? b = some o → s.heap.get? b = some o) → ∀ b o, h0.get? b = some o → s'.heap.get? b = some o := fun hm hkp b o e =>
    hm.heap b o (fun hb => by rw [hw0 b hb] at e; cases e) (hkp b o e)
  intro k
  induction k with
  | zero =>
    intro i s hk' hi hst hkp hlt hlast hR
    have hin : i = n := by clear hlt hlast hR; omega
    subst hin
    have hN : SetN s.heap S i := by
      rcases Nat.lt_or_ge i 64 with z | z
      · obtain ⟨L, es, ep, t, hS, g, e⟩ := hlt z
        rw [← e]
        exact SetN.of hS
      · have e : i = 64 := Nat.le_antisymm (Nat.le_trans (Nat.le_of_eq hn) h64) z
        rw [e]; exact hlast e
    refine codeAny_builtin F.entry_set_update_loop ?_
    rw [Around.under_plainId F.plain_set_update_loop _]
    show wpAny _ A.in1 (pyNext (.ref I) >>= _) _ _ s
    refine wpAny_bind (W.done s _ _ hst fun s' hm => ?_)
    show wpAny _ A.in1 (ret Value.none) _ _ s'
    exact wpAny_pure (hR s' (hm.mono hsub) (hN.keep fun o e => hm.heap S o hSw e) (keepM hm hkp))
  | succ k ih =>
    intro i s hk' hi hst hkp hlt hlast hR
    have hin : i < n := by clear hlt hlast hR; omega
    have hi64 : i < 64 := Nat.lt_of_lt_of_le hin (Nat.le_trans (Nat.le_of_eq hn) h64)
    obtain ⟨L, es, ep, t, hS, g, hL⟩ := hlt hi64
    clear hlt hlast
    refine codeAny_builtin F.entry_set_update_loop ?_
    rw [Around.under_plainId F.plain_set_update_loop _]
    show wpAny _ A.in1 (pyNext (.ref I) >>= _) _ _ s
    refine wpAny_bind (W.item i s _ _ hin hst fun v s' hP hst' hm => ?_)
    obtain ⟨p, hp, rfl⟩ := hval i v hP
    have hkp' := keepM hm hkp
    have sub : ∀ p ∈ L, p ∈ ks := fun p hp => List.mem_of_mem_take (g.sub p hp)
    have hS' : SetTR P w s'.heap S L es ep t := hS.keep (fun o e => hm.heap S o hSw e) fun q hq => isT_keep (hk q (sub q hq)) hkp'
    have hx : IsT P w s'.heap p.2 p.1 := isT_keep (hk p (List.mem_of_getElem? hp)) hkp'
    have hnew : p.2 ∉ L.map (·.2) := fun hm2 => by
      obtain ⟨q, hq, e⟩ := List.mem_map.mp hm2
      obtain ⟨j, hj, e2⟩ := List.getElem_of_mem (g.sub q hq)
      rw [List.length_take] at hj
      rw [List.getElem_take] at e2
      have hi2 : i < ks.length := (List.getElem?_eq_some_iff.mp hp).1
      have hp2 : ks[i] = p := (List.getElem?_eq_some_iff.mp hp).2
      refine absurd ?_ (List.pairwise_iff_getElem.mp nd j i (by rw [List.length_map]; omega) (by rw [List.length_map]; omega) (by omega))
      rw [List.getElem_map, List.getElem_map, e2, hp2, e]
    show wpAny _ A.in1 (holding [Value.ref p.1] (setAdd S (.ref p.1)) >>= _) _ _ s'
    refine wpAny_bind (wpAny_holding ?_)
    unfold setAdd
    refine wpAny_holding ?_
    refine wpAny_bind (wpAny_pyHash_tuple hu hx ?_)
    have fr : ∀ h' : Heap, Heap.SameBut S s'.heap h' → St (i + 1) { s' with heap := h', toks := s'.toks + (p.2.length + 1) } := fun h' hsb => W.frame _ s' _ _ hst' (Nat.le_add_right _ _) fun b hb o e => by
      rw [hsb.2 b (fun h : b = S => hSf (by rw [← h]; exact hb))]; exact e
    have kp : ∀ h' : Heap, Heap.SameBut S s'.heap h' → ∀ b o, h0.get? b = some o → h'.get? b = some o := fun h' hsb b o e => (hsb.2 b (fun z => by rw [z, hS0] at e; cases e)).trans (hkp' b o e)
    have mv : ∀ (h' : Heap) s'', Heap.SameBut S s'.heap h' → Moved (S :: wr) G { s' with heap := h', toks := s'.toks + (p.2.length + 1) } s'' → Moved (S :: wr) G s s'' := fun h' s'' hsb hm'' => Moved.trans W.gtrans ((hm.mono hsub).then_heap (Nat.le_add_right _ _) fun b o hb e => by
      rw [hsb.2 b (fun h : b = S => hb (by rw [h]; exact List.mem_cons_self))]; exact e) hm''
    by_cases hz : i + 1 < 64
    · refine add_at (s := { s' with toks := s'.toks + (p.2.length + 1) }) hS' hx hu (by rw [hL]; exact hz) fun b h' L' es' ep' t' hsb hS2 c1 c2 => ?_
      have pm := c2 hnew
      refine wpAny_pure ⟨plainId_quiet F.plain_set_update_loop _, ih (i + 1) _ (by omega) hin (fr h' hsb) (kp h' hsb) (fun _ => ⟨L', es', ep', t', hS2, g.more hp pm, by rw [pm.length_eq, List.length_cons, hL]⟩) (fun e => absurd hz (by omega)) fun s'' hm'' hS'' hkp'' => ?_⟩
      exact hR s'' (mv h' s'' hsb hm'') hS'' hkp''
    · refine add_last (s := { s' with toks := s'.toks + (p.2.length + 1) }) hS' (by omega) hx hu hnew fun h' hsb hS2 => ?_
      refine wpAny_pure ⟨plainId_quiet F.plain_set_update_loop _, ih (i + 1) _ (by omega) hin (fr h' hsb) (kp h' hsb) (fun e => absurd e hz) (fun _ => hS2) fun s'' hm'' hS'' hkp'' => ?_⟩
      exact hR s'' (mv h' s'' hsb hm'') hS'' hkp''
/-- set(xs) -/
theorem call_setN {l : Addr} {items : Array Value} (ks : List (Addr × List Int)) {Q : Value → Shared → Prop} (hh : A.handled = none) (hl : s.heap.IsList l items) (hit : items.toList = ks.map fun p => Value.ref p.1)
    (hk : ∀ p ∈ ks, IsT P w s.heap p.2 p.1) (h64 : ks.length ≤ 64) (nd : (ks.map (·.2)).Nodup) (hu : A.units + 3 < cLine)
    (h : ∀ (h' : Heap) (tk : Nat), SetN h' s.heap.objs.size ks.length → (∀ b o, s.heap.get? b = some o → h'.get? b = some o) → Q (.ref s.heap.objs.size) { s with heap := h', toks := tk }) :
    wpAny (model P w) A (call (.type "set") [.ref l]) Q E s := by
  have hisz : items.size = ks.length := by
    have q := congrArg List.length hit
    rw [Array.length_toList, List.length_map] at q
    exact q
  obtain ⟨c, tl, hmro⟩ := F.called_set.mro
  have hmade := F.called_set.made
  have hsub := F.called_set.sub
  refine wpAny_call (codeAny_of_tree ?_)
  show wpAny _ _ (callAny (.type "set") _) _ _ _
  refine wpAny_pure ⟨Code.quiet_builtin _ (by decide +kernel), codeAny_builtin F.entry_type_call ?_⟩
  rw [Around.under_plain (weight_type_call_type "set" [.ref l] []) rfl]
  have h1 := F.called_set.notType
  have h2 := F.called_set.canCreate
  have hct := F.typeCall_set_1 (.ref l)
  repeat (any_goals (first | assumption | wp_step))
  refine codeAny_mono (code_set_led1 (.ref l) (E := E) (Q₁ := fun obj s₁ => obj = .ref s.heap.objs.size ∧ s₁ = { s with heap := s.heap.push { cls := .type "set", dict := none, data := .set #[] 0 (.fresh 0 0 (!w.params.followText "set-order")) } }) ⟨rfl, rfl⟩) fun r s₁ hr => ?_
  cases r with
  | error e => exact hr
  | ok fl =>
    cases fl with
    | ret obj =>
      obtain ⟨rfl, rfl⟩ := hr
      have hS : (s.heap.push { cls := .type "set", dict := none, data := .set #[] 0 (.fresh 0 0 (!w.params.followText "set-order")) }).get? s.heap.objs.size = some { cls := .type "set", dict := none, data := .set #[] 0 (.fresh 0 0 (!w.params.followText "set-order")) } := Heap.get?_push_size _ rfl
      have hT : Shared.TypeIs { s with heap := s.heap.push { cls := .type "set", dict := none, data := .set #[] 0 (.fresh 0 0 (!w.params.followText "set-order")) } } (.ref s.heap.objs.size) "set" := ⟨_, hS, rfl⟩
      have hli := F.called_set.init.lookup
      have hbi := F.called_set.init.bind (.ref s.heap.objs.size)
      repeat (any_goals (first | assumption | wp_step))
      refine codeAny_mono (codeAny_call_builtin (R := wants (fun r s₂ => r = .none ∧ ∃ h' tk, s₂ = { s with heap := h', toks := tk } ∧ SetN h' s.heap.objs.size ks.length ∧ (∀ b o, s.heap.get? b = some o → h'.get? b = some o)) E)
        F.called_set.init.plain F.entry_set_init (check_set_init_1 hT ?_)) fun r₂ s₂ hr₂ => ?_
      · obtain ⟨ol, hol, hcl, nl, hdl⟩ := hl
        obtain ⟨ocls, odict, odata, oslots⟩ := ol
        simp only at hcl hdl
        subst hcl; subst hdl
        have hol' : (s.heap.push { cls := .type "set", dict := none, data := .set #[] 0 (.fresh 0 0 (!w.params.followText "set-order")) }).get? l = some { cls := .type "list", dict := odict, data := .seq items nl, slots := oslots } := Heap.get?_push_of_some _ hol
        have hsls := F.sub_list_set
        have hslf := F.sub_list_frozenset
        have hne : (Value.type "list" == Value.type "dict") = false := by decide
        have hl1 : (s.heap.push { cls := .type "set", dict := none, data := .set #[] 0 (.fresh 0 0 (!w.params.followText "set-order")) }).IsList l items := ⟨_, hol', rfl, nl, rfl⟩
        unfold Builtin.«set.__init__» noKeywords Builtin.Frozenset.updateFrom
        generalize hPI : pyIter = PI
        wp_walk
        subst hPI
        refine wpAny_pyIter_list (s := { s with heap := s.heap.push { cls := .type "set", dict := none, data := .set #[] 0 (.fresh 0 0 (!w.params.followText "set-order")) } }) hl1 ?_
        refine wpAny_bind (wpAny_runValue ?_)
        have hlS : l < s.heap.objs.size := Heap.lt_size hol
        have hh3 : A.in1.in1.in1.handled = none := by simp [hh]
        have hneI : l ≠ (s.heap.push { cls := .type "set", dict := none, data := .set #[] 0 (.fresh 0 0 (!w.params.followText "set-order")) }).objs.size := by
          rw [Heap.size_push]; exact Nat.ne_of_lt (Nat.lt_succ_of_lt hlS)
        have hSf : s.heap.objs.size ∉ [(s.heap.push { cls := .type "set", dict := none, data := .set #[] 0 (.fresh 0 0 (!w.params.followText "set-order")) }).objs.size, l] := by
          rw [Heap.size_push]; simp only [List.mem_cons, List.mem_singleton, List.not_mem_nil, or_false, not_or]
          exact ⟨Nat.ne_of_lt (Nat.lt_succ_self _), Nat.ne_of_gt hlS⟩
        have hval : ∀ (i : Nat) (v : Value), items[i]? = some v → ∃ p, ks[i]? = some p ∧ v = .ref p.1 := fun i v hv => by
          have q : items.toList[i]? = some v := by rw [Array.getElem?_toList]; exact hv
          rw [hit, List.getElem?_map] at q
          cases hq : ks[i]? with
          | none => rw [hq] at q; cases q
          | some p =>
            rw [hq] at q
            exact ⟨p, rfl, (Option.some.inj q).symm⟩
        have none_of : ∀ b, s.heap.objs.size ≤ b → s.heap.get? b = none := fun b hb => by
          cases q : s.heap.get? b with
          | none => rfl
          | some o => exact absurd (Nat.lt_of_lt_of_le (Heap.lt_size q) hb) (Nat.lt_irrefl _)
        refine set_loop ((Walks.list hh3 _ l hneI items).toS) s.heap.objs.size hSf ks hisz h64 nd hval s.heap hk (none_of _ (Nat.le_refl _)) (fun b hb => none_of b (by
            rw [List.mem_singleton.mp hb, Heap.size_push]
            exact Nat.le_succ _)) hu (items.size - 0) 0 _ (by omega) (Nat.zero_le _)
          ⟨⟨_, Heap.get?_push_size _ rfl, rfl, rfl⟩, (hl1.push _)⟩ (fun b o e => Heap.get?_push_of_some _ (Heap.get?_push_of_some _ e)) (fun _ => ?hS0) (fun e => by cases e) ?hR
        case hS0 =>
          have hget : ((s.heap.push { cls := .type "set", dict := none, data := .set #[] 0 (.fresh 0 0 (!w.params.followText "set-order")) }).push { cls := .type "list_iterator", data := .fields #[.ref l, .int 0 0] }).get? s.heap.objs.size = some { cls := .type "set", dict := none, data := .set #[] 0 (.fresh 0 0 (!w.params.followText "set-order")) } := Heap.get?_push_of_some _ hS
          exact ⟨[], #[], 0, _, setTR_fresh hget, Got.zero ks, rfl⟩
        case hR =>
          intro s' hm hS' hkp
          obtain ⟨h', g2, d', tk', os'⟩ := s'
          have eg : g2 = s.gens := hm.gens
          have ed : d' = s.drawn := hm.drawn
          have eo : os' = s.os := hm.os
          subst eg; subst ed; subst eo
          show wpAny _ _ _ _ _ _
          refine wpAny_pure ?_
          show wpAny _ _ (ret Value.none) _ _ _
          rw [hisz] at hS'
          exact wpAny_pure ⟨rfl, h', tk', rfl, hS', hkp⟩
      · cases r₂ with
        | error e => exact hr₂
        | ok fl₂ =>
          cases fl₂ with
          | ret r =>
            obtain ⟨rfl, h', tk, rfl, hS', hk'⟩ := hr₂
            repeat (any_goals (first | assumption | wp_step))
            exact h _ _ hS' hk'
          | _ => exact hr₂.elim
    | _ => exact hr.elim
end
section
variable {X : Cx}
def tLenSetN (K : PySem.W.Frag) (ta : TE) : TE := fun σ H Q => ta σ H fun x H1 => ∃ (l : Addr) (ks : List (Addr × List Int)), x = V.ref l ∧ SqL K H1 l (ks.map fun p => V.ref p.1) ∧ (∀ p ∈ ks, SqT K H1 p.1 (p.2.map V.int)) ∧ ks.length ≤ 64 ∧ (ks.map (·.2)).Nodup ∧ Q (.int ks.length) H1
theorem pe_lenSetN {a : Expr} {ta : TE} {p p2 q pos : Pos} (hc : X.calm = true) (hu : X.A.units + 64 < cLine) (hg : Gl X "len") (hm : X.mg "len" = none) (hg2 : Gl X "set") (hm2 : X.mg "set" = none) (ha : PE X a ta)
    (na : starEach [a] X.env = (false, eval a X.env) :: starEach [] X.env := by rfl) : PE X (.Call (.Name "len" p) [.Call (.Name "set" p2) [a] [] q] [] pos) (tLenSetN X.K ta) := by
  refine ⟨fun pins s σ H Q I h => ?_⟩
  refine Call_ (ld_blt I hg hm PySem.boot_len ?_)
  refine PyProof.Rows.callWith_builtin1 (PyProof.Rows.args_cons ?_ rfl) rfl rfl
  refine Call_ (ld_blt I hg2 hm2 PyProof.Rows.boot_set ?_)
  refine PyProof.Rows.callWith_type1 (PyProof.Rows.args_cons (thn (ha.run pins s σ H _ I h) fun v s1 ⟨x, H1, I1, r1, q1⟩ => PyProof.Rows.args_nil ?_) na) na rfl
  obtain ⟨l, ks, rfl, hq, hk, h64, hnd, q1⟩ := q1
  cases r1
  obtain ⟨its, r, pl, hz⟩ := I1.list hq
  refine call_setN (P := X.prog) (w := X.w) ks (I1.ok.hd hc) pl.isList (by simpa using refs_of_vals r) (fun p hp => I1.isT (hk p hp)) h64 hnd (by omega) fun h' tk hS k => ?_
  refine PyProof.Rows.args_nil ?_
  obtain ⟨o, es, ep, t, ho, hex, hd, hf, hn⟩ := hS
  have I2 : Inv X pins σ H1 { s1 with heap := h', toks := tk } := I1.kept fun b o e => k b o e
  exact call_len_set ho hex hd hf (by rw [hn] <;> omega) ⟨.int ks.length, H1, I2.tok _, ⟨_, by rw [hn]⟩, q1⟩
end
theorem pairs_at {K : PySem.W.Frag} {F H : Hp} (s : Same F H) : ∀ {ps : List (Int × Int)} {us : List V}, Rps K F (ps.map DE.enc) us → ∃ ks : List (Addr × List Int), us = ks.map (fun p => V.ref p.1) ∧ ks.map (·.2) = ps.map (fun p => [p.1, p.2]) ∧ ∀ p ∈ ks, SqT K H p.1 (p.2.map V.int)
  | [], us, r => ⟨[], by rw [rps_nil.mp r]; rfl, rfl, fun p h => by cases h⟩
  | p :: ps, us, r => by
    obtain ⟨w, r', rfl, r2, r3⟩ := rps_cons.mp r
    obtain ⟨ks, rfl, e2, e3⟩ := pairs_at s r3
    obtain ⟨a, vs, rfl, h1, r4⟩ := rp_tup.mp r2
    obtain ⟨v1, v2, rfl, r5, r6⟩ := rps2 r4
    rw [rp_int.mp r5, rp_int.mp r6] at h1
    refine ⟨(a, [p.1, p.2]) :: ks, rfl, by rw [List.map_cons, List.map_cons, e2], fun q hq => ?_⟩
    rcases List.mem_cons.mp hq with rfl | hq
    · exact Same.tup s h1
    · exact e3 q hq
section
variable {Y : Cc} {δ : Dl} {M : Mu} {Q : D → Mu → Prop}
theorem ev_lenSet [C : COk Y] {e : Expr} {p p2 q pos : Pos} (hm : Y.X.mg "len" = none) (hm2 : Y.X.mg "set" = none) (h : Ev Y δ M e fun d M1 => ∃ ps : List (Int × Int), d = DE.enc ps ∧ ps.length ≤ 64 ∧ ps.Nodup ∧ Q (.int ps.length) M1)
    (hg : Gl Y.X "len" := by rfl) (hg2 : Gl Y.X "set" := by rfl) (na : starEach [e] Y.X.env = (false, eval e Y.X.env) :: starEach [] Y.X.env := by rfl) : Ev Y δ M (.Call (.Name "len" p) [.Call (.Name "set" p2) [e] [] q] [] pos) Q := by
  intro σ H F R at0 hs o
  refine tW_of (pe_lenSetN C.calm C.rm.units hg hm hg2 hm2 (pe_tW _ _) na) (h σ H F _ at0 hs fun v H1 d M1 F1 s1 r1 q1 => ?_)
  obtain ⟨ps, rfl, hl, hn, q1⟩ := q1
  obtain ⟨a, us, rfl, h1, r⟩ := rp_lst.mp r1
  obtain ⟨ks, rfl, e2, e3⟩ := pairs_at s1.ok.sub r
  have hlen : ks.length = ps.length := by have := congrArg List.length e2; simpa using this
  refine ⟨a, ks, rfl, .of (s1.ok.sub _ _ h1), e3, by omega, ?_, ?_⟩
  · rw [e2]
    refine List.Pairwise.map _ (fun x y hne e => hne ?_) hn
    simp at e
    exact Prod.ext e.1 e.2
  · rw [hlen]
    exact o _ _ _ _ _ s1 (by rw [Rp]) q1
end
end TD

namespace TD
open PySem L2
/-! what a row is, of any data -/
def wholeD : D → Int → Bool
  | .int i, l => decide (l ≤ i)
  | _, _ => false
def w2 : D → D → Bool
  | .int i, b => wholeD b i
  | _, _ => false
def stretchL : List D → Bool
  | [a, b] => wholeD a 1 && w2 a b
  | _ => false
def stretchD (d : D) : Bool := match itemsD d with
  | some ds => stretchL ds
  | none => false
def stV (d : D) : Int × Int := match itemsD d with
  | some [.int a, .int b] => (a, b)
  | _ => (0, 0)
def apartD (a b : D) : Bool := decide ((stV a).2 + 2 ≤ (stV b).1)
def rowL (ds : List D) : Bool := ds.all stretchD && (ds.zip (ds.drop 1)).all fun p => apartD p.1 p.2
def rowD (d : D) : Bool := match itemsD d with
  | some ds => rowL ds
  | none => false
theorem sIx_1 (n k : Nat) : HT.sIx n 0 (some (k : Int)) = min k n := HT.sIx_nat n 0 k
theorem cut_from {α : Type} (xs : List α) (k : Nat) : cutD xs (some (k : Int)) none = xs.drop k := by
  unfold cutD
  rw [sIx_1, HT.sIx_none]
  by_cases h : k ≤ xs.length
  · rw [Nat.min_eq_left h, List.take_of_length_le (by simp)]
  · rw [Nat.min_eq_right (by omega), List.drop_length, List.drop_eq_nil_of_le (by omega)]; simp
mutual
/-- data through and through -/
def deepD : D → Bool
  | .tup ds => deepL ds
  | .lst ds => deepL ds
  | .ty _ => false
  | .ptr _ => false
  | .scr _ => false
  | _ => true
def deepL : List D → Bool
  | [] => true
  | d :: ds => deepD d && deepL ds
end
theorem deepD.plain : ∀ {d : D}, deepD d = true → d.plain = true
  | .non, _ => rfl
  | .bl _, _ => rfl
  | .int _, _ => rfl
  | .str _, _ => rfl
  | .tup _, _ => rfl
  | .lst _, _ => rfl
theorem deepL.mem : ∀ {ds : List D}, deepL ds = true → ∀ d ∈ ds, deepD d = true
  | e :: ds, h, d, hd => by
    rw [deepL, Bool.and_eq_true] at h
    rcases List.mem_cons.mp hd with rfl | hd
    · exact h.1
    · exact deepL.mem h.2 d hd
theorem seq_of {d : D} (hp : deepD d = true) (h : (["list", "tuple"].any (isT d)) = true) : ∃ ds, (d = .lst ds ∨ d = .tup ds) ∧ deepL ds = true ∧ itemsD d = some ds ∧ lenD d = ds.length := by
  have hq := deepD.plain hp
  simp only [List.any_cons, List.any_nil, isT_list hq, isT_tuple hq, Bool.or_false] at h
  cases d <;> simp [is_list, is_tuple] at h
  · exact ⟨_, .inr rfl, by simpa [deepD] using hp, rfl, rfl⟩
  · exact ⟨_, .inl rfl, by simpa [deepD] using hp, rfl, rfl⟩
  · simp [deepD] at hp
theorem noseq_of {d : D} (hp : deepD d = true) (h : (["list", "tuple"].any (isT d)) = false) : itemsD d = none := by
  have hq := deepD.plain hp
  simp only [List.any_cons, List.any_nil, isT_list hq, isT_tuple hq, Bool.or_false] at h
  cases d <;> simp [is_list, is_tuple] at h <;> rfl
theorem stretchL_len {ds : List D} (h : stretchL ds = true) : ∃ i j, ds = [.int i, .int j] ∧ 1 ≤ i ∧ i ≤ j := by
  unfold stretchL at h
  split at h
  · rename_i a b
    cases a <;> simp [wholeD, w2] at h
    rename_i i
    obtain ⟨h1, h2⟩ := h
    cases b <;> simp [wholeD] at h2
    exact ⟨_, _, rfl, h1, h2⟩
  · cases h
theorem stretchD_of {d : D} (h : stretchD d = true) : ∃ i j, (d = .lst [.int i, .int j] ∨ d = .tup [.int i, .int j]) ∧ 1 ≤ i ∧ i ≤ j ∧ stV d = (i, j) := by
  unfold stretchD at h
  split at h
  · rename_i ds e
    obtain ⟨i, j, rfl, h1, h2⟩ := stretchL_len h
    refine ⟨i, j, ?_, h1, h2, by unfold stV; rw [e]⟩
    cases d <;> simp [itemsD] at e
    · exact .inr (by rw [e])
    · exact .inl (by rw [e])
  · cases h
theorem wholeD_int {d : D} {i : Int} (h : wholeD d i = true) : ∃ n, d = .int n ∧ i ≤ n := by
  cases d <;> simp [wholeD] at h
  exact ⟨_, rfl, h⟩
abbrev Row := List (Int × Int)
instance : Inhabited (D × D) := ⟨(.non, .non)⟩
abbrev Blk := List (Bool × Int)
/-- one stretch more, as blocks -/
def blkF (s : Blk × Int) (p : Int × Int) : Blk × Int := ((if s.2 + 1 < p.1 then s.1 ++ [(false, p.1 - s.2 - 1)] else s.1) ++ [(true, p.2 - p.1 + 1)], p.2)
def blocks (row : Row) (n : Int) : Blk :=
  let s := row.foldl blkF ([], 0)
  if s.2 < n then s.1 ++ [(false, n - s.2)] else s.1
def lastIs (r : Row) (e : Int) : Bool := match r.getLast? with
  | some q => decide (q.2 = e)
  | none => false
def lastOf (r : Row) : Int × Int := r.getLast?.getD (0, 0)
/-- blocks as a row -/
def rowF (s : Row × Int) (p : Bool × Int) : Row × Int :=
  ((if (p.1 && lastIs s.1 s.2) = true then s.1.dropLast ++ [((lastOf s.1).1, s.2 + p.2)] else if p.1 = true then s.1 ++ [(s.2 + 1, s.2 + p.2)] else s.1), s.2 + p.2)
def rowOf (b : Blk) : Row := (b.foldl rowF ([], 0)).1
def climb (r : Int × Int) (b : Bool) (m : Int) : Int × Int := if b = true then (r.1 + 2 * m * r.2, r.2) else (r.1, r.2 + 2 * m * r.1)
def climbs (b : Blk) (r : Int × Int) : Int × Int := b.foldl (fun r p => climb r p.1 p.2) r
theorem rowF_len (s : Row × Int) (a : Bool × Int) : (rowF s a).1.length ≤ s.1.length + 1 := by
  unfold rowF; dsimp only
  split
  · simp
  · split
    · simp
    · omega
theorem row_len : ∀ (r : Blk) (s : Row × Int), (r.foldl rowF s).1.length ≤ s.1.length + r.length
  | [], s => by simp
  | a :: r, s => by
    have := row_len r (rowF s a)
    have h2 := rowF_len s a
    simp only [List.foldl_cons, List.length_cons]; omega
/-- no product on the way is too great -/
def ClOk : Blk → Int × Int → Prop
  | [], _ => True
  | (b, m) :: r, s => (b = true → IntMulOk (2 * m) s.2) ∧ (b = false → IntMulOk (2 * m) s.1) ∧ ClOk r (climb s b m)
def lastP (row : Row) : Int := match row.getLast? with
  | some p => p.2
  | none => 0
/-- a row of stretches -/
def RowOk : Int → Row → Prop
  | _, [] => True
  | p, (f, l) :: r => p + 2 ≤ f ∧ f ≤ l ∧ RowOk l r
abbrev IsRow (r : Row) : Prop := RowOk (-1) r
/-! rows as data -/
theorem deep_row (r : Row) : deepD (DE.enc r) = true := by
  rw [enc_list, deepD]
  induction r with
  | nil => rfl
  | cons p r ih =>
    rw [List.map_cons, deepL, ih, enc_pair, enc_int, enc_int]
    simp [deepD, deepL]
theorem stV_enc (p : Int × Int) : stV (DE.enc p) = p := rfl
theorem rowOk_le : ∀ (r : Row) (a b : Int), a ≤ b → RowOk b r → RowOk a r
  | [], _, _, _, _ => trivial
  | (f, l) :: r, a, b, h, ⟨h1, h2, h3⟩ => ⟨by omega, h2, h3⟩
theorem row_ok : ∀ {r : Row}, IsRow r → rowD (DE.enc r) = true := by
  intro r h
  show rowL (r.map DE.enc) = true
  unfold rowL
  have h1 : ∀ (r : Row) (p : Int), -1 ≤ p → RowOk p r → (r.map (DE.enc : Int × Int → D)).all stretchD = true ∧ ((r.map (DE.enc : Int × Int → D)).zip ((r.map DE.enc).drop 1)).all (fun p => apartD p.1 p.2) = true := by
    intro r
    induction r with
    | nil => intro p _ _; simp
    | cons a r ih =>
      intro p hp h
      obtain ⟨f, l⟩ := a
      obtain ⟨h1, h2, h3⟩ := h
      obtain ⟨i1, i2⟩ := ih l (by omega) h3
      constructor
      · rw [List.map_cons, List.all_cons, i1]
        have : stretchD (DE.enc (f, l)) = true := by
          show (decide (1 ≤ f) && decide (f ≤ l)) = true
          simp; omega
        rw [this]; rfl
      · cases r with
        | nil => simp
        | cons b r =>
          simp only [List.map_cons, List.drop_one, List.tail_cons, List.zip_cons_cons, List.all_cons] at i2 ⊢
          rw [i2]
          obtain ⟨f2, l2⟩ := b
          obtain ⟨h4, _⟩ := h3
          have : apartD (DE.enc (f, l)) (DE.enc (f2, l2)) = true := by
            show decide (l + 2 ≤ f2) = true
            simp; omega
          rw [this]; rfl
  obtain ⟨a, b⟩ := h1 r (-1) (by omega) h
  rw [a, b]; rfl
end TD

namespace TD
open PySem L2
/-! ladders: the numbers -/
def LIM : Int := 2 ^ 8000
theorem climbs_nil (r : Int × Int) : climbs [] r = r := rfl
theorem climbs_cons (b : Bool) (m : Int) (bs : Blk) (r : Int × Int) : climbs ((b, m) :: bs) r = climbs bs (climb r b m) := rfl
theorem climbs_snoc (b : Bool) (m : Int) (bs : Blk) (r : Int × Int) : climbs (bs ++ [(b, m)]) r = climb (climbs bs r) b m := by unfold climbs; rw [List.foldl_append]; rfl
/-- blocks of coins: none is empty, neighbours are unlike -/
def AltB : Option Bool → Blk → Prop
  | _, [] => True
  | o, (b, m) :: r => o ≠ some b ∧ 1 ≤ m ∧ AltB (some b) r
def lastB : Option Bool → Blk → Option Bool
  | o, [] => o
  | _, (b, _) :: r => lastB (some b) r
theorem AltB.snoc : ∀ {o : Option Bool} {bs : Blk} {b : Bool} {m : Int}, AltB o (bs ++ [(b, m)]) → AltB o bs ∧ 1 ≤ m ∧ lastB o bs ≠ some b
  | o, [], b, m, h => ⟨trivial, h.2.1, h.1⟩
  | o, (b', m') :: r, b, m, h => by
    obtain ⟨h1, h2, h3⟩ := h
    obtain ⟨i1, i2, i3⟩ := AltB.snoc h3
    exact ⟨⟨h1, h2, i1⟩, i2, i3⟩
theorem AltB.app : ∀ {o : Option Bool} {bs cs : Blk}, AltB o (bs ++ cs) → AltB o bs
  | o, [], cs, h => trivial
  | o, (b', m') :: r, cs, h => ⟨h.1, h.2.1, AltB.app h.2.2⟩
theorem lastB_snoc : ∀ (o : Option Bool) (bs : Blk) (b : Bool) (m : Int), lastB o (bs ++ [(b, m)]) = some b
  | o, [], b, m => rfl
  | o, (b', m') :: r, b, m => lastB_snoc (some b') r b m
/-- which number is the greater one -/
theorem mul_ge {a b : Int} (ha : 1 ≤ a) (hb : 1 ≤ b) : a ≤ a * b ∧ b ≤ a * b := by
  constructor
  · have := Int.mul_le_mul_of_nonneg_left hb (show (0 : Int) ≤ a by omega); omega
  · have := Int.mul_le_mul_of_nonneg_right ha (show (0 : Int) ≤ b by omega); omega
theorem climbs_ord : ∀ (n : Nat) (bs : Blk), bs.length = n → AltB none bs → 1 ≤ (climbs bs (1, 1)).1 ∧ 1 ≤ (climbs bs (1, 1)).2 ∧
    (lastB none bs = none → climbs bs (1, 1) = (1, 1)) ∧ (lastB none bs = some true → (climbs bs (1, 1)).2 < (climbs bs (1, 1)).1) ∧ (lastB none bs = some false → (climbs bs (1, 1)).1 < (climbs bs (1, 1)).2) := by
  intro n
  induction n with
  | zero =>
    intro bs h _
    rw [List.length_eq_zero_iff] at h
    subst h
    simp [climbs, lastB]
  | succ n ih =>
    intro bs h ha
    rcases List.eq_nil_or_concat bs with e | ⟨cs, ⟨b, m⟩, e⟩
    · subst e; simp at h
    · rw [List.concat_eq_append] at e
      subst e
      obtain ⟨h1, h2, h3⟩ := ha.snoc
      obtain ⟨p1, p2, p3, p4, p5⟩ := ih cs (by simpa using h) h1
      rw [lastB_snoc, climbs_snoc]
      generalize climbs cs (1, 1) = r at p1 p2 p3 p4 p5
      obtain ⟨x, y⟩ := r
      dsimp only at p1 p2 p3 p4 p5
      have hxy : (b = true → x ≤ y) ∧ (b = false → y ≤ x) := by
        cases hl : lastB none cs with
        | none => have := p3 hl; simp at this; omega
        | some c =>
          have hb : c ≠ b := fun z => h3 (by rw [hl, z])
          cases c <;> cases b <;> simp at hb
          · have := p5 hl; constructor
            · intro _; omega
            · intro z; cases z
          · have := p4 hl; constructor
            · intro z; cases z
            · intro _; omega
      cases b with
      | true =>
        have := hxy.1 rfl
        have g := (mul_ge (show (1 : Int) ≤ 2 * m by omega) p2).2
        simp only [climb, if_pos]
        refine ⟨by omega, by omega, (fun z => by cases z), fun _ => by omega, fun z => by simp at z⟩
      | false =>
        have := hxy.2 rfl
        have g := (mul_ge (show (1 : Int) ≤ 2 * m by omega) p1).2
        simp only [climb, Bool.false_eq_true, if_false]
        refine ⟨by omega, by omega, (fun z => by cases z), (fun z => by simp at z), fun _ => by omega⟩
/-- one step down -/
theorem climb_down {cs : Blk} {b : Bool} {m : Int} (ha : AltB none (cs ++ [(b, m)])) : let x := climbs cs (1, 1); let r := climbs (cs ++ [(b, m)]) (1, 1)
    (decide (r.2 < r.1) = b) ∧ r.1 ≠ r.2 ∧ 1 ≤ r.1 ∧ 1 ≤ r.2 ∧ 1 ≤ x.1 ∧ 1 ≤ x.2 ∧ 1 ≤ m ∧ ((if r.2 > r.1 then r.2 else r.1) - 1) / (2 * (if r.2 < r.1 then r.2 else r.1)) = m ∧
    (b = true → x = (r.1 - 2 * m * r.2, r.2) ∧ r.2 = x.2) ∧ (b = false → x = (r.1, r.2 - 2 * m * r.1) ∧ r.1 = x.1) := by
  intro x r
  obtain ⟨h1, h2, h3⟩ := ha.snoc
  have o1 := climbs_ord _ cs rfl h1
  have o2 := climbs_ord _ _ rfl ha
  rw [lastB_snoc] at o2
  have er : r = climb x b m := climbs_snoc b m cs (1, 1)
  change 1 ≤ x.1 ∧ 1 ≤ x.2 ∧ _ at o1
  change 1 ≤ r.1 ∧ 1 ≤ r.2 ∧ (_ → _) ∧ (_ → r.2 < r.1) ∧ (_ → r.1 < r.2) at o2
  obtain ⟨p1, p2, p3, p4, p5⟩ := o1
  obtain ⟨q1, q2, _, q4, q5⟩ := o2
  have hxy : (b = true → x.1 ≤ x.2) ∧ (b = false → x.2 ≤ x.1) := by
    cases hl : lastB none cs with
    | none => have : x = (1, 1) := p3 hl; rw [this]; simp
    | some c =>
      have hb : c ≠ b := fun z => h3 (by rw [hl, z])
      cases c <;> cases b <;> simp at hb
      · have : x.1 < x.2 := p5 hl
        exact ⟨fun _ => by omega, (fun z => by cases z)⟩
      · have : x.2 < x.1 := p4 hl
        exact ⟨(fun z => by cases z), fun _ => by omega⟩
  cases b with
  | true =>
    have hlt := q4 rfl
    have e1 : r.1 = x.1 + 2 * m * x.2 := by rw [er]; rfl
    have e2 : r.2 = x.2 := by rw [er]; rfl
    have hx := hxy.1 rfl
    refine ⟨by simpa using hlt, by omega, q1, q2, p1, p2, h2, ?_, fun _ => ⟨?_, e2⟩, (fun z => by cases z)⟩
    · rw [if_neg (by omega), if_pos hlt, e1, e2]
      have : x.1 + 2 * m * x.2 - 1 = (x.1 - 1) + m * (2 * x.2) := by
        have e : 2 * m * x.2 = m * (2 * x.2) := by rw [Int.mul_comm 2 m, Int.mul_assoc]
        omega
      rw [this, Int.add_mul_ediv_right _ _ (by omega), Int.ediv_eq_zero_of_lt (by omega) (by omega)]; omega
    · rw [e1, e2]; apply Prod.ext <;> dsimp only <;> omega
  | false =>
    have hlt := q5 rfl
    have e1 : r.1 = x.1 := by rw [er]; rfl
    have e2 : r.2 = x.2 + 2 * m * x.1 := by rw [er]; rfl
    have hx := hxy.2 rfl
    refine ⟨by simp; omega, by omega, q1, q2, p1, p2, h2, ?_, (fun z => by cases z), fun _ => ⟨?_, e1⟩⟩
    · rw [if_pos (by omega), if_neg (by omega), e1, e2]
      have : x.2 + 2 * m * x.1 - 1 = (x.2 - 1) + m * (2 * x.1) := by
        have e : 2 * m * x.1 = m * (2 * x.1) := by rw [Int.mul_comm 2 m, Int.mul_assoc]
        omega
      rw [this, Int.add_mul_ediv_right _ _ (by omega), Int.ediv_eq_zero_of_lt (by omega) (by omega)]; omega
    · rw [e1, e2]; apply Prod.ext <;> dsimp only <;> omega
theorem lastB_none : ∀ {o : Option Bool} {bs : Blk}, lastB o bs = none → bs = []
  | _, [], _ => rfl
  | _, (b, _) :: r, h => by
    have : ∀ (r : Blk) (b : Bool), lastB (some b) r ≠ none := fun r => by
      induction r with
      | nil => intro b h; cases h
      | cons a r ih => intro b h; exact ih a.1 h
    exact absurd h (this r b)
theorem climbs_same {bs : Blk} (ha : AltB none bs) (h : (climbs bs (1, 1)).1 = (climbs bs (1, 1)).2) : bs = [] := by
  obtain ⟨_, _, _, h1, h2⟩ := climbs_ord _ bs rfl ha
  cases e : lastB none bs with
  | none => exact lastB_none e
  | some b => cases b with
    | true => have := h1 e; omega
    | false => have := h2 e; omega
theorem sum_rev (l : List Int) : l.reverse.sum = l.sum := by
  induction l with
  | nil => rfl
  | cons a l ih => rw [List.reverse_cons, List.sum_append, ih]; simp [Int.add_comm]
theorem down_ok {x r : Int × Int} {b : Bool} {m : Int} (h1 : 1 ≤ r.1) (h2 : 1 ≤ r.2) (x1 : 1 ≤ x.1) (x2 : 1 ≤ x.2) (hm : 1 ≤ m) (t : b = true → x = (r.1 - 2 * m * r.2, r.2) ∧ r.2 = x.2) (f : b = false → x = (r.1, r.2 - 2 * m * r.1) ∧ r.1 = x.1) (z1 : r.1 < 2 ^ 8000) (z2 : r.2 < 2 ^ 8000) :
    0 < 2 * (if r.2 < r.1 then r.2 else r.1) ∧ (2 * (if r.2 < r.1 then r.2 else r.1)).natAbs < 2 ^ 9000 ∧ IntMulOk 2 (if r.2 < r.1 then r.2 else r.1) ∧ IntMulOk 2 m ∧ (b = true → IntMulOk (2 * m) r.2) ∧ (b = false → IntMulOk (2 * m) r.1) := by
  have e8 : (2 : Int) ^ 8000 = ((2 ^ 8000 : Nat) : Int) := by rw [Int.natCast_pow]; rfl
  have e9 : (2 : Nat) ^ 8001 = 2 * 2 ^ 8000 := by rw [Nat.pow_succ]; exact Nat.mul_comm _ _
  have e10 : (2 : Nat) ^ 8001 ≤ 2 ^ 9000 := Nat.pow_le_pow_right (by decide) (by decide)
  rw [e8] at z1 z2
  generalize 2 ^ 9000 = Z at *
  have key : ∀ y z : Int, 1 ≤ y → 1 ≤ z - 2 * m * y → z < ((2 ^ 8000 : Nat) : Int) → y < ((2 ^ 8000 : Nat) : Int) → IntMulOk (2 * m) y := fun y z hy hz hl hyl => by
    have g := (mul_ge (show (1 : Int) ≤ 2 * m by omega) hy).1
    refine mulOk (a := 8001) (b := 8000) ?_ ?_ (by decide)
    · rw [e9]
      generalize 2 ^ 8000 = W at *
      omega
    · generalize 2 ^ 8000 = W at *
      omega
  refine ⟨by split <;> omega, ?_, mulOkL (by decide), mulOkL (by decide), fun hb => ?_, fun hb => ?_⟩
  · generalize 2 ^ 8000 = W at *
    generalize 2 ^ 8001 = W1 at *
    split <;> omega
  · have := t hb
    exact key _ r.1 h2 (by rw [this.1] at x1; exact x1) z1 z2
  · have := f hb
    exact key _ r.2 h1 (by rw [this.1] at x2; exact x2) z2 z1
end TD

namespace TD
open PySem L2
/-! rows, their blocks, told again -/
theorem snoc_of {α : Type} (r : List α) : r = [] ∨ ∃ l z, r = l ++ [z] := by
  rcases List.eq_nil_or_concat r with h | ⟨l, z, h⟩
  · exact .inl h
  · exact .inr ⟨l, z, by simpa using h⟩
theorem snoc_ind {α : Type} {p : List α → Prop} (h0 : p []) (h1 : ∀ l z, p l → p (l ++ [z])) : ∀ (n : Nat) (r : List α), r.length = n → p r
  | 0, r, h => by rw [List.length_eq_zero_iff.mp h]; exact h0
  | n + 1, r, h => by
    rcases snoc_of r with e | ⟨l, z, e⟩
    · rw [e] at h; simp at h
    · subst e
      exact h1 l z (snoc_ind h0 h1 n l (by simpa using h))
theorem lastP_snoc (r : Row) (p : Int × Int) : lastP (r ++ [p]) = p.2 := by simp [lastP]
theorem fold_end (r : Row) : (r.foldl blkF ([], 0)).2 = lastP r := by
  rcases snoc_of r with e | ⟨l, z, e⟩
  · subst e; rfl
  · subst e; rw [List.foldl_append, lastP_snoc]; rfl
theorem blocks_eq (r : Row) (n : Int) : blocks r n = if lastP r < n then (r.foldl blkF ([], 0)).1 ++ [(false, n - lastP r)] else (r.foldl blkF ([], 0)).1 := by
  unfold blocks; simp only [fold_end]
theorem climb_more (x : Int × Int) (b : Bool) (m : Int) : climb x b (m + 1) = climb (climb x b m) b 1 := by
  unfold climb
  cases b with
  | true => simp only [if_true]; apply Prod.ext; · simp only [Int.mul_add, Int.add_mul]; omega
            · rfl
  | false => simp only [Bool.false_eq_true, if_false]; apply Prod.ext; · rfl
             · simp only [Int.mul_add, Int.add_mul]; omega
/-- one place more, tails -/
theorem ladder_tails {r : Row} {n : Int} (h : lastP r ≤ n) : climbs (blocks r (n + 1)) (1, 1) = climb (climbs (blocks r n) (1, 1)) false 1 := by
  rw [blocks_eq, blocks_eq, if_pos (by omega)]
  by_cases hl : lastP r < n
  · rw [if_pos hl, climbs_snoc, climbs_snoc, show n + 1 - lastP r = (n - lastP r) + 1 by omega, climb_more]
  · rw [if_neg hl, climbs_snoc, show n + 1 - lastP r = 1 by omega]
/-- one place more, heads -/
theorem ladder_heads {r : Row} {n : Int} (h : lastP r ≤ n) (h0 : 0 ≤ n) : climbs (blocks (r ++ [(n + 1, n + 1)]) (n + 1)) (1, 1) = climb (climbs (blocks r n) (1, 1)) true 1 := by
  rw [blocks_eq, lastP_snoc, if_neg (by simp), List.foldl_append]
  show climbs (((if (r.foldl blkF ([], 0)).2 + 1 < n + 1 then (r.foldl blkF ([], 0)).1 ++ [(false, n + 1 - (r.foldl blkF ([], 0)).2 - 1)] else (r.foldl blkF ([], 0)).1)) ++ [(true, n + 1 - (n + 1) + 1)]) (1, 1) = _
  rw [climbs_snoc, fold_end, blocks_eq]
  by_cases hl : lastP r < n
  · rw [if_pos (by omega), if_pos hl, show n + 1 - lastP r - 1 = n - lastP r by omega, show n + 1 - (n + 1) + 1 = 1 by omega]
  · rw [if_neg (by omega), if_neg hl, show n + 1 - (n + 1) + 1 = 1 by omega]
theorem ladder_longer {r : Row} {f n : Int} : climbs (blocks (r ++ [(f, n + 1)]) (n + 1)) (1, 1) = climb (climbs (blocks (r ++ [(f, n)]) n) (1, 1)) true 1 := by
  rw [blocks_eq, lastP_snoc, if_neg (by simp), blocks_eq, lastP_snoc, if_neg (by simp), List.foldl_append, List.foldl_append]
  show climbs ((if (r.foldl blkF ([], 0)).2 + 1 < f then _ else _) ++ [(true, n + 1 - f + 1)]) (1, 1) = climb (climbs ((if (r.foldl blkF ([], 0)).2 + 1 < f then _ else _) ++ [(true, n - f + 1)]) (1, 1)) true 1
  rw [climbs_snoc, climbs_snoc, show n + 1 - f + 1 = (n - f + 1) + 1 by omega, climb_more]
/-! what a row is, from its end -/
theorem RowOk.snoc_inv : ∀ {r : Row} {p f l : Int}, RowOk p (r ++ [(f, l)]) → RowOk p r ∧ p + 2 ≤ f ∧ (∀ q ∈ r, q.2 + 2 ≤ f) ∧ f ≤ l
  | [], p, f, l, ⟨h1, h2, _⟩ => ⟨trivial, h1, (by simp), h2⟩
  | (a, b) :: r, p, f, l, ⟨h1, h2, h3⟩ => by
    obtain ⟨i1, i2, i3, i4⟩ := RowOk.snoc_inv h3
    refine ⟨⟨h1, h2, i1⟩, by omega, fun q hq => ?_, i4⟩
    rcases List.mem_cons.mp hq with rfl | hq
    · exact i2
    · exact i3 q hq
theorem RowOk.sn : ∀ {r : Row} {p f l : Int}, RowOk p r → p + 2 ≤ f → (∀ q ∈ r, q.2 + 2 ≤ f) → f ≤ l → RowOk p (r ++ [(f, l)])
  | [], p, f, l, _, h1, _, h2 => ⟨h1, h2, trivial⟩
  | (a, b) :: r, p, f, l, ⟨g1, g2, g3⟩, _, h, h2 => ⟨g1, g2, RowOk.sn g3 (h (a, b) (by simp)) (fun q hq => h q (by simp [hq])) h2⟩
theorem row_le {r : Row} {p : Int} (h : RowOk p r) : ∀ q ∈ r, q.2 ≤ lastP r := by
  rcases snoc_of r with e | ⟨l, z, e⟩
  · subst e; simp
  · subst e
    obtain ⟨f, g⟩ := z
    obtain ⟨_, _, h3, h4⟩ := h.snoc_inv
    rw [lastP_snoc]
    intro q hq
    rcases List.mem_append.mp hq with w | w
    · have := h3 q w; dsimp only; omega
    · simp at w; rw [w]; exact Int.le_refl _
theorem row_pos {r : Row} (h : IsRow r) : 0 ≤ lastP r := by
  rcases snoc_of r with e | ⟨l, z, e⟩
  · subst e; simp [lastP]
  · subst e
    obtain ⟨f, g⟩ := z
    obtain ⟨_, h2, h3, h4⟩ := h.snoc_inv
    rw [lastP_snoc]; dsimp only; omega
theorem AltB.mk_snoc : ∀ {o : Option Bool} {bs : Blk} {b : Bool} {m : Int}, AltB o bs → 1 ≤ m → lastB o bs ≠ some b → AltB o (bs ++ [(b, m)])
  | o, [], b, m, _, h2, h3 => ⟨h3, h2, trivial⟩
  | o, (b', m') :: r, b, m, ⟨g1, g2, g3⟩, h2, h3 => ⟨g1, g2, AltB.mk_snoc g3 h2 h3⟩
def sumB (b : Blk) : Int := (b.map (·.2)).sum
theorem sumB_snoc (b : Blk) (x : Bool × Int) : sumB (b ++ [x]) = sumB b + x.2 := by simp [sumB]
theorem rowF_no {s : Row × Int} {m : Int} : rowF s (false, m) = (s.1, s.2 + m) := by simp [rowF]
theorem rowF_yes {s : Row × Int} {m : Int} (h : lastIs s.1 s.2 = false) : rowF s (true, m) = (s.1 ++ [(s.2 + 1, s.2 + m)], s.2 + m) := by simp [rowF, h]
structure BlkOf (r : Row) (b : Blk) (e : Int) : Prop where
  alt : AltB none b
  sum : sumB b = e
  row : b.foldl rowF ([], 0) = (r, e)
theorem blkOf_fold : ∀ (n : Nat) (r : Row), r.length = n → IsRow r → BlkOf r (r.foldl blkF ([], 0)).1 (lastP r) ∧ (r ≠ [] → lastB none (r.foldl blkF ([], 0)).1 = some true) := by
  refine snoc_ind (fun _ => ⟨⟨trivial, rfl, rfl⟩, fun h => absurd rfl h⟩) fun r z ih h => ?_
  obtain ⟨f, l⟩ := z
  obtain ⟨h1, h2, h3, h4⟩ := h.snoc_inv
  obtain ⟨⟨i1, i2, i3⟩, i4⟩ := ih h1
  rw [List.foldl_append, lastP_snoc]
  have e : ([(f, l)] : Row).foldl blkF (r.foldl blkF ([], 0)) = ((if lastP r + 1 < f then (r.foldl blkF ([], 0)).1 ++ [(false, f - lastP r - 1)] else (r.foldl blkF ([], 0)).1) ++ [(true, l - f + 1)], l) := by
    rw [← fold_end]; rfl
  rw [e]
  generalize (r.foldl blkF ([], 0)).1 = b at i1 i2 i3 i4
  have hlast : lastIs r (f - 1) = false := by
    rcases snoc_of r with z | ⟨r0, z, e0⟩
    · subst z; rfl
    · subst e0
      have := h3 z (by simp)
      simp [lastIs]; omega
  by_cases hr : r = []
  · subst hr
    have hb : b.foldl rowF ([], 0) = ([], 0) := i3
    have e0 : lastP [] = 0 := rfl
    rw [e0] at i2 ⊢
    have hbn : b = [] := by
      rcases snoc_of b with z | ⟨b0, z, eb⟩
      · exact z
      · exfalso
        have pos : ∀ (b : Blk) (o : Option Bool), AltB o b → 0 ≤ sumB b := fun b => by
          induction b with
          | nil => intro o _; simp [sumB]
          | cons a b ihb => intro o h; have := ihb _ h.2.2; have := h.2.1; simp only [sumB, List.map_cons, List.sum_cons] at *; omega
        subst eb
        obtain ⟨a1, a2, _⟩ := i1.snoc
        have := pos _ _ a1
        rw [sumB_snoc] at i2; obtain ⟨zb, zm⟩ := z; dsimp only at i2 a2; omega
    subst hbn
    by_cases hg : 0 + 1 < f
    · rw [if_pos hg]
      refine ⟨⟨⟨by simp, by omega, by simp, by omega, trivial⟩, by simp [sumB]; omega, ?_⟩, fun _ => rfl⟩
      show rowF (rowF ([], 0) (false, f - 0 - 1)) (true, l - f + 1) = _
      rw [rowF_no, rowF_yes rfl]
      simp; omega
    · rw [if_neg hg]
      refine ⟨⟨⟨by simp, by omega, trivial⟩, by simp [sumB]; omega, ?_⟩, fun _ => rfl⟩
      show rowF ([], 0) (true, l - f + 1) = _
      rw [rowF_yes rfl]
      simp; omega
  · have hlt : lastP r + 1 < f := by
      rcases snoc_of r with z | ⟨r0, z, e0⟩
      · exact absurd z hr
      · subst e0
        have := h3 z (by simp)
        rw [lastP_snoc]; omega
    rw [if_pos hlt]
    have hb := i4 hr
    refine ⟨⟨(i1.mk_snoc (by omega) (by rw [hb]; simp)).mk_snoc (by omega) (by rw [lastB_snoc]; simp), by rw [sumB_snoc, sumB_snoc, i2]; dsimp only; omega, ?_⟩, fun _ => lastB_snoc _ _ _ _⟩
    rw [List.foldl_append, List.foldl_append, i3]
    show rowF (rowF (r, lastP r) (false, f - lastP r - 1)) (true, l - f + 1) = _
    rw [rowF_no, rowF_yes (by dsimp only; rw [show lastP r + (f - lastP r - 1) = f - 1 by omega]; exact hlast)]
    dsimp only
    congr 1
    · congr 2
      apply Prod.ext <;> dsimp only <;> omega
    · omega
theorem blkOf {r : Row} {n : Int} (h : IsRow r) (hn : lastP r ≤ n) : BlkOf r (blocks r n) n := by
  obtain ⟨⟨i1, i2, i3⟩, i4⟩ := blkOf_fold _ r rfl h
  rw [blocks_eq]
  by_cases hl : lastP r < n
  · rw [if_pos hl]
    refine ⟨i1.mk_snoc (by omega) ?_, by rw [sumB_snoc, i2]; dsimp only; omega, ?_⟩
    · by_cases hr : r = []
      · subst hr; simp [lastB]
      · rw [i4 hr]; simp
    · rw [List.foldl_append, i3]
      show rowF (r, lastP r) (false, n - lastP r) = _
      rw [rowF_no]; dsimp only; congr 1; omega
  · rw [if_neg hl]
    have : lastP r = n := by omega
    rw [this] at i2 i3
    exact ⟨i1, i2, i3⟩
theorem rowOf_blocks {r : Row} {n : Int} (h : IsRow r) (hn : lastP r ≤ n) : rowOf (blocks r n) = r := by
  unfold rowOf; rw [(blkOf h hn).row]
end TD

namespace TD
open PySem PySem.Spec PyProof.Rows L2
local macro_rules | `(tactic| walk_at "sd") => `(tactic| first | omega | decide | assumption)
local macro_rules | `(tactic| walk_at "sz") => `(tactic| first | decide | assumption | (simp only [List.length_append, List.length_map, List.length_cons, List.length_nil, sizeLine_eq] at *; omega))
local macro_rules | `(tactic| walk_at "mul") => `(tactic| first | exact mulOkL (by omega) | exact mulOkR (by omega) | exact mulOkL (by decide) | exact mulOkR (by decide) | assumption)
local macro_rules | `(tactic| walk_at "db") => `(tactic| first | decide | exact db_of (by omega) (by omega) | assumption)
local macro_rules | `(tactic| walk_at "ix") => `(tactic| first | rfl | exact atI_lastD _ _ | assumption)
local macro_rules | `(tactic| walk_at "ixn") => `(tactic| first | rfl | assumption)
local macro_rules | `(tactic| walk_at "dr") => `(tactic| repeat (first | exact List.Sublist.refl _ | refine List.Sublist.cons _ ?_))
local macro_rules | `(tactic| walk_at "kn") => `(tactic| repeat (first | exact Kn.nil | refine Kn.cons ?_ | refine Kn.lose ?_))
local macro_rules | `(tactic| walk_at "fin") => `(tactic| first | assumption | trivial)
local macro_rules | `(tactic| walk_at "tr") => `(tactic| first | refine t_bl ?_ | refine t_int ?_)
local macro_rules | `(tactic| walk_at "pl") => `(tactic| first | assumption | rfl)

def topS (i : Nat) : Stmt := PySem.Challenge.pw_turntell_k46_whole_ladders_of_all_rows.main.body.getD i (.Pass ⟨0, 0, 0, 0⟩)
section
variable {P : Program} {w : World} {K : PySem.W.Frag} {mg : Str → Option Value} {base : Heap}
def C_is_whole : Ct := mkC (fun x : D × Int => [x.1, .int x.2]) fun x M Q _ => x.1.plain = true ∧ Q (.bl (wholeD x.1 x.2)) M
theorem whole_eq {d : D} {i : Int} (hp : d.plain = true) : wholeD d i = (isT d "int" && (!isT d "bool" && wholeD d i)) := by
  rw [isT_int hp, isT_bool hp]; cases d <;> simp [wholeD, is_int, is_bool]
abbrev s_is_whole : Stmt := topS 7
theorem sc_is_whole : FnScope ["thing", "least"] ["thing", "least"] (defScope s_is_whole) := ⟨rfl, rfl, rfl, by decide +kernel, rfl, by decide +kernel, by decide +kernel⟩
theorem ok_is_whole (B : Blt mg) (F : DfAt K mg "is_whole" s_is_whole ["thing", "least"])   : FnD P w K mg base 1 "is_whole" C_is_whole := by
  refine FnD.of F sc_is_whole (fun x => rfl) (by decide) fun Z t M Q E hC ok po => ?_
  obtain ⟨d, i⟩ := t
  obtain ⟨hp, q⟩ := hC
  dsimp only at hp q ⊢
  rw [whole_eq hp] at q
  refine es_cons (e1_ret ?_)
  apply ev_andP _ (!isT d "bool" && wholeD d i)
  · refine ev_callB (id := "isinstance") B.isinstance (by decide +kernel) ?_
    refine ea_cons ?_
    refine ev_name (i := 0) rfl ?_
    refine ea_cons ?_
    refine ev_bltn (v := .ty "int") B.int (by decide +kernel) rfl (fun _ => rp_ty.mpr rfl) ?_
    refine ea_nil ?_
    refine c_isi (by walk_at "pl") (by decide) ?_
    exact ⟨rfl, rfl⟩
  · intro hO1
    apply ev_andP _ (wholeD d i)
    · refine ev_not ?_
      refine ev_callB (id := "isinstance") B.isinstance (by decide +kernel) ?_
      refine ea_cons ?_
      refine ev_name (i := 0) rfl ?_
      refine ea_cons ?_
      refine ev_bltn (v := .ty "bool") B.bool (by decide +kernel) rfl (fun _ => rp_ty.mpr rfl) ?_
      refine ea_nil ?_
      refine c_isi (by walk_at "pl") (by decide) ?_
      refine isB.mk ?_
      exact ⟨rfl, rfl⟩
    · intro hO2
      have e : ∃ n, d = .int n := by
        rw [isT_int hp] at hO1; rw [isT_bool hp] at hO2
        cases d <;> first | exact ⟨_, rfl⟩ | simp_all [is_int, is_bool]
      obtain ⟨n, rfl⟩ := e
      refine ev_one ?_
      refine ev_cmp (nomark _) ?_
      refine ev_name (i := 0) rfl ?_
      refine ev_name (i := 1) rfl ?_
      refine o_ge ?_
      exact ⟨rfl, rfl⟩
    exact ⟨rfl, rfl⟩
  exact ⟨_, by walk_at "dr", by walk_at "fin"⟩
def C_is_stretch : Ct := mkC (fun x : D => [x]) fun x M Q _ => deepD x = true ∧ Q (.bl (stretchD x)) M
abbrev s_is_stretch : Stmt := topS 8
theorem sc_is_stretch : FnScope ["thing"] ["thing"] (defScope s_is_stretch) := ⟨rfl, rfl, rfl, by decide +kernel, rfl, by decide +kernel, by decide +kernel⟩
theorem ok_is_stretch (B : Blt mg) (F : DfAt K mg "is_stretch" s_is_stretch ["thing"]) (h_is_whole : FnD P w K mg base 1 "is_whole" C_is_whole)  : FnD P w K mg base 2 "is_stretch" C_is_stretch := by
  refine FnD.of F sc_is_stretch (fun x => rfl) (by decide) fun Z t M Q E hC ok po => ?_
  have hp := hC.1
  have q := hC.2
  have hq := deepD.plain hp
  refine es_cons (e1_if ?_)
  refine et_w ?_
  apply ew_orP _ (decide (lenD t ≠ 2))
  · refine et_not ?_
    refine et_val ?_
    refine ev_callB (id := "isinstance") B.isinstance (by decide +kernel) ?_
    refine ea_cons ?_
    refine ev_name (i := 0) rfl ?_
    refine ea_cons ?_
    refine ev_tup ?_
    refine ea_cons ?_
    refine ev_bltn (v := .ty "list") B.list (by decide +kernel) rfl (fun _ => rp_ty.mpr rfl) ?_
    refine ea_cons ?_
    refine ev_bltn (v := .ty "tuple") B.tuple (by decide +kernel) rfl (fun _ => rp_ty.mpr rfl) ?_
    refine ea_nil ?_
    refine ⟨by walk_at "sz", ?_⟩
    refine ea_nil ?_
    refine c_isiT ["list", "tuple"] (by walk_at "pl") (by decide) ?_
    walk_at "tr"
    exact ⟨rfl, rfl⟩
  · intro hO1
    obtain ⟨ds, hd, hl, hi, hlen⟩ := seq_of hp (by revert hO1; cases (["list", "tuple"].any (isT t)) <;> simp)
    refine ew_or1 ?_
    refine et_cmp (nomark _) ?_
    refine ev_callB (id := "len") B.len (by decide +kernel) ?_
    refine ea_cons ?_
    refine ev_name (i := 0) rfl ?_
    refine ea_nil ?_
    refine c_lenQ hi ?_
    refine ev_int ?_
    refine o_neI ?_
    refine isB.mk ?_
    exact ⟨by rw [hlen]; by_cases h2 : ds.length = 2 <;> simp [h2]; omega, rfl⟩
  refine if_2 (fun hI1 => ?_) (fun hI1 => ?_)
  · have e : stretchD t = false := by
      unfold stretchD
      cases hI : (["list", "tuple"].any (isT t)) with
      | false => rw [noseq_of hp hI]
      | true =>
        obtain ⟨ds, hd, hl, hi, hlen⟩ := seq_of hp hI
        rw [hI, hlen] at hI1
        rw [hi]
        cases hs : stretchL ds with
        | false => exact hs
        | true =>
          obtain ⟨i, j, rfl, _⟩ := stretchL_len hs
          simp at hI1
    rw [e] at q
    refine es_cons (e1_ret ?_)
    refine ev_bl ?_
    exact ⟨_, by walk_at "dr", by walk_at "fin"⟩
  · obtain ⟨ds, hd, hl, hi, hlen⟩ := seq_of hp (by
      cases h : (["list", "tuple"].any (isT t)) with
      | true => rfl
      | false => rw [h] at hI1; simp at hI1)
    rw [hlen] at hI1
    obtain ⟨a, b, rfl⟩ : ∃ a b, ds = [a, b] := by
      have h2 : ds.length = 2 := by
        have := hI1; simp at this; omega
      match ds, h2 with
      | [a, b], _ => exact ⟨a, b, rfl⟩
    have pa : a.plain = true := deepD.plain (deepL.mem hl a (by simp))
    have pb : b.plain = true := deepD.plain (deepL.mem hl b (by simp))
    have e : stretchD t = (wholeD a 1 && w2 a b) := by unfold stretchD; rw [hi]; rfl
    rw [e] at q
    refine es_nil ?_
    refine es_cons (e1_ret ?_)
    apply ev_andP _ (w2 a b)
    · refine ev_call h_is_whole ?_
      refine ea_cons ?_
      refine ev_ix (fun _ _ => rfl) ?_
      refine ev_name (i := 0) rfl ?_
      refine ev_int ?_
      first | refine x_tup (by walk_at "ix") ?_ | refine x_lst (by walk_at "ix") ?_ | refine x_scr (by walk_at "ix") ?_ | refine x_seq (by assumption) (by walk_at "ix") ?_
      refine ea_cons ?_
      refine ev_int ?_
      refine ea_nil ?_
      refine ⟨(_, _), rfl, by walk_at "pl", ?_⟩
      exact ⟨rfl, rfl⟩
    · intro hO2
      obtain ⟨n, rfl, hn⟩ := wholeD_int hO2
      refine ev_one ?_
      refine ev_call h_is_whole ?_
      refine ea_cons ?_
      refine ev_ix (fun _ _ => rfl) ?_
      refine ev_name (i := 0) rfl ?_
      refine ev_int ?_
      first | refine x_tup (by walk_at "ix") ?_ | refine x_lst (by walk_at "ix") ?_ | refine x_scr (by walk_at "ix") ?_ | refine x_seq (by assumption) (by walk_at "ix") ?_
      refine ea_cons ?_
      refine ev_ix (fun _ _ => rfl) ?_
      refine ev_name (i := 0) rfl ?_
      refine ev_int ?_
      first | refine x_tup (by walk_at "ix") ?_ | refine x_lst (by walk_at "ix") ?_ | refine x_scr (by walk_at "ix") ?_ | refine x_seq (by assumption) (by walk_at "ix") ?_
      refine ea_nil ?_
      refine ⟨(_, _), rfl, by walk_at "pl", ?_⟩
      exact ⟨rfl, rfl⟩
    exact ⟨_, by walk_at "dr", by walk_at "fin"⟩
def C_is_row : Ct := mkC (fun x : D => [x]) fun x M Q _ => deepD x = true ∧ Q (.bl (rowD x)) M
abbrev s_is_row : Stmt := topS 9
theorem sc_is_row : FnScope ["thing", "one", "ahead", "later"] ["thing"] (defScope s_is_row) := ⟨rfl, rfl, rfl, by decide +kernel, rfl, by decide +kernel, by decide +kernel⟩
theorem ok_is_row (B : Blt mg) (F : DfAt K mg "is_row" s_is_row ["thing"]) (h_is_stretch : FnD P w K mg base 2 "is_stretch" C_is_stretch)  : FnD P w K mg base 3 "is_row" C_is_row := by
  refine FnD.of F sc_is_row (fun x => rfl) (by decide) fun Z t M Q E hC ok po => ?_
  have hp := hC.1
  have q := hC.2
  have hq := deepD.plain hp
  refine es_learnT 0 (d := t) rfl fun hsz => ?_
  refine es_cons (e1_if ?_)
  refine et_w ?_
  apply ew_orP _ (!((itemsD t).getD []).all stretchD)
  · refine et_not ?_
    refine et_val ?_
    refine ev_callB (id := "isinstance") B.isinstance (by decide +kernel) ?_
    refine ea_cons ?_
    refine ev_name (i := 0) rfl ?_
    refine ea_cons ?_
    refine ev_tup ?_
    refine ea_cons ?_
    refine ev_bltn (v := .ty "list") B.list (by decide +kernel) rfl (fun _ => rp_ty.mpr rfl) ?_
    refine ea_cons ?_
    refine ev_bltn (v := .ty "tuple") B.tuple (by decide +kernel) rfl (fun _ => rp_ty.mpr rfl) ?_
    refine ea_nil ?_
    refine ⟨by walk_at "sz", ?_⟩
    refine ea_nil ?_
    refine c_isiT ["list", "tuple"] (by walk_at "pl") (by decide) ?_
    walk_at "tr"
    exact ⟨rfl, rfl⟩
  · intro hO1
    obtain ⟨ds, hd, hl, hi, hlen⟩ := seq_of hp (by revert hO1; cases (["list", "tuple"].any (isT t)) <;> simp)
    refine ew_or1 ?_
    refine et_not ?_
    refine et_val ?_
    refine ev_callB (id := "all") B.all (by decide +kernel) ?_
    refine ea_cons ?_
    refine ev_lc (.one 1) (own := [("one", 1)]) (blkOk_by (N := ["thing", "one", "ahead", "later"]) (sc := defScope s_is_row) (by decide +kernel)) rfl (fun _ _ _ _ _ => pg_name (i := 1) ok.nd rfl (by first | exact Or.inl rfl | exact Or.inr rfl)) ?_
    refine ei_seq hi ?_
    refine ev_name (i := 0) rfl ?_
    refine ⟨rfl, ?_⟩
    refine lcL_mapD stretchD D.bl _ ds (fun _ => rfl) (hsz _ hi) ?_ ?_
    · intro a ha s H C cl fp
      refine ev_call h_is_stretch ?_
      refine ea_cons ?_
      refine ev_name (i := 1) rfl ?_
      refine ea_nil ?_
      refine ⟨_, rfl, deepL.mem hl _ ha, ?_⟩
      exact ⟨rfl, rfl⟩
    refine ea_nil ?_
    refine c_all ?_
    walk_at "tr"
    exact ⟨by rw [hi]; simp, rfl⟩
  refine if_2 (fun hI1 => ?_) (fun hI1 => ?_)
  · have e : rowD t = false := by
      unfold rowD
      cases hI : (["list", "tuple"].any (isT t)) with
      | false => rw [noseq_of hp hI]
      | true =>
        obtain ⟨ds, hd, hl, hi, hlen⟩ := seq_of hp hI
        rw [hI, hi] at hI1
        rw [hi]
        have : ds.all stretchD = false := by simpa using hI1
        show rowL ds = false
        unfold rowL; rw [this]; rfl
    rw [e] at q
    refine es_cons (e1_ret ?_)
    refine ev_bl ?_
    exact ⟨_, by walk_at "dr", by walk_at "fin"⟩
  · obtain ⟨ds, hd, hl, hi, hlen⟩ := seq_of hp (by
      cases h : (["list", "tuple"].any (isT t)) with
      | true => rfl
      | false => rw [h] at hI1; simp at hI1)
    rw [hi] at hI1
    have hall : ds.all stretchD = true := by
      cases h : ds.all stretchD with
      | true => rfl
      | false => simp at hI1 h; obtain ⟨x, hx, hx2⟩ := h; rw [hI1.2 x hx] at hx2; cases hx2
    have e : rowD t = (ds.zip (ds.drop 1)).all fun p => apartD p.1 p.2 := by unfold rowD; rw [hi]; show rowL ds = _; unfold rowL; rw [hall]; rfl
    rw [e] at q
    refine es_nil ?_
    refine es_cons (e1_ret ?_)
    refine ev_callB (id := "all") B.all (by decide +kernel) ?_
    refine ea_cons ?_
    refine ev_lc (.two 2 3) (own := [("ahead", 2), ("later", 3)]) (blkOk_by (N := ["thing", "one", "ahead", "later"]) (sc := defScope s_is_row) (by decide +kernel)) rfl (fun _ _ _ _ _ => pg_tup rfl (pgs_cons (pg_name (i := 2) ok.nd rfl (by first | exact Or.inl rfl | exact Or.inr rfl)) (pgs_cons (pg_name (i := 3) ok.nd rfl (by first | exact Or.inl rfl | exact Or.inr rfl)) pgs_nil))) ?_
    refine ei_zip B.zip ?_
    refine ea_cons ?_
    refine ev_name (i := 0) rfl ?_
    refine ea_cons ?_
    refine ev_slice ?_
    refine ev_name (i := 0) rfl ?_
    refine ev_int ?_
    refine ⟨_, rfl, ?_⟩
    refine s_seq hi fun y hy hk => ?_
    rw [show cutD ds (some 1) none = ds.drop 1 from cut_from ds 1] at hy
    refine ea_nil ?_
    refine ⟨_, _, _, _, rfl, zip_seq hi hy hk, ?_⟩
    refine lcL_map (fun p : D × D => .tup [p.1, p.2]) (fun p => apartD p.1 p.2) D.bl _ (ds.zip (ds.drop 1)) (fun p => ⟨_, _, rfl, rfl⟩) (by have := hsz _ hi; simp; omega) ?_ ?_
    · intro a ha s H C cl fp
      have h1 := List.all_eq_true.mp hall a.1 (List.of_mem_zip ha).1
      have h2 := List.all_eq_true.mp hall a.2 (List.mem_of_mem_drop (List.of_mem_zip ha).2)
      obtain ⟨i1, j1, e1, _, _, v1⟩ := stretchD_of h1
      obtain ⟨i2, j2, e2, _, _, v2⟩ := stretchD_of h2
      have t1 : itemsD a.1 = some [.int i1, .int j1] := by rcases e1 with e | e <;> rw [e] <;> rfl
      have t2 : itemsD a.2 = some [.int i2, .int j2] := by rcases e2 with e | e <;> rw [e] <;> rfl
      refine ev_cmp (nomark _) ?_
      refine ev_ix (fun _ _ => rfl) ?_
      refine ev_name (i := 3) rfl ?_
      refine ev_int ?_
      refine x_seq t2 rfl ?_
      refine ev_bin ?_
      refine ev_ix (fun _ _ => rfl) ?_
      refine ev_name (i := 2) rfl ?_
      refine ev_int ?_
      refine x_seq t1 rfl ?_
      refine ev_int ?_
      first | refine o_add ?_ | refine o_cat (by walk_at "sz") ?_
      refine o_ge ?_
      exact ⟨by unfold apartD; rw [v1, v2], rfl⟩
    refine ea_nil ?_
    refine c_all ?_
    exact ⟨_, by walk_at "dr", by simpa using q⟩
end
end TD

namespace TD
open PySem PySem.Spec PyProof.Rows L2
local macro_rules | `(tactic| walk_at "sd") => `(tactic| first | omega | decide | assumption)
local macro_rules | `(tactic| walk_at "sz") => `(tactic| first | decide | assumption | (simp only [List.length_append, List.length_map, List.length_cons, List.length_nil, sizeLine_eq] at *; omega))
local macro_rules | `(tactic| walk_at "mul") => `(tactic| first | exact mulOkL (by omega) | exact mulOkR (by omega) | exact mulOkL (by decide) | exact mulOkR (by decide) | assumption)
local macro_rules | `(tactic| walk_at "db") => `(tactic| first | decide | exact db_of (by omega) (by omega) | assumption)
local macro_rules | `(tactic| walk_at "ix") => `(tactic| first | rfl | exact atI_lastD _ _ | assumption)
local macro_rules | `(tactic| walk_at "ixn") => `(tactic| first | rfl | assumption)
local macro_rules | `(tactic| walk_at "dr") => `(tactic| repeat (first | exact List.Sublist.refl _ | refine List.Sublist.cons _ ?_))
local macro_rules | `(tactic| walk_at "kn") => `(tactic| repeat (first | exact Kn.nil | refine Kn.cons ?_ | refine Kn.lose ?_))
local macro_rules | `(tactic| walk_at "fin") => `(tactic| first | assumption | trivial)
local macro_rules | `(tactic| walk_at "tr") => `(tactic| first | refine t_bl ?_ | refine t_int ?_)
local macro_rules | `(tactic| walk_at "pl") => `(tactic| first | assumption | rfl)

section
variable {P : Program} {w : World} {K : PySem.W.Frag} {mg : Str → Option Value} {base : Heap}
def C_climbed : Ct := mkC (fun x : (Int × Int) × Bool × Int => [DE.enc x.1, .bl x.2.1, .int x.2.2]) fun x M Q _ => ((x.2.1 = true → IntMulOk (2 * x.2.2) x.1.2) ∧ (x.2.1 = false → IntMulOk (2 * x.2.2) x.1.1)) ∧ Q (DE.enc (climb x.1 x.2.1 x.2.2)) M
abbrev s_climbed : Stmt := topS 12
theorem sc_climbed : FnScope ["rungs", "shown", "many", "first", "second"] ["rungs", "shown", "many"] (defScope s_climbed) := ⟨rfl, rfl, rfl, by decide +kernel, rfl, by decide +kernel, by decide +kernel⟩
theorem ok_climbed (B : Blt mg) (F : DfAt K mg "climbed" s_climbed ["rungs", "shown", "many"])   : FnD P w K mg base 1 "climbed" C_climbed := by
  refine FnD.of F sc_climbed (fun x => rfl) (by decide) fun Z t M Q E hC ok po => ?_
  obtain ⟨⟨p1, p2⟩, b, m⟩ := t
  obtain ⟨⟨m1, m2⟩, q⟩ := hC
  dsimp only at m1 m2 q ⊢
  refine es_cons (e1_asg ?_)
  refine ev_name (i := 0) rfl ?_
  refine eg_tup ?_
  refine egs_cons ?_
  refine eg_name 3 ?_
  refine egs_cons ?_
  refine eg_name 4 ?_
  refine egs_nil ?_
  refine es_cons (e1_ret ?_)
  apply ev_iteF (id) 
  · refine et_val ?_
    refine ev_name (i := 1) rfl ?_
    walk_at "tr"
    exact ⟨rfl, rfl⟩
  · intro hX1
    have m3 := m1 hX1
    refine ev_tup ?_
    refine ea_cons ?_
    refine ev_bin ?_
    refine ev_name (i := 3) rfl ?_
    refine ev_bin ?_
    refine ev_bin ?_
    refine ev_int ?_
    refine ev_name (i := 2) rfl ?_
    first | refine o_mul (by walk_at "mul") ?_ | refine o_rep (by walk_at "sd") (by walk_at "sd") (by walk_at "sz") ?_
    refine ev_name (i := 4) rfl ?_
    first | refine o_mul (by walk_at "mul") ?_ | refine o_rep (by walk_at "sd") (by walk_at "sd") (by walk_at "sz") ?_
    first | refine o_add ?_ | refine o_cat (by walk_at "sz") ?_
    refine ea_cons ?_
    refine ev_name (i := 4) rfl ?_
    refine ea_nil ?_
    refine ⟨by walk_at "sz", ?_⟩
    exact ⟨rfl, rfl⟩
  · intro hX1
    have m3 := m2 hX1
    refine ev_tup ?_
    refine ea_cons ?_
    refine ev_name (i := 3) rfl ?_
    refine ea_cons ?_
    refine ev_bin ?_
    refine ev_name (i := 4) rfl ?_
    refine ev_bin ?_
    refine ev_bin ?_
    refine ev_int ?_
    refine ev_name (i := 2) rfl ?_
    first | refine o_mul (by walk_at "mul") ?_ | refine o_rep (by walk_at "sd") (by walk_at "sd") (by walk_at "sz") ?_
    refine ev_name (i := 3) rfl ?_
    first | refine o_mul (by walk_at "mul") ?_ | refine o_rep (by walk_at "sd") (by walk_at "sd") (by walk_at "sz") ?_
    first | refine o_add ?_ | refine o_cat (by walk_at "sz") ?_
    refine ea_nil ?_
    refine ⟨by walk_at "sz", ?_⟩
    exact ⟨rfl, rfl⟩
  exact ⟨_, by walk_at "dr", by cases b <;> simpa [climb, enc_pair, enc_int] using q⟩
def C_blocks_of : Ct := mkC (fun x : Row × Int => [DE.enc x.1, .int x.2]) fun x M Q _ => x.1.length ≤ 1000000 ∧ Q (DE.enc (blocks x.1 x.2)) M
theorem blk_len : ∀ (r : Row) (s : Blk × Int), (r.foldl blkF s).1.length ≤ s.1.length + 2 * r.length
  | [], s => by simp
  | a :: r, s => by
    have := blk_len r (blkF s a)
    have h2 : (blkF s a).1.length ≤ s.1.length + 2 := by unfold blkF; dsimp only; split <;> simp
    simp only [List.foldl_cons, List.length_cons]; omega
abbrev s_blocks_of : Stmt := topS 13
theorem sc_blocks_of : FnScope ["row", "n", "found", "behind", "first", "last"] ["row", "n"] (defScope s_blocks_of) := ⟨rfl, rfl, rfl, by decide +kernel, rfl, by decide +kernel, by decide +kernel⟩
theorem ok_blocks_of (B : Blt mg) (F : DfAt K mg "blocks_of" s_blocks_of ["row", "n"])   : FnD P w K mg base 1 "blocks_of" C_blocks_of := by
  refine FnD.of F sc_blocks_of (fun x => rfl) (by decide) fun Z t M Q E hC ok po => ?_
  obtain ⟨row, n⟩ := t
  obtain ⟨hl, q⟩ := hC
  dsimp only at hl q ⊢
  refine es_cons (e1_set 2 ?_)
  refine ev_lstm ?_
  refine ea_nil ?_
  refine ⟨by walk_at "sz", ?_⟩
  intro p_found
  refine es_cons (e1_set 3 ?_)
  refine ev_int ?_
  refine es_cons (e1_for ?_)
  refine ei_list ?_
  refine ev_name (i := 0) rfl ?_
  refine ⟨_, .lst _, ?_⟩
  refine forL_fold (α := Int × Int) (S := Blk × Int) DE.enc (fun s => [some (DE.enc row), some (.int n), some (.ptr p_found), some (.int s.2), none, none]) (fun s => (p_found, .lst (s.1.map DE.enc)) :: M) blkF row ([], 0) mono_es ?_ ?_
  · rintro a as s ⟨pre, he, hs⟩
    have hz : s.1.length + 2 < sizeLine := by
      have h1 := blk_len pre ([], 0)
      have h2 := congrArg List.length he
      rw [hs]; simp at h1 h2; rw [sizeLine_eq]; omega
    dsimp only
    refine eg_tup ?_
    refine egs_cons ?_
    refine eg_name 4 ?_
    refine egs_cons ?_
    refine eg_name 5 ?_
    refine egs_nil ?_
    refine es_cons (e1_if ?_)
    refine et_cmp (nomark _) ?_
    refine ev_name (i := 4) rfl ?_
    refine ev_bin ?_
    refine ev_name (i := 3) rfl ?_
    refine ev_int ?_
    first | refine o_add ?_ | refine o_cat (by walk_at "sz") ?_
    refine o_gt ?_
    refine isB.mk ?_
    refine if_d (fun hI1 => ?_) (fun hI1 => ?_)
    · refine es_cons (e1_expr ?_)
      refine ev_app ?_
      refine ev_name (i := 2) rfl ?_
      refine ⟨tyd_ptr (k := 0) rfl, ?_⟩
      refine ea_cons ?_
      refine ev_tup ?_
      refine ea_cons ?_
      refine ev_bl ?_
      refine ea_cons ?_
      refine ev_bin ?_
      refine ev_bin ?_
      refine ev_name (i := 4) rfl ?_
      refine ev_name (i := 3) rfl ?_
      refine o_sub ?_
      refine ev_int ?_
      refine o_sub ?_
      refine ea_nil ?_
      refine ⟨by walk_at "sz", ?_⟩
      refine ea_nil ?_
      refine m_append (k := 0) rfl (by walk_at "sz") ?_
      refine es_nil ?_
      refine es_cons (e1_expr ?_)
      refine ev_app ?_
      refine ev_name (i := 2) rfl ?_
      refine ⟨tyd_ptr (k := 0) rfl, ?_⟩
      refine ea_cons ?_
      refine ev_tup ?_
      refine ea_cons ?_
      refine ev_bl ?_
      refine ea_cons ?_
      refine ev_bin ?_
      refine ev_bin ?_
      refine ev_name (i := 5) rfl ?_
      refine ev_name (i := 4) rfl ?_
      refine o_sub ?_
      refine ev_int ?_
      first | refine o_add ?_ | refine o_cat (by walk_at "sz") ?_
      refine ea_nil ?_
      refine ⟨by walk_at "sz", ?_⟩
      refine ea_nil ?_
      refine m_append (k := 0) rfl (by walk_at "sz") ?_
      refine es_cons (e1_set 3 ?_)
      refine ev_name (i := 5) rfl ?_
      refine es_nil ?_
      exact ⟨_, rfl, by walk_at "kn", by simp [blkF, hI1, enc_pair, enc_int, enc_bl]⟩
    · refine es_nil ?_
      refine es_cons (e1_expr ?_)
      refine ev_app ?_
      refine ev_name (i := 2) rfl ?_
      refine ⟨tyd_ptr (k := 0) rfl, ?_⟩
      refine ea_cons ?_
      refine ev_tup ?_
      refine ea_cons ?_
      refine ev_bl ?_
      refine ea_cons ?_
      refine ev_bin ?_
      refine ev_bin ?_
      refine ev_name (i := 5) rfl ?_
      refine ev_name (i := 4) rfl ?_
      refine o_sub ?_
      refine ev_int ?_
      first | refine o_add ?_ | refine o_cat (by walk_at "sz") ?_
      refine ea_nil ?_
      refine ⟨by walk_at "sz", ?_⟩
      refine ea_nil ?_
      refine m_append (k := 0) rfl (by walk_at "sz") ?_
      refine es_cons (e1_set 3 ?_)
      refine ev_name (i := 5) rfl ?_
      refine es_nil ?_
      exact ⟨_, rfl, by walk_at "kn", by simp [blkF, hI1, enc_pair, enc_int, enc_bl]⟩
  · have hz : (row.foldl blkF ([], 0)).1.length + 2 < sizeLine := by
      have h1 := blk_len row ([], 0)
      simp at h1; rw [sizeLine_eq]; omega
    dsimp only
    refine es_cons (e1_if ?_)
    refine et_cmp (nomark _) ?_
    refine ev_name (i := 1) rfl ?_
    refine ev_name (i := 3) rfl ?_
    refine o_gt ?_
    refine isB.mk ?_
    refine if_d (fun hI2 => ?_) (fun hI2 => ?_)
    · refine es_cons (e1_expr ?_)
      refine ev_app ?_
      refine ev_name (i := 2) rfl ?_
      refine ⟨tyd_ptr (k := 0) rfl, ?_⟩
      refine ea_cons ?_
      refine ev_tup ?_
      refine ea_cons ?_
      refine ev_bl ?_
      refine ea_cons ?_
      refine ev_bin ?_
      refine ev_name (i := 1) rfl ?_
      refine ev_name (i := 3) rfl ?_
      refine o_sub ?_
      refine ea_nil ?_
      refine ⟨by walk_at "sz", ?_⟩
      refine ea_nil ?_
      refine m_append (k := 0) rfl (by walk_at "sz") ?_
      refine es_nil ?_
      refine es_freeze (k := 0) (i := 2) rfl rfl ?_
      refine es_cons (e1_ret ?_)
      refine ev_name (i := 2) rfl ?_
      exact ⟨_, by walk_at "dr", by simpa [blocks, hI2, enc_list, enc_pair, enc_int, enc_bl] using q⟩
    · refine es_nil ?_
      refine es_freeze (k := 0) (i := 2) rfl rfl ?_
      refine es_cons (e1_ret ?_)
      refine ev_name (i := 2) rfl ?_
      exact ⟨_, by walk_at "dr", by simpa [blocks, hI2, enc_list, enc_pair, enc_int, enc_bl] using q⟩
def C_row_of_blocks : Ct := mkC (fun x : Blk => [DE.enc x]) fun x M Q _ => x.length ≤ 1000000 ∧ Q (DE.enc (rowOf x)) M
abbrev s_row_of_blocks : Stmt := topS 14
theorem sc_row_of_blocks : FnScope ["blocks", "found", "behind", "shown", "many"] ["blocks"] (defScope s_row_of_blocks) := ⟨rfl, rfl, rfl, by decide +kernel, rfl, by decide +kernel, by decide +kernel⟩
theorem ok_row_of_blocks (B : Blt mg) (F : DfAt K mg "row_of_blocks" s_row_of_blocks ["blocks"])   : FnD P w K mg base 1 "row_of_blocks" C_row_of_blocks := by
  refine FnD.of F sc_row_of_blocks (fun x => rfl) (by decide) fun Z t M Q E hC ok po => ?_
  obtain ⟨hl, q⟩ := hC
  refine es_cons (e1_set 1 ?_)
  refine ev_lstm ?_
  refine ea_nil ?_
  refine ⟨by walk_at "sz", ?_⟩
  intro p_found
  refine es_cons (e1_set 2 ?_)
  refine ev_int ?_
  refine es_cons (e1_for ?_)
  refine ei_list ?_
  refine ev_name (i := 0) rfl ?_
  refine ⟨_, .lst _, ?_⟩
  refine forL_fold (α := Bool × Int) (S := Row × Int) DE.enc (fun s => [some (DE.enc t), some (.ptr p_found), some (.int s.2), none, none]) (fun s => (p_found, .lst (s.1.map DE.enc)) :: M) rowF t ([], 0) mono_es ?_ ?_
  · rintro ⟨b, m⟩ as s ⟨pre, he, hs⟩
    have hz : s.1.length + 1 < sizeLine := by
      have h1 := row_len pre ([], 0)
      have h2 := congrArg List.length he
      rw [hs]; simp at h1 h2; rw [sizeLine_eq]; omega
    dsimp only
    refine eg_tup ?_
    refine egs_cons ?_
    refine eg_name 3 ?_
    refine egs_cons ?_
    refine eg_name 4 ?_
    refine egs_nil ?_
    refine es_cons (e1_if ?_)
    refine et_w ?_
    apply ew_andP _ (lastIs s.1 s.2)
    · refine et_val ?_
      refine ev_name (i := 3) rfl ?_
      walk_at "tr"
      exact ⟨rfl, rfl⟩
    · intro hO1
      apply ew_andP _ (lastIs s.1 s.2)
      · refine et_cmp (nomark _) ?_
        refine ev_name (i := 1) rfl ?_
        refine ev_lst ?_
        refine ea_nil ?_
        refine ⟨by walk_at "sz", ?_⟩
        refine o_neN (k := 0) s.1 rfl ?_
        refine isB.mk ?_
        exact ⟨rfl, rfl⟩
      · intro hO2
        obtain ⟨l, z, e⟩ : ∃ l z, s.1 = l ++ [z] := by
          rcases List.eq_nil_or_concat s.1 with h | ⟨l, z, h⟩
          · rw [h] at hO2; simp at hO2
          · exact ⟨l, z, by simpa using h⟩
        refine ew_and1 ?_
        refine et_cmp (nomark _) ?_
        refine ev_ix (fun _ _ => rfl) ?_
        refine ev_ix (fun _ _ => rfl) ?_
        refine ev_name (i := 1) rfl ?_
        refine ev_un ?_
        refine ev_int ?_
        refine o_neg ?_
        refine x_ptr (k := 0) rfl (d := DE.enc z) (by rw [e, List.map_append]; exact atI_last _ _) ?_
        refine ev_int ?_
        first | refine x_tup (by walk_at "ix") ?_ | refine x_lst (by walk_at "ix") ?_ | refine x_scr (by walk_at "ix") ?_ | refine x_seq (by assumption) (by walk_at "ix") ?_
        refine ev_name (i := 2) rfl ?_
        first | refine o_eqI ?_ | refine o_eqB ?_ | refine o_eqS ?_
        refine isB.mk ?_
        exact ⟨by rw [e]; simp [lastIs], rfl⟩
      exact ⟨by cases h : s.1 <;> simp [lastIs], rfl⟩
    refine if_2 (fun hI1 => ?_) (fun hI1 => ?_)
    · have hb : b = true := by cases b <;> simp_all
      subst hb
      obtain ⟨l, z, e, hz2⟩ : ∃ l z, s.1 = l ++ [z] ∧ z.2 = s.2 := by
        rcases List.eq_nil_or_concat s.1 with h | ⟨l, z, h⟩
        · rw [h] at hI1; simp [lastIs] at hI1
        · refine ⟨l, z, by simpa using h, ?_⟩
          rw [h] at hI1; simpa [lastIs] using hI1
      refine es_cons (e1_asg ?_)
      refine ev_tup ?_
      refine ea_cons ?_
      refine ev_ix (fun _ _ => rfl) ?_
      refine ev_ix (fun _ _ => rfl) ?_
      refine ev_name (i := 1) rfl ?_
      refine ev_un ?_
      refine ev_int ?_
      refine o_neg ?_
      refine x_ptr (k := 0) rfl (d := DE.enc z) (by rw [e, List.map_append]; exact atI_last _ _) ?_
      refine ev_int ?_
      first | refine x_tup (by walk_at "ix") ?_ | refine x_lst (by walk_at "ix") ?_ | refine x_scr (by walk_at "ix") ?_ | refine x_seq (by assumption) (by walk_at "ix") ?_
      refine ea_cons ?_
      refine ev_bin ?_
      refine ev_name (i := 2) rfl ?_
      refine ev_name (i := 4) rfl ?_
      first | refine o_add ?_ | refine o_cat (by walk_at "sz") ?_
      refine ea_nil ?_
      refine ⟨by walk_at "sz", ?_⟩
      refine eg_sub ?_
      refine ev_name (i := 1) rfl ?_
      refine ev_un ?_
      refine ev_int ?_
      refine o_neg ?_
      refine opset_list (k := 0) (j := l.length) rfl (by rw [e]; unfold ixN; simp; omega) ?_
      refine es_nil ?_
      refine es_cons (e1_aug 2 rfl ?_)
      refine ev_name (i := 4) rfl ?_
      refine o_iadd ?_
      refine es_nil ?_
      exact ⟨_, rfl, by walk_at "kn", by first | (simp [rowF, lastOf, lastIs, e, hz2, enc_pair, enc_int]; done) | (dsimp only at hI1; simp only [rowF]; rw [hI1, hI2]; simp [enc_pair, enc_int]; done)⟩
    · refine es_cons (e1_if ?_)
      refine et_val ?_
      refine ev_name (i := 3) rfl ?_
      walk_at "tr"
      refine if_2 (fun hI2 => ?_) (fun hI2 => ?_)
      · have hI2 : b = true := hI2
        refine es_cons (e1_expr ?_)
        refine ev_app ?_
        refine ev_name (i := 1) rfl ?_
        refine ⟨tyd_ptr (k := 0) rfl, ?_⟩
        refine ea_cons ?_
        refine ev_tup ?_
        refine ea_cons ?_
        refine ev_bin ?_
        refine ev_name (i := 2) rfl ?_
        refine ev_int ?_
        first | refine o_add ?_ | refine o_cat (by walk_at "sz") ?_
        refine ea_cons ?_
        refine ev_bin ?_
        refine ev_name (i := 2) rfl ?_
        refine ev_name (i := 4) rfl ?_
        first | refine o_add ?_ | refine o_cat (by walk_at "sz") ?_
        refine ea_nil ?_
        refine ⟨by walk_at "sz", ?_⟩
        refine ea_nil ?_
        refine m_append (k := 0) rfl (by walk_at "sz") ?_
        refine es_nil ?_
        refine es_nil ?_
        refine es_cons (e1_aug 2 rfl ?_)
        refine ev_name (i := 4) rfl ?_
        refine o_iadd ?_
        refine es_nil ?_
        exact ⟨_, rfl, by walk_at "kn", by first | (simp [rowF, lastOf, lastIs, e, hz2, enc_pair, enc_int]; done) | (dsimp only at hI1; simp only [rowF]; rw [hI1, hI2]; simp [enc_pair, enc_int]; done)⟩
      · have hI2 : b = false := hI2
        refine es_nil ?_
        refine es_nil ?_
        refine es_cons (e1_aug 2 rfl ?_)
        refine ev_name (i := 4) rfl ?_
        refine o_iadd ?_
        refine es_nil ?_
        exact ⟨_, rfl, by walk_at "kn", by first | (simp [rowF, lastOf, lastIs, e, hz2, enc_pair, enc_int]; done) | (dsimp only at hI1; simp only [rowF]; rw [hI1, hI2]; simp [enc_pair, enc_int]; done)⟩
  · dsimp only
    refine es_freeze (k := 0) (i := 1) rfl rfl ?_
    refine es_cons (e1_ret ?_)
    refine ev_name (i := 1) rfl ?_
    exact ⟨_, by walk_at "dr", by simpa [rowOf, enc_list] using q⟩
def C_need_row : Ct := mkC (fun x : D => [x]) fun x M Q _ => (deepD x = true ∧ rowD x = true) ∧ Q .non M
abbrev s_need_row : Stmt := topS 15
theorem sc_need_row : FnScope ["thing"] ["thing"] (defScope s_need_row) := ⟨rfl, rfl, rfl, by decide +kernel, rfl, by decide +kernel, by decide +kernel⟩
theorem ok_need_row (B : Blt mg) (F : DfAt K mg "need_row" s_need_row ["thing"]) (h_is_row : FnD P w K mg base 3 "is_row" C_is_row)  : FnD P w K mg base 4 "need_row" C_need_row := by
  refine FnD.of F sc_need_row (fun x => rfl) (by decide) fun Z t M Q E hC ok po => ?_
  obtain ⟨⟨hd, hr⟩, q⟩ := hC
  refine es_cons (e1_if ?_)
  refine et_not ?_
  refine et_val ?_
  refine ev_call h_is_row ?_
  refine ea_cons ?_
  refine ev_name (i := 0) rfl ?_
  refine ea_nil ?_
  refine ⟨_, rfl, hd, ?_⟩
  walk_at "tr"
  refine if_f (by rw [hr]; rfl) ?_
  refine es_nil ?_
  refine es_nil ?_
  exact ⟨_, by walk_at "dr", q⟩
def C_ladder : Ct := mkC (fun x : Row × Int => [DE.enc x.1, .int x.2]) fun x M Q _ => (IsRow x.1 ∧ lastP x.1 ≤ x.2 ∧ x.1.length ≤ 1000000 ∧ ClOk (blocks x.1 x.2) (1, 1)) ∧ Q (DE.enc (climbs (blocks x.1 x.2) (1, 1))) M
theorem last_enc {row : Row} {l : Row} {z : Int × Int} (e : row = l ++ [z]) : atI (row.map DE.enc) (-1) = some (DE.enc z : D) := by rw [e, List.map_append]; exact atI_last _ _
theorem least_eq (row : Row) : (if decide ((0 : Int) < ((row.map (DE.enc : Int × Int → D)).length : Int)) = true then lastP row else 0) = lastP row := by
  cases row with
  | nil => rfl
  | cons a r => rw [if_pos]; simp
theorem climbs_app (b c : Blk) (r : Int × Int) : climbs (b ++ c) r = climbs c (climbs b r) := by unfold climbs; rw [List.foldl_append]
theorem ClOk.at : ∀ (b : Blk) (x : Bool × Int) (c : Blk) (r : Int × Int), ClOk (b ++ x :: c) r → ((x.1 = true → IntMulOk (2 * x.2) (climbs b r).2) ∧ (x.1 = false → IntMulOk (2 * x.2) (climbs b r).1))
  | [], (_, _), _, _, h => ⟨h.1, h.2.1⟩
  | (y1, y2) :: b, x, c, r, h => ClOk.at b x c _ h.2.2
abbrev s_ladder : Stmt := topS 16
theorem sc_ladder : FnScope ["row", "n", "least", "rungs", "shown", "many"] ["row", "n"] (defScope s_ladder) := ⟨rfl, rfl, rfl, by decide +kernel, rfl, by decide +kernel, by decide +kernel⟩
theorem ok_ladder (B : Blt mg) (F : DfAt K mg "ladder" s_ladder ["row", "n"]) (h_need_row : FnD P w K mg base 4 "need_row" C_need_row) (h_climbed : FnD P w K mg base 1 "climbed" C_climbed) (h_blocks_of : FnD P w K mg base 1 "blocks_of" C_blocks_of)  : FnD P w K mg base 5 "ladder" C_ladder := by
  refine FnD.of F sc_ladder (fun x => rfl) (by decide) fun Z t M Q E hC ok po => ?_
  obtain ⟨row, n⟩ := t
  obtain ⟨⟨hr, hn, hl, hc⟩, q⟩ := hC
  dsimp only at hr hn hl hc q ⊢
  refine es_cons (e1_expr ?_)
  refine ev_call h_need_row ?_
  refine ea_cons ?_
  refine ev_name (i := 0) rfl ?_
  refine ea_nil ?_
  refine ⟨_, rfl, ⟨deep_row row, row_ok hr⟩, ?_⟩
  refine es_cons (e1_set 2 ?_)
  apply ev_iteF (D.int) _ (lastP row) 0
  · refine et_cmp (nomark _) ?_
    refine ev_callB (id := "len") B.len (by decide +kernel) ?_
    refine ea_cons ?_
    refine ev_name (i := 0) rfl ?_
    refine ea_nil ?_
    first | refine c_lenL ?_ | refine c_lenT ?_ | refine c_lenS ?_ | refine c_lenX (by walk_at "sz") ?_
    refine ev_int ?_
    refine o_gt ?_
    refine isB.mk ?_
    exact ⟨rfl, rfl⟩
  · intro hX1
    obtain ⟨l, z, e⟩ : ∃ l z, row = l ++ [z] := by
      rcases List.eq_nil_or_concat row with h | ⟨l, z, h⟩
      · rw [h] at hX1; simp at hX1
      · exact ⟨l, z, by simpa using h⟩
    have el : lastP row = z.2 := by rw [e]; simp [lastP]
    refine ev_ix (fun _ _ => rfl) ?_
    refine ev_ix (fun _ _ => rfl) ?_
    refine ev_name (i := 0) rfl ?_
    refine ev_un ?_
    refine ev_int ?_
    refine o_neg ?_
    refine x_lst (last_enc e) ?_
    refine ev_int ?_
    first | refine x_tup (by walk_at "ix") ?_ | refine x_lst (by walk_at "ix") ?_ | refine x_scr (by walk_at "ix") ?_ | refine x_seq (by assumption) (by walk_at "ix") ?_
    exact ⟨by rw [el]; rfl, rfl⟩
  · intro hX1
    refine ev_int ?_
    exact ⟨rfl, rfl⟩
  refine es_cons (e1_if ?_)
  refine et_w ?_
  apply ew_orP _ _
  · refine et_not ?_
    refine et_val ?_
    refine ev_callB (id := "isinstance") B.isinstance (by decide +kernel) ?_
    refine ea_cons ?_
    refine ev_name (i := 1) rfl ?_
    refine ea_cons ?_
    refine ev_bltn (v := .ty "int") B.int (by decide +kernel) rfl (fun _ => rp_ty.mpr rfl) ?_
    refine ea_nil ?_
    refine c_isi (by walk_at "pl") (by decide) ?_
    walk_at "tr"
    exact ⟨rfl, rfl⟩
  · intro hO2
    apply ew_orP _ _
    · refine et_val ?_
      refine ev_callB (id := "isinstance") B.isinstance (by decide +kernel) ?_
      refine ea_cons ?_
      refine ev_name (i := 1) rfl ?_
      refine ea_cons ?_
      refine ev_bltn (v := .ty "bool") B.bool (by decide +kernel) rfl (fun _ => rp_ty.mpr rfl) ?_
      refine ea_nil ?_
      refine c_isi (by walk_at "pl") (by decide) ?_
      walk_at "tr"
      exact ⟨rfl, rfl⟩
    · intro hO3
      refine ew_or1 ?_
      refine et_cmp (nomark _) ?_
      refine ev_name (i := 1) rfl ?_
      refine ev_name (i := 2) rfl ?_
      refine o_lt ?_
      refine isB.mk ?_
      exact ⟨rfl, rfl⟩
    exact ⟨rfl, rfl⟩
  refine if_f (by rw [isT_int rfl, isT_bool rfl, least_eq]; simp [is_int, is_bool]; exact hn) ?_
  refine es_nil ?_
  refine es_cons (e1_set 3 ?_)
  refine ev_tup ?_
  refine ea_cons ?_
  refine ev_int ?_
  refine ea_cons ?_
  refine ev_int ?_
  refine ea_nil ?_
  refine ⟨by walk_at "sz", ?_⟩
  refine es_cons (e1_for ?_)
  refine ei_list ?_
  refine ev_call h_blocks_of ?_
  refine ea_cons ?_
  refine ev_name (i := 0) rfl ?_
  refine ea_cons ?_
  refine ev_name (i := 1) rfl ?_
  refine ea_nil ?_
  refine ⟨(row, n), rfl, hl, ?_⟩
  refine ⟨_, .lst _, ?_⟩
  rw [least_eq]
  refine forL_fold (α := Bool × Int) (S := Int × Int) DE.enc (fun s => [some (DE.enc row), some (.int n), some (.int (lastP row)), some (DE.enc s), none, none]) (fun s => M) (fun r p => climb r p.1 p.2) (blocks row n) (1, 1) mono_es ?_ ?_
  · rintro ⟨b, m⟩ as s ⟨pre, he, hs⟩
    have hm := ClOk.at pre (b, m) as (1, 1) (by rw [← he]; exact hc)
    dsimp only
    refine eg_tup ?_
    refine egs_cons ?_
    refine eg_name 4 ?_
    refine egs_cons ?_
    refine eg_name 5 ?_
    refine egs_nil ?_
    refine es_cons (e1_set 3 ?_)
    refine ev_call h_climbed ?_
    refine ea_cons ?_
    refine ev_name (i := 3) rfl ?_
    refine ea_cons ?_
    refine ev_name (i := 4) rfl ?_
    refine ea_cons ?_
    refine ev_name (i := 5) rfl ?_
    refine ea_nil ?_
    refine ⟨(s, b, m), rfl, by rw [hs]; exact hm, ?_⟩
    refine es_nil ?_
    exact ⟨_, rfl, by walk_at "kn", rfl⟩
  · refine es_cons (e1_ret ?_)
    refine ev_name (i := 3) rfl ?_
    exact ⟨_, by walk_at "dr", q⟩
def C_way_of : Ct := mkC (fun x : Row => [DE.enc x]) fun x M Q _ => (IsRow x ∧ x.length ≤ 1000000 ∧ ClOk (blocks x (lastP x)) (1, 1)) ∧ Q (.int ((climbs (blocks x (lastP x)) (1, 1)).1 - 1)) M
abbrev s_way_of : Stmt := topS 17
theorem sc_way_of : FnScope ["row"] ["row"] (defScope s_way_of) := ⟨rfl, rfl, rfl, by decide +kernel, rfl, by decide +kernel, by decide +kernel⟩
theorem ok_way_of (B : Blt mg) (F : DfAt K mg "way_of" s_way_of ["row"]) (h_need_row : FnD P w K mg base 4 "need_row" C_need_row) (h_ladder : FnD P w K mg base 5 "ladder" C_ladder)  : FnD P w K mg base 6 "way_of" C_way_of := by
  refine FnD.of F sc_way_of (fun x => rfl) (by decide) fun Z t M Q E hC ok po => ?_
  obtain ⟨⟨hr, hl, hc⟩, q⟩ := hC
  obtain ⟨row, rfl⟩ : ∃ r, r = t := ⟨t, rfl⟩
  refine es_cons (e1_expr ?_)
  refine ev_call h_need_row ?_
  refine ea_cons ?_
  refine ev_name (i := 0) rfl ?_
  refine ea_nil ?_
  refine ⟨_, rfl, ⟨deep_row row, row_ok hr⟩, ?_⟩
  refine es_cons (e1_ret ?_)
  refine ev_bin ?_
  refine ev_ix (fun _ _ => rfl) ?_
  refine ev_call h_ladder ?_
  refine ea_cons ?_
  refine ev_name (i := 0) rfl ?_
  refine ea_cons ?_
  apply ev_iteF (D.int) _ (lastP row) 0
  · refine et_cmp (nomark _) ?_
    refine ev_callB (id := "len") B.len (by decide +kernel) ?_
    refine ea_cons ?_
    refine ev_name (i := 0) rfl ?_
    refine ea_nil ?_
    first | refine c_lenL ?_ | refine c_lenT ?_ | refine c_lenS ?_ | refine c_lenX (by walk_at "sz") ?_
    refine ev_int ?_
    refine o_gt ?_
    refine isB.mk ?_
    exact ⟨rfl, rfl⟩
  · intro hX1
    obtain ⟨l, z, e⟩ : ∃ l z, row = l ++ [z] := by
      rcases List.eq_nil_or_concat row with h | ⟨l, z, h⟩
      · rw [h] at hX1; simp at hX1
      · exact ⟨l, z, by simpa using h⟩
    have el : lastP row = z.2 := by rw [e]; simp [lastP]
    refine ev_ix (fun _ _ => rfl) ?_
    refine ev_ix (fun _ _ => rfl) ?_
    refine ev_name (i := 0) rfl ?_
    refine ev_un ?_
    refine ev_int ?_
    refine o_neg ?_
    refine x_lst (last_enc e) ?_
    refine ev_int ?_
    first | refine x_tup (by walk_at "ix") ?_ | refine x_lst (by walk_at "ix") ?_ | refine x_scr (by walk_at "ix") ?_ | refine x_seq (by assumption) (by walk_at "ix") ?_
    exact ⟨by rw [el]; rfl, rfl⟩
  · intro hX1
    refine ev_int ?_
    exact ⟨rfl, rfl⟩
  refine ea_nil ?_
  rw [least_eq]
  refine ⟨(row, lastP row), rfl, ⟨hr, Int.le_refl _, hl, hc⟩, ?_⟩
  refine ev_int ?_
  first | refine x_tup (by walk_at "ix") ?_ | refine x_lst (by walk_at "ix") ?_ | refine x_scr (by walk_at "ix") ?_ | refine x_seq (by assumption) (by walk_at "ix") ?_
  refine ev_int ?_
  refine o_sub ?_
  exact ⟨_, by walk_at "dr", q⟩
def C_need_number : Ct := mkC (fun x : Int => [.int x]) fun x M Q _ => 1 ≤ x ∧ Q .non M
abbrev s_need_number : Stmt := topS 18
theorem sc_need_number : FnScope ["thing"] ["thing"] (defScope s_need_number) := ⟨rfl, rfl, rfl, by decide +kernel, rfl, by decide +kernel, by decide +kernel⟩
theorem ok_need_number (B : Blt mg) (F : DfAt K mg "need_number" s_need_number ["thing"])   : FnD P w K mg base 1 "need_number" C_need_number := by
  refine FnD.of F sc_need_number (fun x => rfl) (by decide) fun Z t M Q E hC ok po => ?_
  obtain ⟨h1, q⟩ := hC
  refine es_cons (e1_if ?_)
  refine et_w ?_
  apply ew_orP _ _
  · refine et_not ?_
    refine et_val ?_
    refine ev_callB (id := "isinstance") B.isinstance (by decide +kernel) ?_
    refine ea_cons ?_
    refine ev_name (i := 0) rfl ?_
    refine ea_cons ?_
    refine ev_bltn (v := .ty "int") B.int (by decide +kernel) rfl (fun _ => rp_ty.mpr rfl) ?_
    refine ea_nil ?_
    refine c_isi (by walk_at "pl") (by decide) ?_
    walk_at "tr"
    exact ⟨rfl, rfl⟩
  · intro hO1
    apply ew_orP _ _
    · refine et_val ?_
      refine ev_callB (id := "isinstance") B.isinstance (by decide +kernel) ?_
      refine ea_cons ?_
      refine ev_name (i := 0) rfl ?_
      refine ea_cons ?_
      refine ev_bltn (v := .ty "bool") B.bool (by decide +kernel) rfl (fun _ => rp_ty.mpr rfl) ?_
      refine ea_nil ?_
      refine c_isi (by walk_at "pl") (by decide) ?_
      walk_at "tr"
      exact ⟨rfl, rfl⟩
    · intro hO2
      refine ew_or1 ?_
      refine et_cmp (nomark _) ?_
      refine ev_name (i := 0) rfl ?_
      refine ev_int ?_
      refine o_lt ?_
      refine isB.mk ?_
      exact ⟨rfl, rfl⟩
    exact ⟨rfl, rfl⟩
  refine if_f (by rw [isT_int rfl, isT_bool rfl]; simp [is_int, is_bool]; omega) ?_
  refine es_nil ?_
  refine es_nil ?_
  exact ⟨_, by walk_at "dr", q⟩
/-- the numbers stay below a bound -/
def SzB (bs : Blk) : Prop := ∀ a b, bs = a ++ b → (climbs a (1, 1)).1 < 2 ^ 8000 ∧ (climbs a (1, 1)).2 < 2 ^ 8000
def C_row_by : Ct := mkC (fun x : Blk => [.int (climbs x (1, 1)).1, .int (climbs x (1, 1)).2]) fun x M Q _ => (AltB none x ∧ SzB x ∧ x.length ≤ 1000000 ∧ (rowOf x).length ≤ 50) ∧ Q (DE.enc (rowOf x, (x.map (·.2)).sum)) M
abbrev s_row_by : Stmt := topS 19
theorem sc_row_by : FnScope ["one", "other", "blocks", "shown", "many", "row"] ["one", "other"] (defScope s_row_by) := ⟨rfl, rfl, rfl, by decide +kernel, rfl, by decide +kernel, by decide +kernel⟩
theorem ok_row_by (B : Blt mg) (F : DfAt K mg "row_by" s_row_by ["one", "other"]) (h_need_number : FnD P w K mg base 1 "need_number" C_need_number) (h_row_of_blocks : FnD P w K mg base 1 "row_of_blocks" C_row_of_blocks) (g_MOST : ∃ tk, mg "MOST_STRETCHES" = some (.int 50 tk)) : FnD P w K mg base 7 "row_by" C_row_by := by
  refine FnD.of F sc_row_by (fun x => rfl) (by decide) fun Z t M Q E hC ok po => ?_
  obtain ⟨⟨ha, hz, hl, h50⟩, q⟩ := hC
  have o0 := climbs_ord _ t rfl ha
  obtain ⟨tk, g_MOST⟩ := g_MOST
  have g_MOST_STRETCHES := And.intro g_MOST (gv_int (K := K) (i := 50) (t := tk))
  refine es_cons (e1_expr ?_)
  refine ev_call h_need_number ?_
  refine ea_cons ?_
  refine ev_name (i := 0) rfl ?_
  refine ea_nil ?_
  refine ⟨_, rfl, o0.1, ?_⟩
  refine es_cons (e1_expr ?_)
  refine ev_call h_need_number ?_
  refine ea_cons ?_
  refine ev_name (i := 1) rfl ?_
  refine ea_nil ?_
  refine ⟨_, rfl, o0.2.1, ?_⟩
  refine es_cons (e1_set 2 ?_)
  refine ev_lstm ?_
  refine ea_nil ?_
  refine ⟨by walk_at "sz", ?_⟩
  intro p_blocks
  refine es_cons ?_
  refine e1_whileI (S := Blk × Blk) (fun s => [some (.int (climbs s.1 (1, 1)).1), some (.int (climbs s.1 (1, 1)).2), some (.ptr p_blocks), none, none, none]) (fun s => (p_blocks, .lst (s.2.map DE.enc)) :: M) (fun s => t = s.1 ++ s.2.reverse) (fun s => s.1.length) (t, []) mono_es (by simp) ?_
  intro s hs
  have hsl : s.1.length + s.2.length = t.length := by rw [hs]; simp
  have has := AltB.app (cs := s.2.reverse) (by rw [← hs]; exact ha)
  obtain ⟨rem, acc⟩ := s
  dsimp only at hs hsl has ⊢
  refine et_cmp (nomark _) ?_
  refine ev_name (i := 0) rfl ?_
  refine ev_name (i := 1) rfl ?_
  first | refine o_neI ?_ | refine o_neB ?_ | refine o_neS ?_
  refine isB.mk ?_
  refine if_2 (fun hW1t => ?_) (fun hW1t => ?_)
  · rcases List.eq_nil_or_concat rem with e | ⟨cs, ⟨b, m⟩, e⟩
    · rw [e] at hW1t; simp [climbs] at hW1t
    rw [List.concat_eq_append] at e
    subst e
    have hd := climb_down has
    have hz2 : acc.length + 1 < sizeLine := by rw [sizeLine_eq]; simp at hsl; omega
    have z1 := hz (cs ++ [(b, m)]) acc.reverse hs
    have hmu : cs.length < (cs ++ [(b, m)]).length := by simp
    generalize hx : climbs cs (1, 1) = x at hd
    generalize hr : climbs (cs ++ [(b, m)]) (1, 1) = r at hd hW1t z1 ⊢
    dsimp only at hd
    obtain ⟨d1, d2, d3, d4, d5, d6, d7, d8, d9, d10⟩ := hd
    obtain ⟨k1, k2, k3, k4, k5, k6⟩ := down_ok d3 d4 d5 d6 d7 d9 d10 z1.1 z1.2
    refine es_cons (e1_set 3 ?_)
    refine ev_cmp (nomark _) ?_
    refine ev_name (i := 0) rfl ?_
    refine ev_name (i := 1) rfl ?_
    refine o_gt ?_
    refine es_cons (e1_set 4 ?_)
    refine ev_bin ?_
    refine ev_bin ?_
    refine ev_callB (id := "max") B.max (by decide +kernel) ?_
    refine ea_cons ?_
    refine ev_name (i := 0) rfl ?_
    refine ea_cons ?_
    refine ev_name (i := 1) rfl ?_
    refine ea_nil ?_
    refine c_max2 ?_
    refine ev_int ?_
    refine o_sub ?_
    refine ev_bin ?_
    refine ev_int ?_
    refine ev_callB (id := "min") B.min (by decide +kernel) ?_
    refine ea_cons ?_
    refine ev_name (i := 0) rfl ?_
    refine ea_cons ?_
    refine ev_name (i := 1) rfl ?_
    refine ea_nil ?_
    refine c_min2 ?_
    first | refine o_mul (by walk_at "mul") ?_ | refine o_rep (by walk_at "sd") (by walk_at "sd") (by walk_at "sz") ?_
    refine o_div (by walk_at "sd") (by walk_at "db") ?_
    rw [d1, d8]
    refine es_cons (e1_if ?_)
    refine et_cmp (nomark _) ?_
    refine ev_name (i := 4) rfl ?_
    refine ev_int ?_
    first | refine o_eqI ?_ | refine o_eqB ?_ | refine o_eqS ?_
    refine isB.mk ?_
    refine if_f (by simp; omega) ?_
    refine es_nil ?_
    refine es_cons (e1_expr ?_)
    refine ev_app ?_
    refine ev_name (i := 2) rfl ?_
    refine ⟨tyd_ptr (k := 0) rfl, ?_⟩
    refine ea_cons ?_
    refine ev_tup ?_
    refine ea_cons ?_
    refine ev_name (i := 3) rfl ?_
    refine ea_cons ?_
    refine ev_name (i := 4) rfl ?_
    refine ea_nil ?_
    refine ⟨by walk_at "sz", ?_⟩
    refine ea_nil ?_
    refine m_append (k := 0) rfl (by walk_at "sz") ?_
    skip
    refine es_cons (e1_asg ?_)
    apply ev_iteF (DE.enc (α := Int × Int)) _ x x
    · refine et_val ?_
      refine ev_name (i := 3) rfl ?_
      walk_at "tr"
      exact ⟨rfl, rfl⟩
    · intro hX1
      have k7 := k5 hX1
      refine ev_tup ?_
      refine ea_cons ?_
      refine ev_bin ?_
      refine ev_name (i := 0) rfl ?_
      refine ev_bin ?_
      refine ev_bin ?_
      refine ev_int ?_
      refine ev_name (i := 4) rfl ?_
      first | refine o_mul (by walk_at "mul") ?_ | refine o_rep (by walk_at "sd") (by walk_at "sd") (by walk_at "sz") ?_
      refine ev_name (i := 1) rfl ?_
      first | refine o_mul (by walk_at "mul") ?_ | refine o_rep (by walk_at "sd") (by walk_at "sd") (by walk_at "sz") ?_
      refine o_sub ?_
      refine ea_cons ?_
      refine ev_name (i := 1) rfl ?_
      refine ea_nil ?_
      refine ⟨by walk_at "sz", ?_⟩
      exact ⟨by rw [(d9 hX1).1]; rfl, rfl⟩
    · intro hX1
      have k7 := k6 hX1
      refine ev_tup ?_
      refine ea_cons ?_
      refine ev_name (i := 0) rfl ?_
      refine ea_cons ?_
      refine ev_bin ?_
      refine ev_name (i := 1) rfl ?_
      refine ev_bin ?_
      refine ev_bin ?_
      refine ev_int ?_
      refine ev_name (i := 4) rfl ?_
      first | refine o_mul (by walk_at "mul") ?_ | refine o_rep (by walk_at "sd") (by walk_at "sd") (by walk_at "sz") ?_
      refine ev_name (i := 0) rfl ?_
      first | refine o_mul (by walk_at "mul") ?_ | refine o_rep (by walk_at "sd") (by walk_at "sd") (by walk_at "sz") ?_
      refine o_sub ?_
      refine ea_nil ?_
      refine ⟨by walk_at "sz", ?_⟩
      exact ⟨by rw [(d10 hX1).1]; rfl, rfl⟩
    refine eg_tup ?_
    refine egs_cons ?_
    refine eg_name 0 ?_
    refine egs_cons ?_
    refine eg_name 1 ?_
    refine egs_nil ?_
    refine es_nil ?_
    exact ⟨(cs, acc ++ [(b, m)]), ⟨by rw [hs]; simp, hmu⟩, by dsimp only; rw [hx]; simp only [ite_self]; walk_at "kn", by simp [enc_pair, enc_int, enc_bl]⟩
  · have er : rem = [] := climbs_same has (by simpa using hW1t)
    subst er
    have hs : t = acc.reverse := hs
    have hz3 : acc.length ≤ sizeLine := by rw [sizeLine_eq]; simp at hsl; omega
    refine es_cons (e1_if ?_)
    refine et_cmp (nomark _) ?_
    refine ev_name (i := 0) rfl ?_
    refine ev_int ?_
    first | refine o_neI ?_ | refine o_neB ?_ | refine o_neS ?_
    refine isB.mk ?_
    refine if_f (by simp [climbs]) ?_
    refine es_nil ?_
    refine es_cons (e1_set 5 ?_)
    refine ev_call h_row_of_blocks ?_
    refine ea_cons ?_
    refine ev_rev ?_
    refine ev_name (i := 2) rfl ?_
    refine .inr ⟨0, _, _, rfl, rfl, ?_⟩
    refine ea_nil ?_
    refine ⟨t, by rw [hs]; simp [enc_list], hl, ?_⟩
    refine es_cons (e1_if ?_)
    refine et_cmp (nomark _) ?_
    refine ev_callB (id := "len") B.len (by decide +kernel) ?_
    refine ea_cons ?_
    refine ev_name (i := 5) rfl ?_
    refine ea_nil ?_
    first | refine c_lenL ?_ | refine c_lenT ?_ | refine c_lenS ?_ | refine c_lenX (by walk_at "sz") ?_
    refine ev_glob g_MOST_STRETCHES.1 g_MOST_STRETCHES.2 ?_
    refine o_gt ?_
    refine isB.mk ?_
    refine if_f (by simp; omega) ?_
    refine es_nil ?_
    refine es_freeze (k := 0) (i := 2) rfl rfl ?_
    refine es_cons (e1_ret ?_)
    refine ev_tup ?_
    refine ea_cons ?_
    refine ev_name (i := 5) rfl ?_
    refine ea_cons ?_
    refine ev_callB (id := "sum") B.sum (by decide +kernel) ?_
    refine ea_cons ?_
    refine ev_lc (.two 3 4) (own := [("shown", 3), ("many", 4)]) (blkOk_by (N := ["one", "other", "blocks", "shown", "many", "row"]) (sc := defScope s_row_by) (by decide +kernel)) rfl (fun _ _ _ _ _ => pg_tup rfl (pgs_cons (pg_name (i := 3) ok.nd rfl (by first | exact Or.inl rfl | exact Or.inr rfl)) (pgs_cons (pg_name (i := 4) ok.nd rfl (by first | exact Or.inl rfl | exact Or.inr rfl)) pgs_nil))) ?_
    refine ei_list ?_
    refine ev_name (i := 2) rfl ?_
    refine ⟨_, .lst _, ?_⟩
    refine lcL_map DE.enc (fun p : Bool × Int => p.2) D.int _ acc (fun p => ⟨_, _, rfl, rfl⟩) hz3 ?_ ?_
    · intro a ha s H C cl fp
      refine ev_name (i := 4) rfl ?_
      exact ⟨rfl, rfl⟩
    refine ea_nil ?_
    refine c_sum ?_
    refine ea_nil ?_
    refine ⟨by walk_at "sz", ?_⟩
    exact ⟨_, by walk_at "dr", by rw [hs, List.map_reverse, sum_rev] at q; rw [hs]; simpa [enc_pair, enc_int] using q⟩
end
end TD

namespace TD
open PySem PySem.Spec PyProof.Rows L2
local macro_rules | `(tactic| walk_at "sd") => `(tactic| first | omega | decide | assumption)
local macro_rules | `(tactic| walk_at "sz") => `(tactic| first | decide | assumption | (simp only [List.length_append, List.length_map, List.length_cons, List.length_nil, sizeLine_eq] at *; omega))
local macro_rules | `(tactic| walk_at "mul") => `(tactic| first | exact mulOkL (by omega) | exact mulOkR (by omega) | exact mulOkL (by decide) | exact mulOkR (by decide) | assumption)
local macro_rules | `(tactic| walk_at "db") => `(tactic| first | decide | exact db_of (by omega) (by omega) | assumption)
local macro_rules | `(tactic| walk_at "ix") => `(tactic| first | rfl | exact atI_lastD _ _ | assumption)
local macro_rules | `(tactic| walk_at "ixn") => `(tactic| first | rfl | assumption)
local macro_rules | `(tactic| walk_at "dr") => `(tactic| repeat (first | exact List.Sublist.refl _ | refine List.Sublist.cons _ ?_))
local macro_rules | `(tactic| walk_at "kn") => `(tactic| repeat (first | exact Kn.nil | refine Kn.cons ?_ | refine Kn.lose ?_))
local macro_rules | `(tactic| walk_at "fin") => `(tactic| first | assumption | trivial)
local macro_rules | `(tactic| walk_at "tr") => `(tactic| first | refine t_bl ?_ | refine t_int ?_)
local macro_rules | `(tactic| walk_at "pl") => `(tactic| first | assumption | rfl)

local macro_rules | `(tactic| walk_at "om") => `(tactic| first | omega | (dsimp only; omega))
local macro_rules | `(tactic| walk_at "sd") => `(tactic| first | omega | decide +kernel | assumption | (dsimp only; omega))
theorem mod_db {x j : Int} {n : Nat} (h0 : 0 < j) (h : j ≤ 2 ^ n) : (x % j).natAbs < 2 ^ n := by
  have h1 := Int.emod_nonneg x (show j ≠ 0 by omega)
  have h2 := Int.emod_lt_of_pos x h0
  have e : (2 : Int) ^ n = ((2 ^ n : Nat) : Int) := by rw [Int.natCast_pow]; rfl
  rw [e] at h
  generalize 2 ^ n = N at *
  omega
theorem db2_of {j : Int} (h0 : -(2 ^ 150) < j) (h : j < 2 ^ 150) : j.natAbs < 2 ^ 200 := by
  have : j.natAbs < 2 ^ 150 := by omega
  exact Nat.lt_of_lt_of_le this (Nat.pow_le_pow_right (by decide) (by decide))
theorem add_db {x j z : Int} (h0 : 0 < j) (h : j ≤ 2 ^ 140) (h1 : 0 ≤ z) (h2 : z < 2 ^ 140) : (x % j + z).natAbs < 2 ^ 200 := by
  have h3 := Int.emod_nonneg x (show j ≠ 0 by omega)
  have h4 := Int.emod_lt_of_pos x h0
  exact db2_of (by omega) (by omega)
local macro_rules | `(tactic| walk_at "db") => `(tactic| first | decide +kernel | exact db_of (by walk_at "om") (by walk_at "om") | exact mod_db (by decide +kernel) (by decide +kernel) | exact db2_of (by walk_at "om") (by walk_at "om") | exact add_db (by decide +kernel) (by decide +kernel) (by walk_at "om") (by walk_at "om") | assumption)
local macro_rules | `(tactic| walk_at "mul") => `(tactic| first | exact mulOkL (by walk_at "om") | exact mulOkR (by walk_at "om") | exact mulOkL (by decide) | exact mulOkR (by decide) | assumption | exact mulOk (a := 200) (b := 200) (by walk_at "db") (by walk_at "db") (by decide))
section
variable {P : Program} {w : World} {K : PySem.W.Frag} {mg : Str → Option Value} {base : Heap}
/-- the law's bag: two numbers and how often drawn -/
abbrev Bg := Int × Int × Nat
def bgO (x : Bg) : MO := .lst [.int x.1, .int x.2.1, .int (x.2.2 : Nat)]
def C_law_bag : Ct := mkC (fun x : Int × Int => [.int x.1, .int x.2]) fun x M Q _ => (0 ≤ x.2 ∧ x.2 < 2 ^ 60) ∧ ∀ p a b, Q (.ptr p) ((p, bgO (a, b, 0)) :: M)
abbrev s_law_bag : Stmt := topS 21
theorem sc_law_bag : FnScope ["cell", "bout", "size"] ["cell", "bout"] (defScope s_law_bag) := ⟨rfl, rfl, rfl, by decide +kernel, rfl, by decide +kernel, by decide +kernel⟩
theorem ok_law_bag (B : Blt mg) (F : DfAt K mg "_law_bag" s_law_bag ["cell", "bout"])   : FnD P w K mg base 1 "_law_bag" C_law_bag := by
  refine FnD.of F sc_law_bag (fun x => rfl) (by decide) fun Z t M Q E hC ok po => ?_
  obtain ⟨⟨h0, h1⟩, q⟩ := hC
  refine es_cons (e1_set 2 ?_)
  refine ev_callB (id := "max") B.max (by decide +kernel) ?_
  refine ea_cons ?_
  refine ev_name (i := 0) rfl ?_
  refine ea_cons ?_
  refine ev_bin ?_
  refine ev_int ?_
  refine ev_name (i := 0) rfl ?_
  refine o_sub ?_
  refine ea_nil ?_
  refine c_max2 ?_
  refine es_cons (e1_ret ?_)
  refine ev_lstm ?_
  refine ea_cons ?_
  refine ev_callB (id := "max") B.max (by decide +kernel) ?_
  refine ea_cons ?_
  refine ev_int ?_
  refine ea_cons ?_
  refine ev_bin ?_
  refine ev_name (i := 2) rfl ?_
  refine ev_bin ?_
  refine ev_int ?_
  refine ev_int ?_
  refine o_pow (b := 200) (by walk_at "db") (by walk_at "sd") (by walk_at "sd") ?_
  refine o_sub ?_
  refine ea_nil ?_
  refine c_max2 ?_
  refine ea_cons ?_
  refine ev_bin ?_
  refine ev_bin ?_
  refine ev_bin ?_
  refine ev_name (i := 0) rfl ?_
  refine ev_int ?_
  first | refine o_mul (by walk_at "mul") ?_ | refine o_rep (by walk_at "sd") (by walk_at "sd") (by walk_at "sz") ?_
  refine ev_bin ?_
  refine ev_bin ?_
  refine ev_int ?_
  refine ev_int ?_
  refine o_pow (b := 200) (by walk_at "db") (by walk_at "sd") (by walk_at "sd") ?_
  refine ev_bin ?_
  refine ev_name (i := 1) rfl ?_
  refine ev_int ?_
  first | refine o_add ?_ | refine o_cat (by walk_at "sz") ?_
  first | refine o_mul (by walk_at "mul") ?_ | refine o_rep (by walk_at "sd") (by walk_at "sd") (by walk_at "sz") ?_
  first | refine o_add ?_ | refine o_cat (by walk_at "sz") ?_
  refine ev_bin ?_
  refine ev_bin ?_
  refine ev_int ?_
  refine ev_int ?_
  refine o_pow (b := 200) (by walk_at "db") (by walk_at "sd") (by walk_at "sd") ?_
  refine ev_int ?_
  first | refine o_add ?_ | refine o_cat (by walk_at "sz") ?_
  refine o_mod (by walk_at "sd") ?_
  refine ea_cons ?_
  refine ev_int ?_
  refine ea_nil ?_
  refine ⟨by walk_at "sz", ?_⟩
  exact fun p => ⟨_, by walk_at "dr", q p _ _⟩
def C_law_draw : Ct := mkC (fun x : Addr × Bg × Int × Mu => [.ptr x.1, .int x.2.2.1]) fun x M Q _ => (M = (x.1, bgO x.2.1) :: x.2.2.2 ∧ x.2.1.2.2 < 2 ^ 60 ∧ 1 ≤ x.2.2.1 ∧ x.2.2.1 < 2 ^ 200) ∧ ∀ r y, 0 ≤ r → r < x.2.2.1 → y.2.2 ≤ x.2.1.2.2 + 1 → Q (.int r) ((x.1, bgO y) :: x.2.2.2)
theorem C_law_draw.mk {p : Addr} {y : Bg} {m : Int} {M0 : Mu} {Q : D → Mu → Prop} {E : WC} (hc : y.2.2 < 2 ^ 60) (h1 : 1 ≤ m) (h2 : m < 2 ^ 200) (q : ∀ r z, 0 ≤ r → r < m → z.2.2 ≤ y.2.2 + 1 → Q (.int r) ((p, bgO z) :: M0)) : C_law_draw [.ptr p, .int m] ((p, bgO y) :: M0) Q E := ⟨(p, y, m, M0), rfl, ⟨rfl, hc, h1, h2⟩, q⟩
abbrev s_law_draw : Stmt := topS 22
theorem sc_law_draw : FnScope ["bag", "many", "found", "mixed"] ["bag", "many"] (defScope s_law_draw) := ⟨rfl, rfl, rfl, by decide +kernel, rfl, by decide +kernel, by decide +kernel⟩
theorem ok_law_draw (B : Blt mg) (F : DfAt K mg "_law_draw" s_law_draw ["bag", "many"])   : FnD P w K mg base 1 "_law_draw" C_law_draw := by
  refine FnD.of F sc_law_draw (fun x => rfl) (by decide) fun Z t M Q E hC ok po => ?_
  obtain ⟨p, ⟨a, b, c⟩, m, M0⟩ := t
  obtain ⟨⟨e, hc, h1, h2⟩, q⟩ := hC
  dsimp only at e hc h1 h2 q ⊢
  subst e
  refine es_cons (e1_if ?_)
  refine et_cmp (nomark _) ?_
  refine ev_ix (fun _ _ => rfl) ?_
  refine ev_name (i := 0) rfl ?_
  refine ev_int ?_
  refine x_ptr (k := 0) rfl (by walk_at "ix") ?_
  refine ev_int ?_
  refine o_gt ?_
  refine isB.mk ?_
  refine if_2 (fun hI1 => ?_) (fun hI1 => ?_)
  · refine es_cons (e1_set 2 ?_)
    refine ev_bin ?_
    refine ev_ix (fun _ _ => rfl) ?_
    refine ev_name (i := 0) rfl ?_
    refine ev_int ?_
    refine x_ptr (k := 0) rfl (by walk_at "ix") ?_
    refine ev_name (i := 1) rfl ?_
    refine o_mod (by walk_at "sd") ?_
    refine es_cons (e1_asg ?_)
    refine ev_bin ?_
    refine ev_ix (fun _ _ => rfl) ?_
    refine ev_name (i := 0) rfl ?_
    refine ev_int ?_
    refine x_ptr (k := 0) rfl (by walk_at "ix") ?_
    refine ev_name (i := 1) rfl ?_
    refine o_div (by walk_at "sd") (by walk_at "db") ?_
    refine eg_sub ?_
    refine ev_name (i := 0) rfl ?_
    refine ev_int ?_
    refine opset_list (k := 0) rfl (by walk_at "ixn") ?_
    refine es_cons (e1_ret ?_)
    refine ev_name (i := 2) rfl ?_
    exact ⟨_, by walk_at "dr", q _ (a / m, b, c) (Int.emod_nonneg _ (by omega)) (Int.emod_lt_of_pos _ (by omega)) (by simp)⟩
  · refine es_nil ?_
    refine es_cons (e1_asg ?_)
    refine ev_bin ?_
    refine ev_ix (fun _ _ => rfl) ?_
    refine ev_name (i := 0) rfl ?_
    refine ev_int ?_
    refine x_ptr (k := 0) rfl (by walk_at "ix") ?_
    refine ev_int ?_
    first | refine o_add ?_ | refine o_cat (by walk_at "sz") ?_
    refine eg_sub ?_
    refine ev_name (i := 0) rfl ?_
    refine ev_int ?_
    refine opset_list (k := 0) rfl (by walk_at "ixn") ?_
    refine es_cons (e1_set 3 ?_)
    refine ev_bin ?_
    refine ev_bin ?_
    refine ev_ix (fun _ _ => rfl) ?_
    refine ev_name (i := 0) rfl ?_
    refine ev_int ?_
    refine x_ptr (k := 0) rfl (by walk_at "ix") ?_
    refine ev_bin ?_
    refine ev_ix (fun _ _ => rfl) ?_
    refine ev_name (i := 0) rfl ?_
    refine ev_int ?_
    refine x_ptr (k := 0) rfl (by walk_at "ix") ?_
    refine ev_bin ?_
    refine ev_int ?_
    refine ev_int ?_
    refine o_pow (b := 200) (by walk_at "db") (by walk_at "sd") (by walk_at "sd") ?_
    first | refine o_mul (by walk_at "mul") ?_ | refine o_rep (by walk_at "sd") (by walk_at "sd") (by walk_at "sz") ?_
    first | refine o_add ?_ | refine o_cat (by walk_at "sz") ?_
    refine ev_bin ?_
    refine ev_bin ?_
    refine ev_int ?_
    refine ev_int ?_
    refine o_pow (b := 200) (by walk_at "db") (by walk_at "sd") (by walk_at "sd") ?_
    refine ev_int ?_
    first | refine o_add ?_ | refine o_cat (by walk_at "sz") ?_
    refine o_mod (by walk_at "sd") ?_
    refine es_cons (e1_set 3 ?_)
    refine ev_bin ?_
    refine ev_bin ?_
    refine ev_bin ?_
    refine ev_name (i := 3) rfl ?_
    refine ev_int ?_
    refine o_pow (b := 200) (by walk_at "db") (by walk_at "sd") (by walk_at "sd") ?_
    refine ev_bin ?_
    refine ev_bin ?_
    refine ev_int ?_
    refine ev_int ?_
    refine o_pow (b := 200) (by walk_at "db") (by walk_at "sd") (by walk_at "sd") ?_
    refine ev_int ?_
    first | refine o_add ?_ | refine o_cat (by walk_at "sz") ?_
    refine o_mod (by walk_at "sd") ?_
    refine ev_bin ?_
    refine ev_ix (fun _ _ => rfl) ?_
    refine ev_name (i := 0) rfl ?_
    refine ev_int ?_
    refine x_ptr (k := 0) rfl (by walk_at "ix") ?_
    refine ev_int ?_
    first | refine o_mul (by walk_at "mul") ?_ | refine o_rep (by walk_at "sd") (by walk_at "sd") (by walk_at "sz") ?_
    first | refine o_add ?_ | refine o_cat (by walk_at "sz") ?_
    refine es_cons (e1_ret ?_)
    refine ev_bin ?_
    refine ev_bin ?_
    refine ev_bin ?_
    refine ev_bin ?_
    refine ev_name (i := 3) rfl ?_
    refine ev_int ?_
    refine o_pow (b := 200) (by walk_at "db") (by walk_at "sd") (by walk_at "sd") ?_
    refine ev_bin ?_
    refine ev_bin ?_
    refine ev_int ?_
    refine ev_int ?_
    refine o_pow (b := 200) (by walk_at "db") (by walk_at "sd") (by walk_at "sd") ?_
    refine ev_int ?_
    first | refine o_add ?_ | refine o_cat (by walk_at "sz") ?_
    refine o_mod (by walk_at "sd") ?_
    refine ev_int ?_
    refine o_div (by walk_at "sd") (by walk_at "db") ?_
    refine ev_name (i := 1) rfl ?_
    refine o_mod (by walk_at "sd") ?_
    exact ⟨_, by walk_at "dr", q _ (a, b, c + 1) (Int.emod_nonneg _ (by omega)) (Int.emod_lt_of_pos _ (by omega)) (by simp)⟩
/-- rising numbers within bounds -/
def Asc (l : List Int) (a b : Int) : Prop := l.Pairwise (· < ·) ∧ ∀ s ∈ l, a ≤ s ∧ s ≤ b
theorem Asc.snoc {l : List Int} {a b c s : Int} (h : Asc l a b) (h1 : a ≤ s) (h2 : b < s) (h3 : s ≤ c) : Asc (l ++ [s]) a c := by
  refine ⟨List.pairwise_append.mpr ⟨h.1, by simp, fun x hx y hy => ?_⟩, fun x hx => ?_⟩
  · have := h.2 x hx; simp at hy; omega
  · rcases List.mem_append.mp hx with z | z
    · have := h.2 x z; omega
    · simp at z; omega
theorem Asc.more {l : List Int} {a b c : Int} (h : Asc l a b) (h2 : b ≤ c) : Asc l a c := ⟨h.1, fun x hx => by have := h.2 x hx; omega⟩
theorem Asc.nil {a b : Int} : Asc [] a b := ⟨by simp, by simp⟩
theorem Asc.len {l : List Int} {a b : Int} (h : Asc l a b) : (l.length : Int) ≤ max 0 (b + 1 - a) := by
  obtain ⟨h1, h2⟩ := h
  induction l generalizing a with
  | nil => simp; omega
  | cons x l ih =>
    obtain ⟨g1, g2⟩ := List.pairwise_cons.mp h1
    have := h2 x (by simp)
    have i := ih (a := x + 1) g2 fun y hy => by have := g1 y hy; have := h2 y (by simp [hy]); omega
    simp only [List.length_cons]; omega
def C_law_spots : Ct := mkC (fun x : Addr × Bg × Int × Mu => [.ptr x.1, .int x.2.2.1]) fun x M Q _ => (M = (x.1, bgO x.2.1) :: x.2.2.2 ∧ x.2.1.2.2 < 2 ^ 50 ∧ 0 ≤ x.2.2.1 ∧ x.2.2.1 < 100) ∧ ∀ l y, Asc l 1 x.2.2.1 → y.2.2 ≤ x.2.1.2.2 + 200 → Q (DE.enc l) ((x.1, bgO y) :: x.2.2.2)
theorem C_law_spots.mk {p : Addr} {y : Bg} {m : Int} {M0 : Mu} {Q : D → Mu → Prop} {E : WC} (hc : y.2.2 < 2 ^ 50) (h1 : 0 ≤ m) (h2 : m < 100) (q : ∀ r z, Asc r 1 m → z.2.2 ≤ y.2.2 + 200 → Q (DE.enc r) ((p, bgO z) :: M0)) : C_law_spots [.ptr p, .int m] ((p, bgO y) :: M0) Q E := ⟨(p, y, m, M0), rfl, ⟨rfl, hc, h1, h2⟩, q⟩
abbrev s_law_spots : Stmt := topS 23
theorem sc_law_spots : FnScope ["bag", "most", "often", "wanted", "found", "spot"] ["bag", "most"] (defScope s_law_spots) := ⟨rfl, rfl, rfl, by decide +kernel, rfl, by decide +kernel, by decide +kernel⟩
theorem ok_law_spots (B : Blt mg) (F : DfAt K mg "_law_spots" s_law_spots ["bag", "most"]) (h_law_draw : FnD P w K mg base 1 "_law_draw" C_law_draw)  : FnD P w K mg base 2 "_law_spots" C_law_spots := by
  refine FnD.of F sc_law_spots (fun x => rfl) (by decide) fun Z t M Q E hC ok po => ?_
  obtain ⟨p, y, m, M0⟩ := t
  obtain ⟨⟨e, hc, h1, h2⟩, q⟩ := hC
  dsimp only at e hc h1 h2 q ⊢
  subst e
  refine es_cons (e1_set 2 ?_)
  refine ev_ix (fun _ _ => rfl) ?_
  refine ev_lst ?_
  refine ea_cons ?_
  refine ev_int ?_
  refine ea_cons ?_
  refine ev_int ?_
  refine ea_cons ?_
  refine ev_int ?_
  refine ea_nil ?_
  refine ⟨by walk_at "sz", ?_⟩
  refine ev_call h_law_draw ?_
  refine ea_cons ?_
  refine ev_name (i := 0) rfl ?_
  refine ea_cons ?_
  refine ev_int ?_
  refine ea_nil ?_
  refine C_law_draw.mk (by omega) (by omega) (by omega) fun r1 y1 l1 u1 c1 => ?_
  refine x_any (by omega) (by simp; omega) fun d hd => ?_
  obtain ⟨o, rfl, o1, o2⟩ : ∃ o, d = .int o ∧ 1 ≤ o ∧ o < 10 := by simp at hd; rcases hd with rfl | rfl | rfl <;> exact ⟨_, rfl, by decide, by decide⟩
  refine es_cons (e1_set 3 ?_)
  refine ev_call h_law_draw ?_
  refine ea_cons ?_
  refine ev_name (i := 0) rfl ?_
  refine ea_cons ?_
  refine ev_int ?_
  refine ea_nil ?_
  refine C_law_draw.mk (by omega) (by omega) (by omega) fun r2 y2 l2 u2 c2 => ?_
  refine es_cons (e1_set 4 ?_)
  refine ev_lstm ?_
  refine ea_nil ?_
  refine ⟨by walk_at "sz", ?_⟩
  intro p_found
  refine es_front (k := 1) rfl ?_
  refine es_cons (e1_for ?_)
  refine ei_range2 B.range ?_
  refine ea_cons ?_
  refine ev_int ?_
  refine ea_cons ?_
  refine ev_bin ?_
  refine ev_name (i := 1) rfl ?_
  refine ev_int ?_
  first | refine o_add ?_ | refine o_cat (by walk_at "sz") ?_
  refine ea_nil ?_
  refine ⟨_, _, rfl, by walk_at "sd", ?_⟩
  refine forL_rng (S := Bg × List Int) (fun s => [some (.ptr p), some (.int m), some (.int o), some (.int r2), some (.ptr p_found), none]) (fun s => (p, bgO s.1) :: (p_found, .lst (s.2.map D.int)) :: M0) (fun i s => s.1.2.2 ≤ y.2.2 + 2 + i ∧ Asc s.2 1 i) (y2, []) mono_es ⟨by dsimp only; omega, Asc.nil⟩ ?_ ?_
  · rintro i ⟨z, l⟩ hi ⟨hz, hl⟩
    dsimp only at hz hl ⊢
    have hlen := hl.len
    refine eg_name 5 ?_
    refine es_cons (e1_if ?_)
    refine et_cmp (nomark _) ?_
    refine ev_cmp (nomark _) ?_
    refine ev_call h_law_draw ?_
    refine ea_cons ?_
    refine ev_name (i := 0) rfl ?_
    refine ea_cons ?_
    refine ev_name (i := 2) rfl ?_
    refine ea_nil ?_
    refine C_law_draw.mk (by omega) (by omega) (by omega) fun r4 y4 l4 u4 c4 => ?_
    refine ev_int ?_
    refine o_eqI ?_
    refine ev_cmp (nomark _) ?_
    refine ev_name (i := 3) rfl ?_
    refine ev_int ?_
    refine o_eqI ?_
    refine o_eqB ?_
    refine isB.mk ?_
    refine if_2 (fun hI1 => ?_) (fun hI1 => ?_)
    · refine es_cons (e1_expr ?_)
      refine ev_app ?_
      refine ev_name (i := 4) rfl ?_
      refine ⟨tyd_ptr (k := 1) rfl, ?_⟩
      refine ea_cons ?_
      refine ev_name (i := 5) rfl ?_
      refine ea_nil ?_
      refine m_append (k := 1) rfl (by walk_at "sz") ?_
      refine es_nil ?_
      refine es_nil ?_
      first | (have hq : (_ : Bool) = true := hI1; exact ⟨(y4, l ++ [1 + (i : Int)]), ⟨by dsimp only; omega, hl.snoc (by omega) (by omega) (by omega)⟩, by walk_at "kn", by simp⟩) | exact ⟨(y4, l), ⟨by dsimp only; omega, hl.more (by omega)⟩, by walk_at "kn", rfl⟩
    · refine es_nil ?_
      refine es_nil ?_
      first | (have hq : (_ : Bool) = true := hI1; exact ⟨(y4, l ++ [1 + (i : Int)]), ⟨by dsimp only; omega, hl.snoc (by omega) (by omega) (by omega)⟩, by walk_at "kn", by simp⟩) | exact ⟨(y4, l), ⟨by dsimp only; omega, hl.more (by omega)⟩, by walk_at "kn", rfl⟩
  · rintro ⟨z, l⟩ ⟨hz, hl⟩
    dsimp only at hz hl ⊢
    refine es_freeze (k := 1) (i := 4) rfl rfl ?_
    refine es_cons (e1_ret ?_)
    refine ev_name (i := 4) rfl ?_
    exact ⟨_, by walk_at "dr", q l z (hl.more (by omega)) (by omega)⟩
/-- spots as stretches -/
def tlIs (r : Row) (s : Int) : Bool := match r.getLast? with
  | some q => decide (q.2 + 1 = s)
  | none => false
def toldF (r : Row) (s : Int) : Row := if tlIs r s = true then r.dropLast ++ [((lastOf r).1, s)] else r ++ [(s, s)]
def told (l : List Int) : Row := l.foldl toldF []
theorem toldF_len (r : Row) (s : Int) : (toldF r s).length ≤ r.length + 1 := by
  unfold toldF; split <;> simp
theorem told_len : ∀ (l : List Int) (r : Row), (l.foldl toldF r).length ≤ r.length + l.length
  | [], r => by simp
  | a :: l, r => by
    have := told_len l (toldF r a)
    have := toldF_len r a
    simp only [List.foldl_cons, List.length_cons]; omega
def C_law_told : Ct := mkC (fun x : List Int => [DE.enc x]) fun x M Q _ => x.length ≤ 1000000 ∧ Q (DE.enc (told x)) M
abbrev s_law_told : Stmt := topS 24
theorem sc_law_told : FnScope ["spots", "found", "spot"] ["spots"] (defScope s_law_told) := ⟨rfl, rfl, rfl, by decide +kernel, rfl, by decide +kernel, by decide +kernel⟩
theorem ok_law_told (B : Blt mg) (F : DfAt K mg "_law_told" s_law_told ["spots"])   : FnD P w K mg base 1 "_law_told" C_law_told := by
  refine FnD.of F sc_law_told (fun x => rfl) (by decide) fun Z t M Q E hC ok po => ?_
  obtain ⟨hl, q⟩ := hC
  refine es_cons (e1_set 1 ?_)
  refine ev_lstm ?_
  refine ea_nil ?_
  refine ⟨by walk_at "sz", ?_⟩
  intro p_found
  refine es_cons (e1_for ?_)
  refine ei_list ?_
  refine ev_name (i := 0) rfl ?_
  refine ⟨_, .lst _, ?_⟩
  refine forL_fold (α := Int) (S := Row) DE.enc (fun s => [some (DE.enc t), some (.ptr p_found), none]) (fun s => (p_found, .lst (s.map DE.enc)) :: M) toldF t [] mono_es ?_ ?_
  · rintro a as s ⟨pre, he, hs⟩
    have hz : s.length + 1 < sizeLine := by
      have h1 := told_len pre []
      have h2 := congrArg List.length he
      rw [hs]; simp at h1 h2; rw [sizeLine_eq]; omega
    dsimp only
    refine eg_name 2 ?_
    refine es_cons (e1_if ?_)
    refine et_w ?_
    apply ew_andP _ (tlIs s a)
    · refine et_cmp (nomark _) ?_
      refine ev_name (i := 1) rfl ?_
      refine ev_lst ?_
      refine ea_nil ?_
      refine ⟨by walk_at "sz", ?_⟩
      refine o_neN (k := 0) _ rfl ?_
      refine isB.mk ?_
      exact ⟨rfl, rfl⟩
    · intro hO1
      obtain ⟨l, z, e⟩ : ∃ l z, s = l ++ [z] := by
        rcases List.eq_nil_or_concat s with h | ⟨l, z, h⟩
        · rw [h] at hO1; simp at hO1
        · exact ⟨l, z, by simpa using h⟩
      refine ew_and1 ?_
      refine et_cmp (nomark _) ?_
      refine ev_bin ?_
      refine ev_ix (fun _ _ => rfl) ?_
      refine ev_ix (fun _ _ => rfl) ?_
      refine ev_name (i := 1) rfl ?_
      refine ev_un ?_
      refine ev_int ?_
      refine o_neg ?_
      refine x_ptr (k := 0) rfl (d := DE.enc z) (by rw [e, List.map_append]; exact atI_last _ _) ?_
      refine ev_int ?_
      first | refine x_tup (by walk_at "ix") ?_ | refine x_lst (by walk_at "ix") ?_ | refine x_scr (by walk_at "ix") ?_ | refine x_seq (by assumption) (by walk_at "ix") ?_
      refine ev_int ?_
      first | refine o_add ?_ | refine o_cat (by walk_at "sz") ?_
      refine ev_name (i := 2) rfl ?_
      first | refine o_eqI ?_ | refine o_eqB ?_ | refine o_eqS ?_
      refine isB.mk ?_
      exact ⟨by rw [e]; simp [tlIs], rfl⟩
    refine if_2 (fun hI1 => ?_) (fun hI1 => ?_)
    · obtain ⟨l, z, e, hz2⟩ : ∃ l z, s = l ++ [z] ∧ z.2 + 1 = a := by
        rcases List.eq_nil_or_concat s with h | ⟨l, z, h⟩
        · rw [h] at hI1; simp [tlIs] at hI1
        · refine ⟨l, z, by simpa using h, ?_⟩
          rw [h] at hI1; simpa [tlIs] using hI1
      refine es_cons (e1_asg ?_)
      refine ev_tup ?_
      refine ea_cons ?_
      refine ev_ix (fun _ _ => rfl) ?_
      refine ev_ix (fun _ _ => rfl) ?_
      refine ev_name (i := 1) rfl ?_
      refine ev_un ?_
      refine ev_int ?_
      refine o_neg ?_
      refine x_ptr (k := 0) rfl (d := DE.enc z) (by rw [e, List.map_append]; exact atI_last _ _) ?_
      refine ev_int ?_
      first | refine x_tup (by walk_at "ix") ?_ | refine x_lst (by walk_at "ix") ?_ | refine x_scr (by walk_at "ix") ?_ | refine x_seq (by assumption) (by walk_at "ix") ?_
      refine ea_cons ?_
      refine ev_name (i := 2) rfl ?_
      refine ea_nil ?_
      refine ⟨by walk_at "sz", ?_⟩
      refine eg_sub ?_
      refine ev_name (i := 1) rfl ?_
      refine ev_un ?_
      refine ev_int ?_
      refine o_neg ?_
      refine opset_list (k := 0) (j := l.length) rfl (by rw [e]; unfold ixN; simp; omega) ?_
      refine es_nil ?_
      refine es_nil ?_
      exact ⟨_, rfl, by walk_at "kn", by first | (simp [toldF, lastOf, tlIs, e, hz2, enc_pair, enc_int]; done) | (unfold toldF; rw [hI2]; simp [enc_pair, enc_int]; done)⟩
    · have hI2 : tlIs s a = false := by
        rcases List.eq_nil_or_concat s with h | ⟨l, z, h⟩
        · rw [h]; rfl
        · rw [h] at hI1 ⊢; simpa [tlIs] using hI1
      refine es_cons (e1_expr ?_)
      refine ev_app ?_
      refine ev_name (i := 1) rfl ?_
      refine ⟨tyd_ptr (k := 0) rfl, ?_⟩
      refine ea_cons ?_
      refine ev_tup ?_
      refine ea_cons ?_
      refine ev_name (i := 2) rfl ?_
      refine ea_cons ?_
      refine ev_name (i := 2) rfl ?_
      refine ea_nil ?_
      refine ⟨by walk_at "sz", ?_⟩
      refine ea_nil ?_
      refine m_append (k := 0) rfl (by walk_at "sz") ?_
      refine es_nil ?_
      refine es_nil ?_
      exact ⟨_, rfl, by walk_at "kn", by first | (simp [toldF, lastOf, tlIs, e, hz2, enc_pair, enc_int]; done) | (unfold toldF; rw [hI2]; simp [enc_pair, enc_int]; done)⟩
  · dsimp only
    refine es_freeze (k := 0) (i := 1) rfl rfl ?_
    refine es_cons (e1_ret ?_)
    refine ev_name (i := 1) rfl ?_
    exact ⟨_, by walk_at "dr", by simpa [told, enc_list] using q⟩
/-- whole numbers in lists and tuples, so deep -/
def flatD : Nat → D → Bool
  | _, .int _ => true
  | n + 1, .tup ds => ds.all (flatD n)
  | n + 1, .lst ds => ds.all (flatD n)
  | _, _ => false
theorem flatD.plain : ∀ {n : Nat} {d : D}, flatD n d = true → d.plain = true
  | _, .int _, _ => rfl
  | _, .tup _, _ => rfl
  | _, .lst _, _ => rfl
  | 0, .non, h => by simp [flatD] at h
  | 0, .bl _, h => by simp [flatD] at h
  | 0, .str _, h => by simp [flatD] at h
  | 0, .ty _, h => by simp [flatD] at h
  | 0, .ptr _, h => by simp [flatD] at h
  | 0, .scr _, h => by simp [flatD] at h
  | n + 1, .non, h => by simp [flatD] at h
  | n + 1, .bl _, h => by simp [flatD] at h
  | n + 1, .str _, h => by simp [flatD] at h
  | n + 1, .ty _, h => by simp [flatD] at h
  | n + 1, .ptr _, h => by simp [flatD] at h
  | n + 1, .scr _, h => by simp [flatD] at h
theorem flatD.seq : ∀ {n : Nat} {d : D}, flatD n d = true → (["list", "tuple"].any (isT d)) = true → ∃ m ds, n = m + 1 ∧ itemsD d = some ds ∧ ∀ e ∈ ds, flatD m e = true
  | 0, .tup ds, h, _ => by simp [flatD] at h
  | 0, .lst ds, h, _ => by simp [flatD] at h
  | n + 1, .tup ds, h, _ => ⟨n, ds, rfl, rfl, by simpa [flatD] using h⟩
  | n + 1, .lst ds, h, _ => ⟨n, ds, rfl, rfl, by simpa [flatD] using h⟩
  | n, .int i, _, h => by
    have hp : (D.int i).plain = true := rfl
    simp only [List.any_cons, List.any_nil, isT_list hp, isT_tuple hp, Bool.or_false, is_list, is_tuple] at h
    cases h
  | n, .non, h, _ => by cases n <;> simp [flatD] at h
  | n, .bl _, h, _ => by cases n <;> simp [flatD] at h
  | n, .str _, h, _ => by cases n <;> simp [flatD] at h
  | n, .ty _, h, _ => by cases n <;> simp [flatD] at h
  | n, .ptr _, h, _ => by cases n <;> simp [flatD] at h
  | n, .scr _, h, _ => by cases n <;> simp [flatD] at h
theorem flatD.int {n : Nat} {d : D} (h : flatD n d = true) (h2 : (["list", "tuple"].any (isT d)) = false) : ∃ i, d = .int i := by
  have hp := flatD.plain h
  simp only [List.any_cons, List.any_nil, isT_list hp, isT_tuple hp, Bool.or_false] at h2
  cases n <;> cases d <;> simp [flatD] at h <;> first | exact ⟨_, rfl⟩ | simp [is_list, is_tuple] at h2
def C_law_same (n : Nat) : Ct := mkC (fun x : D => [x, x]) fun x M Q _ => flatD n x = true ∧ Q (.bl true) M
abbrev s_law_same : Stmt := topS 25
theorem sc_law_same : FnScope ["found", "due", "k"] ["found", "due"] (defScope s_law_same) := ⟨rfl, rfl, rfl, by decide +kernel, rfl, by decide +kernel, by decide +kernel⟩
theorem ok_law_same (B : Blt mg) (F : DfAt K mg "_law_same" s_law_same ["found", "due"]) {n k : Nat} (h_law_same : ∀ m, n = m + 1 → FnD P w K mg base k "_law_same" (C_law_same m))  : FnD P w K mg base (k + 1) "_law_same" (C_law_same n) := by
  refine FnD.of F sc_law_same (fun x => rfl) (by decide) fun Z t M Q E hC ok po => ?_
  obtain ⟨hf, q⟩ := hC
  have hp := flatD.plain hf
  refine es_learnT 0 (d := t) rfl fun hsz => ?_
  refine es_cons (e1_if ?_)
  refine et_val ?_
  refine ev_callB (id := "isinstance") B.isinstance (by decide +kernel) ?_
  refine ea_cons ?_
  refine ev_name (i := 1) rfl ?_
  refine ea_cons ?_
  refine ev_tup ?_
  refine ea_cons ?_
  refine ev_bltn (v := .ty "list") B.list (by decide +kernel) rfl (fun _ => rp_ty.mpr rfl) ?_
  refine ea_cons ?_
  refine ev_bltn (v := .ty "tuple") B.tuple (by decide +kernel) rfl (fun _ => rp_ty.mpr rfl) ?_
  refine ea_nil ?_
  refine ⟨by walk_at "sz", ?_⟩
  refine ea_nil ?_
  refine c_isiT ["list", "tuple"] (by walk_at "pl") (by decide) ?_
  walk_at "tr"
  refine if_2 (fun hI1 => ?_) (fun hI1 => ?_)
  · obtain ⟨m, ds, rfl, hi, hall⟩ := flatD.seq hf hI1
    have hz := hsz _ hi
    refine es_cons (e1_if ?_)
    refine et_w ?_
    refine ew_or ?_
    refine et_not ?_
    refine et_val ?_
    refine ev_callB (id := "isinstance") B.isinstance (by decide +kernel) ?_
    refine ea_cons ?_
    refine ev_name (i := 0) rfl ?_
    refine ea_cons ?_
    refine ev_tup ?_
    refine ea_cons ?_
    refine ev_bltn (v := .ty "list") B.list (by decide +kernel) rfl (fun _ => rp_ty.mpr rfl) ?_
    refine ea_cons ?_
    refine ev_bltn (v := .ty "tuple") B.tuple (by decide +kernel) rfl (fun _ => rp_ty.mpr rfl) ?_
    refine ea_nil ?_
    refine ⟨by walk_at "sz", ?_⟩
    refine ea_nil ?_
    refine c_isiT ["list", "tuple"] (by walk_at "pl") (by decide) ?_
    walk_at "tr"
    refine if_f (by rw [hI1]; rfl) ?_
    refine ew_or1 ?_
    refine et_cmp (nomark _) ?_
    refine ev_callB (id := "isinstance") B.isinstance (by decide +kernel) ?_
    refine ea_cons ?_
    refine ev_name (i := 0) rfl ?_
    refine ea_cons ?_
    refine ev_bltn (v := .ty "list") B.list (by decide +kernel) rfl (fun _ => rp_ty.mpr rfl) ?_
    refine ea_nil ?_
    refine c_isi (by walk_at "pl") (by decide) ?_
    refine ev_callB (id := "isinstance") B.isinstance (by decide +kernel) ?_
    refine ea_cons ?_
    refine ev_name (i := 1) rfl ?_
    refine ea_cons ?_
    refine ev_bltn (v := .ty "list") B.list (by decide +kernel) rfl (fun _ => rp_ty.mpr rfl) ?_
    refine ea_nil ?_
    refine c_isi (by walk_at "pl") (by decide) ?_
    refine o_neB ?_
    refine isB.mk ?_
    refine if_f (by simp) ?_
    refine es_nil ?_
    refine es_cons (e1_ret ?_)
    refine ev_and ?_
    refine ev_cmp (nomark _) ?_
    refine ev_callB (id := "len") B.len (by decide +kernel) ?_
    refine ea_cons ?_
    refine ev_name (i := 0) rfl ?_
    refine ea_nil ?_
    refine c_lenQ hi ?_
    refine ev_callB (id := "len") B.len (by decide +kernel) ?_
    refine ea_cons ?_
    refine ev_name (i := 1) rfl ?_
    refine ea_nil ?_
    refine c_lenQ hi ?_
    first | refine o_eqI ?_ | refine o_eqB ?_ | refine o_eqS ?_
    refine isB.mk ?_
    refine if_t (by simp) ?_
    refine ev_one ?_
    refine ev_callB (id := "all") B.all (by decide +kernel) ?_
    refine ea_cons ?_
    refine ev_lc (.one 2) (own := [("k", 2)]) (blkOk_by (N := ["found", "due", "k"]) (sc := defScope s_law_same) (by decide +kernel)) rfl (fun _ _ _ _ _ => pg_name (i := 2) ok.nd rfl (by first | exact Or.inl rfl | exact Or.inr rfl)) ?_
    refine ei_range1 B.range ?_
    refine ea_cons ?_
    refine ev_callB (id := "len") B.len (by decide +kernel) ?_
    refine ea_cons ?_
    refine ev_name (i := 1) rfl ?_
    refine ea_nil ?_
    refine c_lenQ hi ?_
    refine ea_nil ?_
    refine ⟨_, rfl, by omega, by rw [sizeLine_eq] at hz; omega, ?_⟩
    refine lcL_map (α := Nat) (fun i => D.int (0 + (i : Nat))) (fun _ => true) D.bl _ (List.range ds.length) (fun _ => rfl) (by simpa using hz) ?_ ?_
    · intro a ha s H C cl fp
      have hal : a < ds.length := by simpa using ha
      have e1 : atI ds (0 + (a : Int)) = some ds[a] := by rw [Int.zero_add]; exact atI_nat (List.getElem?_eq_getElem hal)
      refine ev_call (h_law_same _ rfl) ?_ (hk := Nat.le_refl k)
      refine ea_cons ?_
      refine ev_ix (fun _ _ => rfl) ?_
      refine ev_name (i := 0) rfl ?_
      refine ev_name (i := 2) rfl ?_
      refine x_seq hi e1 ?_
      refine ea_cons ?_
      refine ev_ix (fun _ _ => rfl) ?_
      refine ev_name (i := 1) rfl ?_
      refine ev_name (i := 2) rfl ?_
      refine x_seq hi e1 ?_
      refine ea_nil ?_
      refine ⟨_, rfl, hall _ (List.getElem_mem hal), ?_⟩
      exact ⟨rfl, rfl⟩
    refine ea_nil ?_
    refine c_all ?_
    exact ⟨_, by walk_at "dr", by rw [List.all_eq_true.mpr (fun x hx => by obtain ⟨_, _, rfl⟩ := List.mem_map.mp hx; rfl)]; exact q⟩
  · obtain ⟨i, rfl⟩ := flatD.int hf hI1
    refine es_nil ?_
    refine es_cons (e1_if ?_)
    refine et_val ?_
    refine ev_callB (id := "isinstance") B.isinstance (by decide +kernel) ?_
    refine ea_cons ?_
    refine ev_name (i := 1) rfl ?_
    refine ea_cons ?_
    refine ev_bltn (v := .ty "int") B.int (by decide +kernel) rfl (fun _ => rp_ty.mpr rfl) ?_
    refine ea_nil ?_
    refine c_isi (by walk_at "pl") (by decide) ?_
    walk_at "tr"
    refine if_t (rfl) ?_
    refine es_cons (e1_ret ?_)
    refine ev_and ?_
    refine ev_callB (id := "isinstance") B.isinstance (by decide +kernel) ?_
    refine ea_cons ?_
    refine ev_name (i := 0) rfl ?_
    refine ea_cons ?_
    refine ev_bltn (v := .ty "int") B.int (by decide +kernel) rfl (fun _ => rp_ty.mpr rfl) ?_
    refine ea_nil ?_
    refine c_isi (by walk_at "pl") (by decide) ?_
    refine isB.mk ?_
    refine if_t (rfl) ?_
    refine ev_and ?_
    refine ev_cmp (nomark _) ?_
    refine ev_callB (id := "isinstance") B.isinstance (by decide +kernel) ?_
    refine ea_cons ?_
    refine ev_name (i := 0) rfl ?_
    refine ea_cons ?_
    refine ev_bltn (v := .ty "bool") B.bool (by decide +kernel) rfl (fun _ => rp_ty.mpr rfl) ?_
    refine ea_nil ?_
    refine c_isi (by walk_at "pl") (by decide) ?_
    refine ev_callB (id := "isinstance") B.isinstance (by decide +kernel) ?_
    refine ea_cons ?_
    refine ev_name (i := 1) rfl ?_
    refine ea_cons ?_
    refine ev_bltn (v := .ty "bool") B.bool (by decide +kernel) rfl (fun _ => rp_ty.mpr rfl) ?_
    refine ea_nil ?_
    refine c_isi (by walk_at "pl") (by decide) ?_
    refine o_eqB ?_
    refine isB.mk ?_
    refine if_t (by simp) ?_
    refine ev_one ?_
    refine ev_cmp (nomark _) ?_
    refine ev_name (i := 0) rfl ?_
    refine ev_name (i := 1) rfl ?_
    refine o_eqI ?_
    exact ⟨_, by walk_at "dr", by simpa using q⟩
theorem RowOk.snoc : ∀ {r : Row} {p f l : Int}, RowOk p r → p + 2 ≤ f → (∀ q ∈ r, q.2 + 2 ≤ f) → f ≤ l → RowOk p (r ++ [(f, l)])
  | [], p, f, l, _, h1, _, h2 => ⟨h1, h2, trivial⟩
  | (a, b) :: r, p, f, l, ⟨g1, g2, g3⟩, _, h, h2 => ⟨g1, g2, RowOk.snoc g3 (h (a, b) (by simp)) (fun q hq => h q (by simp [hq])) h2⟩
def C_law_far_row : Ct := mkC (fun x : Addr × Bg × Int × Int × Mu => [.ptr x.1, .int x.2.2.1, .int x.2.2.2.1]) fun x M Q _ => (M = (x.1, bgO x.2.1) :: x.2.2.2.2 ∧ x.2.1.2.2 < 2 ^ 50 ∧ 0 ≤ x.2.2.1 ∧ x.2.2.1 < 100 ∧ 1 ≤ x.2.2.2.1 ∧ x.2.2.2.1 < 2 ^ 200) ∧
  ∀ l y, IsRow l → (l.length : Int) ≤ x.2.2.1 → (∀ q ∈ l, q.2 ≤ 1 + x.2.2.1 * (2 * x.2.2.2.1 + 10)) → y.2.2 ≤ x.2.1.2.2 + 1000 → Q (DE.enc l) ((x.1, bgO y) :: x.2.2.2.2)
theorem C_law_far_row.mk {p : Addr} {y : Bg} {m u : Int} {M0 : Mu} {Q : D → Mu → Prop} {E : WC} (hc : y.2.2 < 2 ^ 50) (h1 : 0 ≤ m) (h2 : m < 100) (h3 : 1 ≤ u) (h4 : u < 2 ^ 200)
    (q : ∀ l z, IsRow l → (l.length : Int) ≤ m → (∀ q ∈ l, q.2 ≤ 1 + m * (2 * u + 10)) → z.2.2 ≤ y.2.2 + 1000 → Q (DE.enc l) ((p, bgO z) :: M0)) : C_law_far_row [.ptr p, .int m, .int u] ((p, bgO y) :: M0) Q E := ⟨(p, y, m, u, M0), rfl, ⟨rfl, hc, h1, h2, h3, h4⟩, q⟩
abbrev s_law_far_row : Stmt := topS 26
theorem sc_law_far_row : FnScope ["bag", "most", "wide", "found", "last", "bout", "begin"] ["bag", "most", "wide"] (defScope s_law_far_row) := ⟨rfl, rfl, rfl, by decide +kernel, rfl, by decide +kernel, by decide +kernel⟩
theorem ok_law_far_row (B : Blt mg) (F : DfAt K mg "_law_far_row" s_law_far_row ["bag", "most", "wide"]) (h_law_draw : FnD P w K mg base 1 "_law_draw" C_law_draw)  : FnD P w K mg base 2 "_law_far_row" C_law_far_row := by
  refine FnD.of F sc_law_far_row (fun x => rfl) (by decide) fun Z t M Q E hC ok po => ?_
  obtain ⟨p, y, m, u, M0⟩ := t
  obtain ⟨⟨e, hc, h1, h2, h3, h4⟩, q⟩ := hC
  dsimp only at e hc h1 h2 h3 h4 q ⊢
  subst e
  refine es_cons (e1_set 3 ?_)
  refine ev_lstm ?_
  refine ea_nil ?_
  refine ⟨by walk_at "sz", ?_⟩
  intro p_found
  refine es_front (k := 1) rfl ?_
  refine es_cons (e1_set 4 ?_)
  refine ev_call h_law_draw ?_
  refine ea_cons ?_
  refine ev_name (i := 0) rfl ?_
  refine ea_cons ?_
  refine ev_int ?_
  refine ea_nil ?_
  refine C_law_draw.mk (by omega) (by omega) (by omega) fun r1 y1 l1 u1 c1 => ?_
  refine es_cons (e1_for ?_)
  refine ei_range1 B.range ?_
  refine ea_cons ?_
  refine ev_call h_law_draw ?_
  refine ea_cons ?_
  refine ev_name (i := 0) rfl ?_
  refine ea_cons ?_
  refine ev_bin ?_
  refine ev_name (i := 1) rfl ?_
  refine ev_int ?_
  first | refine o_add ?_ | refine o_cat (by walk_at "sz") ?_
  refine ea_nil ?_
  refine C_law_draw.mk (by omega) (by omega) (by omega) fun r3 y3 l3 u3 c3 => ?_
  refine ea_nil ?_
  refine ⟨_, rfl, by omega, by omega, ?_⟩
  refine forL_rng (S := Bg × Row × Int) (fun s => [some (.ptr p), some (.int m), some (.int u), some (.ptr p_found), some (.int s.2.2), none, none]) (fun s => (p, bgO s.1) :: (p_found, .lst (s.2.1.map DE.enc)) :: M0) (fun i s => (s.1.2.2 ≤ y.2.2 + 2 + 6 * i ∧ 0 ≤ s.2.2 ∧ s.2.2 ≤ 1 + (i : Int) * (2 * u + 10)) ∧ s.2.1.length ≤ i ∧ IsRow s.2.1 ∧ ∀ q ∈ s.2.1, q.2 + 1 ≤ s.2.2) (y3, [], r1) mono_es ⟨⟨by dsimp only; omega, l1, by simp; omega⟩, by simp, trivial, by simp⟩ ?_ ?_
  · rintro i ⟨z, row, e⟩ hi ⟨⟨hz, he, hb⟩, hlen, hrow, hq⟩
    dsimp only at hz he hb hlen hrow hq ⊢
    have hW : ((i + 1 : Nat) : Int) * (2 * u + 10) = (i : Int) * (2 * u + 10) + (2 * u + 10) := by rw [Int.natCast_add, Int.add_mul]; simp
    generalize (i : Int) * (2 * u + 10) = W at hb hW
    refine eg_name 5 ?_
    refine es_cons (e1_set 6 ?_)
    refine ev_bin ?_
    refine ev_name (i := 4) rfl ?_
    refine ev_ix (fun _ _ => rfl) ?_
    refine ev_lst ?_
    refine ea_cons ?_
    refine ev_int ?_
    refine ea_cons ?_
    refine ev_bin ?_
    refine ev_int ?_
    refine ev_call h_law_draw ?_
    refine ea_cons ?_
    refine ev_name (i := 0) rfl ?_
    refine ea_cons ?_
    refine ev_int ?_
    refine ea_nil ?_
    refine C_law_draw.mk (by omega) (by omega) (by omega) fun r4 y4 l4 u4 c4 => ?_
    first | refine o_add ?_ | refine o_cat (by walk_at "sz") ?_
    refine ea_cons ?_
    refine ev_bin ?_
    refine ev_int ?_
    refine ev_call h_law_draw ?_
    refine ea_cons ?_
    refine ev_name (i := 0) rfl ?_
    refine ea_cons ?_
    refine ev_name (i := 2) rfl ?_
    refine ea_nil ?_
    refine C_law_draw.mk (by omega) (by omega) (by omega) fun r5 y5 l5 u5 c5 => ?_
    first | refine o_add ?_ | refine o_cat (by walk_at "sz") ?_
    refine ea_nil ?_
    refine ⟨by walk_at "sz", ?_⟩
    refine ev_call h_law_draw ?_
    refine ea_cons ?_
    refine ev_name (i := 0) rfl ?_
    refine ea_cons ?_
    refine ev_int ?_
    refine ea_nil ?_
    refine C_law_draw.mk (by omega) (by omega) (by omega) fun r6 y6 l6 u6 c6 => ?_
    refine x_any (by omega) (by simp; omega) fun d hd => ?_
    obtain ⟨b, rfl, b1, b2⟩ : ∃ b, d = .int b ∧ 1 ≤ b ∧ b ≤ u + 4 := by
      simp at hd
      rcases hd with rfl | rfl | rfl
      · exact ⟨_, rfl, by omega, by omega⟩
      · exact ⟨_, rfl, by omega, by omega⟩
      · exact ⟨_, rfl, by omega, by omega⟩
    first | refine o_add ?_ | refine o_cat (by walk_at "sz") ?_
    refine es_cons (e1_set 4 ?_)
    refine ev_bin ?_
    refine ev_name (i := 6) rfl ?_
    refine ev_ix (fun _ _ => rfl) ?_
    refine ev_lst ?_
    refine ea_cons ?_
    refine ev_int ?_
    refine ea_cons ?_
    refine ev_call h_law_draw ?_
    refine ea_cons ?_
    refine ev_name (i := 0) rfl ?_
    refine ea_cons ?_
    refine ev_int ?_
    refine ea_nil ?_
    refine C_law_draw.mk (by omega) (by omega) (by omega) fun r7 y7 l7 u7 c7 => ?_
    refine ea_cons ?_
    refine ev_call h_law_draw ?_
    refine ea_cons ?_
    refine ev_name (i := 0) rfl ?_
    refine ea_cons ?_
    refine ev_name (i := 2) rfl ?_
    refine ea_nil ?_
    refine C_law_draw.mk (by omega) (by omega) (by omega) fun r8 y8 l8 u8 c8 => ?_
    refine ea_nil ?_
    refine ⟨by walk_at "sz", ?_⟩
    refine ev_call h_law_draw ?_
    refine ea_cons ?_
    refine ev_name (i := 0) rfl ?_
    refine ea_cons ?_
    refine ev_int ?_
    refine ea_nil ?_
    refine C_law_draw.mk (by omega) (by omega) (by omega) fun r9 y9 l9 u9 c9 => ?_
    refine x_any (by omega) (by simp; omega) fun d2 hd2 => ?_
    obtain ⟨b2, rfl, b3, b4⟩ : ∃ b, d2 = .int b ∧ 0 ≤ b ∧ b ≤ u + 4 := by
      simp at hd2
      rcases hd2 with rfl | rfl | rfl
      · exact ⟨_, rfl, by omega, by omega⟩
      · exact ⟨_, rfl, by omega, by omega⟩
      · exact ⟨_, rfl, by omega, by omega⟩
    first | refine o_add ?_ | refine o_cat (by walk_at "sz") ?_
    refine es_cons (e1_expr ?_)
    refine ev_app ?_
    refine ev_name (i := 3) rfl ?_
    refine ⟨tyd_ptr (k := 1) rfl, ?_⟩
    refine ea_cons ?_
    refine ev_tup ?_
    refine ea_cons ?_
    refine ev_name (i := 6) rfl ?_
    refine ea_cons ?_
    refine ev_name (i := 4) rfl ?_
    refine ea_nil ?_
    refine ⟨by walk_at "sz", ?_⟩
    refine ea_nil ?_
    refine m_append (k := 1) rfl (by walk_at "sz") ?_
    refine es_cons (e1_set 4 ?_)
    refine ev_bin ?_
    refine ev_name (i := 4) rfl ?_
    refine ev_int ?_
    first | refine o_add ?_ | refine o_cat (by walk_at "sz") ?_
    refine es_nil ?_
    exact ⟨(y9, row ++ [(e + b, e + b + b2)], e + b + b2 + 1), ⟨⟨by dsimp only; omega, by dsimp only; omega, by dsimp only; omega⟩, by simp; omega, hrow.snoc (by omega) (fun q hq2 => by have := hq q hq2; omega) (by omega), fun q hq2 => by
      rcases List.mem_append.mp hq2 with w | w
      · have := hq q w; dsimp only; omega
      · simp at w; rw [w]; dsimp only; omega⟩, by walk_at "kn", by simp [enc_pair, enc_int]⟩
  · rintro ⟨z, row, e⟩ ⟨⟨hz, he, hb⟩, hlen, hrow, hq⟩
    dsimp only at hz he hb hlen hrow hq ⊢
    refine es_freeze (k := 1) (i := 3) rfl rfl ?_
    refine es_cons (e1_ret ?_)
    refine ev_name (i := 3) rfl ?_
    have hW : ((r3.toNat : Nat) : Int) * (2 * u + 10) ≤ m * (2 * u + 10) := Int.mul_le_mul_of_nonneg_right (by omega) (by omega)
    exact ⟨_, by walk_at "dr", q row z hrow (by omega) (fun w hw => by have := hq w hw; omega) (by omega)⟩
/-- all rows that begin as a row does -/
def rowsK (l : List Int) (b : Int) : Nat → List (List Int)
  | 0 => [l]
  | k + 1 => rowsK l b k ++ (rowsK l b k).map (· ++ [b + 1 + (k : Nat)])
theorem rowsK_len (l : List Int) (b : Int) : ∀ k, (rowsK l b k).length = 2 ^ k
  | 0 => rfl
  | k + 1 => by rw [rowsK, List.length_append, List.length_map, rowsK_len l b k, Nat.pow_succ]; omega
theorem rowsK_mem {l : List Int} {b : Int} (h0 : 0 ≤ b) (hl : Asc l 1 b) : ∀ k x, x ∈ rowsK l b k → Asc x 1 (b + k)
  | 0, x, h => by simp [rowsK] at h; subst h; simpa using hl
  | k + 1, x, h => by
    rw [rowsK, List.mem_append] at h
    rcases h with h | h
    · exact (rowsK_mem h0 hl k x h).more (by omega)
    · obtain ⟨y, hy, rfl⟩ := List.mem_map.mp h
      exact (rowsK_mem h0 hl k y hy).snoc (by omega) (by omega) (by omega)
def C_law_rows : Ct := mkC (fun x : List Int × Int × Int => [DE.enc x.1, .int x.2.1, .int x.2.2]) fun x M Q _ => (Asc x.1 1 x.2.1 ∧ 0 ≤ x.2.1 ∧ x.2.1 ≤ x.2.2 ∧ x.2.2 ≤ 10) ∧ Q (DE.enc (rowsK x.1 x.2.1 (x.2.2 - x.2.1).toNat)) M
abbrev s_law_rows : Stmt := topS 27
theorem sc_law_rows : FnScope ["spots", "begun", "far", "found", "spot", "some"] ["spots", "begun", "far"] (defScope s_law_rows) := ⟨rfl, rfl, rfl, by decide +kernel, rfl, by decide +kernel, by decide +kernel⟩
theorem ok_law_rows (B : Blt mg) (F : DfAt K mg "_law_rows" s_law_rows ["spots", "begun", "far"])   : FnD P w K mg base 2 "_law_rows" C_law_rows := by
  refine FnD.of F sc_law_rows (fun x => rfl) (by decide) fun Z t M Q E hC ok po => ?_
  obtain ⟨l, b, f⟩ := t
  obtain ⟨⟨hl, h1, h2, h3⟩, q⟩ := hC
  dsimp only at hl h1 h2 h3 q ⊢
  refine es_cons (e1_set 3 ?_)
  refine ev_lst ?_
  refine ea_cons ?_
  refine ev_name (i := 0) rfl ?_
  refine ea_nil ?_
  refine ⟨by walk_at "sz", ?_⟩
  refine es_cons (e1_for ?_)
  refine ei_range2 B.range ?_
  refine ea_cons ?_
  refine ev_bin ?_
  refine ev_name (i := 1) rfl ?_
  refine ev_int ?_
  first | refine o_add ?_ | refine o_cat (by walk_at "sz") ?_
  refine ea_cons ?_
  refine ev_bin ?_
  refine ev_name (i := 2) rfl ?_
  refine ev_int ?_
  first | refine o_add ?_ | refine o_cat (by walk_at "sz") ?_
  refine ea_nil ?_
  refine ⟨_, _, rfl, by walk_at "sd", ?_⟩
  refine forL_rng (S := Unit × Nat) (fun s => [some (DE.enc l), some (.int b), some (.int f), some (DE.enc (rowsK l b s.2)), none, none]) (fun _ => M) (fun i s => i = s.2) ((), 0) mono_es rfl ?_ ?_
  · rintro i ⟨_, _⟩ hi rfl
    dsimp only
    have hi2 : i < 10 := by omega
    have hn : (rowsK l b i).length ≤ 1024 := by rw [rowsK_len]; exact Nat.pow_le_pow_right (by decide) (by omega : i ≤ 10)
    have hne : ∀ a ∈ rowsK l b i, a.length ≤ 100 := fun a ha => by have := (rowsK_mem h1 hl i a ha).len; omega
    refine eg_name 4 ?_
    refine es_cons (e1_set 3 ?_)
    refine ev_bin ?_
    refine ev_name (i := 3) rfl ?_
    refine ev_lc (.one 5) (own := [("some", 5)]) (blkOk_by (N := ["spots", "begun", "far", "found", "spot", "some"]) (sc := defScope s_law_rows) (by decide +kernel)) rfl (fun _ _ _ _ _ => pg_name (i := 5) ok.nd rfl (by first | exact Or.inl rfl | exact Or.inr rfl)) ?_
    refine ei_list ?_
    refine ev_name (i := 3) rfl ?_
    refine ⟨_, .lst _, ?_⟩
    refine lcL_map (α := List Int) DE.enc (fun a => a ++ [b + 1 + (i : Nat)]) DE.enc _ (rowsK l b i) (fun _ => rfl) (by rw [sizeLine_eq]; omega) ?_ ?_
    · intro a ha s H C cl fp
      have hna := hne a ha
      refine ev_bin ?_
      refine ev_name (i := 5) rfl ?_
      refine ev_lst ?_
      refine ea_cons ?_
      refine ev_name (i := 4) rfl ?_
      refine ea_nil ?_
      refine ⟨by walk_at "sz", ?_⟩
      first | refine o_add ?_ | refine o_cat (by walk_at "sz") ?_
      exact ⟨by simp [enc_list, enc_int], rfl⟩
    first | refine o_add ?_ | refine o_cat (by walk_at "sz") ?_
    refine es_nil ?_
    have en : (DE.enc (rowsK l b (i + 1)) : D) = .lst ((rowsK l b i).map DE.enc ++ ((rowsK l b i).map (fun a => a ++ [b + 1 + (i : Nat)])).map DE.enc) := by rw [enc_list, rowsK, List.map_append]
    exact ⟨((), i + 1), rfl, by dsimp only; rw [en]; walk_at "kn", rfl⟩
  · rintro ⟨_, _⟩ rfl
    dsimp only
    refine es_cons (e1_ret ?_)
    refine ev_name (i := 3) rfl ?_
    exact ⟨_, by walk_at "dr", by rw [show (f - b).toNat = (f + 1 - (b + 1)).toNat by omega] at q; exact q⟩
end
end TD

namespace TD
open PySem L2
/-! the numbers stay small -/
def SmB (b : Blk) : Prop := ∀ x ∈ b, 1 ≤ x.2 ∧ x.2 < 2 ^ 140
theorem pow142 (j : Nat) : (2 : Int) ^ (142 * (j + 1)) = 2 ^ (142 * j) * 2 ^ 142 := by rw [Nat.mul_succ, Int.pow_add]
theorem climb_sm {x : Int × Int} {b : Bool} {m W : Int} (h1 : 0 ≤ x.1 ∧ x.1 < W) (h2 : 0 ≤ x.2 ∧ x.2 < W) (hm : 1 ≤ m ∧ m < 2 ^ 140) : (0 ≤ (climb x b m).1 ∧ (climb x b m).1 < W * 2 ^ 142) ∧ 0 ≤ (climb x b m).2 ∧ (climb x b m).2 < W * 2 ^ 142 := by
  have key : ∀ y : Int, 0 ≤ y → y < W → 0 ≤ 2 * m * y ∧ 2 * m * y ≤ W * 2 ^ 141 := fun y hy hyw => by
    refine ⟨Int.mul_nonneg (by omega) hy, ?_⟩
    have a := Int.mul_le_mul_of_nonneg_right (show 2 * m ≤ 2 ^ 141 by omega) hy
    have b := Int.mul_le_mul_of_nonneg_left (show y ≤ W by omega) (show (0 : Int) ≤ 2 ^ 141 by decide)
    rw [Int.mul_comm W]; omega
  have k1 := key x.1 h1.1 h1.2
  have k2 := key x.2 h2.1 h2.2
  have e : W * 2 ^ 142 = W * 2 ^ 141 + W * 2 ^ 141 := by omega
  unfold climb
  cases b with
  | true => simp only [if_true]; omega
  | false => simp only [Bool.false_eq_true, if_false]; omega
theorem climbs_sm : ∀ (b : Blk) (x : Int × Int) (j : Nat), SmB b → (0 ≤ x.1 ∧ x.1 < 2 ^ (142 * j)) → (0 ≤ x.2 ∧ x.2 < 2 ^ (142 * j)) → j + b.length ≤ 50 →
    ClOk b x ∧ (0 ≤ (climbs b x).1 ∧ (climbs b x).1 < 2 ^ (142 * (j + b.length))) ∧ (0 ≤ (climbs b x).2 ∧ (climbs b x).2 < 2 ^ (142 * (j + b.length)))
  | [], x, j, _, h1, h2, _ => ⟨trivial, by simpa [climbs] using h1, by simpa [climbs] using h2⟩
  | (b, m) :: r, x, j, hs, h1, h2, hj => by
    have hm := hs (b, m) (by simp)
    obtain ⟨g1, g2⟩ := climb_sm (b := b) h1 h2 hm
    rw [← pow142] at g1 g2
    rw [List.length_cons] at hj
    obtain ⟨i1, i2, i3⟩ := climbs_sm r _ (j + 1) (fun y hy => hs y (by simp [hy])) g1 g2 (by omega)
    rw [climbs_cons, List.length_cons, show j + (r.length + 1) = j + 1 + r.length by omega]
    have e7 : (2 : Int) ^ (142 * j) ≤ ((2 ^ 7100 : Nat) : Int) := by
      have := Nat.pow_le_pow_right (show 0 < 2 by decide) (show 142 * j ≤ 7100 by omega)
      have e : (2 : Int) ^ (142 * j) = ((2 ^ (142 * j) : Nat) : Int) := by rw [Int.natCast_pow]; rfl
      rw [e]; exact Int.ofNat_le.mpr this
    have mk : ∀ y : Int, 0 ≤ y → y < 2 ^ (142 * j) → IntMulOk (2 * m) y := fun y hy hy2 => by
      refine mulOk (a := 150) (b := 7100) ?_ ?_ (by decide)
      · have h3 := hm.2
        have h4 := hm.1
        dsimp only at h3 h4
        have : (2 * m).natAbs < 2 ^ 141 := by omega
        exact Nat.lt_of_lt_of_le this (Nat.pow_le_pow_right (by decide) (by decide))
      · generalize (2 : Nat) ^ 7100 = Z at *
        generalize (2 : Int) ^ (142 * j) = Z2 at *
        omega
    exact ⟨⟨fun _ => mk _ h2.1 h2.2, fun _ => mk _ h1.1 h1.2, i1⟩, i2, i3⟩
theorem sumB_pos : ∀ (b : Blk) (o : Option Bool), AltB o b → 0 ≤ sumB b ∧ ∀ x ∈ b, 1 ≤ x.2 ∧ x.2 ≤ sumB b
  | [], _, _ => ⟨by simp [sumB], by simp⟩
  | (a, m) :: b, o, ⟨_, h2, h3⟩ => by
    obtain ⟨i1, i2⟩ := sumB_pos b _ h3
    have e : sumB ((a, m) :: b) = m + sumB b := by simp [sumB]
    rw [e]
    refine ⟨by omega, fun x hx => ?_⟩
    rcases List.mem_cons.mp hx with rfl | hx
    · exact ⟨h2, by dsimp only; omega⟩
    · have := i2 x hx; omega
theorem blocks_len (r : Row) (n : Int) : (blocks r n).length ≤ 2 * r.length + 1 := by
  rw [blocks_eq]
  have := blk_len r ([], 0)
  simp at this
  split
  · simp; omega
  · omega
/-- a row of few stretches, not too far, climbs well -/
structure Good (r : Row) (n : Int) : Prop where
  row : IsRow r
  le : lastP r ≤ n
  len : r.length ≤ 24
  far : n < 2 ^ 140
theorem Good.cl {r : Row} {n : Int} (g : Good r n) : ClOk (blocks r n) (1, 1) ∧ SzB (blocks r n) ∧ AltB none (blocks r n) ∧ (blocks r n).length ≤ 49 := by
  have hb := blkOf g.row g.le
  have hp := sumB_pos _ _ hb.alt
  have hl := blocks_len r n
  have hg := g.len
  have hf := g.far
  have hs : SmB (blocks r n) := fun x hx => by have := hp.2 x hx; rw [hb.sum] at this; omega
  refine ⟨(climbs_sm _ (1, 1) 1 hs (by decide) (by decide) (by omega)).1, fun a b e => ?_, hb.alt, by omega⟩
  have hla : a.length ≤ 49 := by have := congrArg List.length e; simp at this; omega
  obtain ⟨_, h1, h2⟩ := climbs_sm a (1, 1) 1 (fun x hx => hs x (by rw [e]; simp [hx])) (by decide) (by decide) (by omega)
  have e7 : (2 : Int) ^ (142 * (1 + a.length)) ≤ 2 ^ 8000 := by
    have := Nat.pow_le_pow_right (show 0 < 2 by decide) (show 142 * (1 + a.length) ≤ 8000 by omega)
    have e : (2 : Int) ^ (142 * (1 + a.length)) = ((2 ^ (142 * (1 + a.length)) : Nat) : Int) := by rw [Int.natCast_pow]; rfl
    have e2 : (2 : Int) ^ 8000 = ((2 ^ 8000 : Nat) : Int) := by rw [Int.natCast_pow]; rfl
    rw [e, e2]; exact Int.ofNat_le.mpr this
  generalize (2 : Int) ^ 8000 = Z at *
  generalize (2 : Int) ^ (142 * (1 + a.length)) = Z2 at *
  exact ⟨Int.lt_of_lt_of_le h1.2 e7, Int.lt_of_lt_of_le h2.2 e7⟩
/-! rows told of spots -/
theorem told_snoc (l : List Int) (s : Int) : told (l ++ [s]) = toldF (told l) s := by unfold told; rw [List.foldl_append]; rfl
theorem toldF_cases (r : Row) (s : Int) : (∃ r0 f e, r = r0 ++ [(f, e)] ∧ e + 1 = s ∧ toldF r s = r0 ++ [(f, s)]) ∨ ((∀ r0 z, r = r0 ++ [z] → z.2 + 1 ≠ s) ∧ toldF r s = r ++ [(s, s)]) := by
  rcases snoc_of r with e | ⟨l, z, e⟩
  · subst e; exact .inr ⟨fun r0 z h => by simp at h, by simp [toldF, tlIs]⟩
  · obtain ⟨f, g⟩ := z
    by_cases hz : g + 1 = s
    · exact .inl ⟨l, f, g, e, hz, by subst e; simp [toldF, tlIs, lastOf, hz]⟩
    · refine .inr ⟨fun r0 z h => ?_, by subst e; simp [toldF, tlIs, hz]⟩
      rw [e] at h
      obtain ⟨_, h2⟩ := List.append_inj' h rfl
      simp at h2
      rw [← h2]; exact hz
theorem Asc.snoc_inv {l : List Int} {a b s : Int} (h : Asc (l ++ [s]) a b) : Asc l a (s - 1) ∧ a ≤ s ∧ s ≤ b := by
  obtain ⟨h1, h2⟩ := h
  obtain ⟨g1, _, g3⟩ := List.pairwise_append.mp h1
  have := h2 s (by simp)
  refine ⟨⟨g1, fun x hx => ?_⟩, this.1, this.2⟩
  have := g3 x hx s (by simp)
  have := h2 x (by simp [hx])
  omega
theorem told_ok : ∀ (n : Nat) (l : List Int), l.length = n → ∀ b, Asc l 1 b → 0 ≤ b → IsRow (told l) ∧ lastP (told l) ≤ b ∧ ∀ s, l = [] ∨ (∃ l0, l = l0 ++ [s]) → lastP (told l) = if l = [] then 0 else s := by
  refine snoc_ind (fun b _ hb => ⟨trivial, hb, fun s _ => by simp [told, lastP]⟩) fun l s ih b h hb => ?_
  obtain ⟨h1, h2, h3⟩ := h.snoc_inv
  obtain ⟨i1, i2, _⟩ := ih (s - 1) h1 (by omega)
  have key : IsRow (told (l ++ [s])) ∧ lastP (told (l ++ [s])) = s := by
    rw [told_snoc]
    rcases toldF_cases (told l) s with ⟨r0, f, e, e1, e2, e3⟩ | ⟨e1, e2⟩
    · rw [e3]
      rw [e1] at i1
      obtain ⟨g1, g2, g3, g4⟩ := i1.snoc_inv
      exact ⟨g1.sn g2 g3 (by omega), by rw [lastP_snoc]⟩
    · rw [e2]
      refine ⟨i1.sn (by omega) (fun q hq => ?_) (Int.le_refl _), by rw [lastP_snoc]⟩
      have hq2 := row_le i1 q hq
      rcases snoc_of (told l) with z | ⟨r0, z, ez⟩
      · rw [z] at hq; cases hq
      · have := e1 r0 z ez
        rw [ez, lastP_snoc] at hq2
        rw [ez, lastP_snoc] at i2
        omega
  refine ⟨key.1, by rw [key.2]; exact h3, fun s' hs => ?_⟩
  rcases hs with hs | ⟨l0, hs⟩
  · simp at hs
  · rw [if_neg (by simp), key.2]
    obtain ⟨_, h2⟩ := List.append_inj' hs rfl
    simpa using h2
abbrev lad (l : List Int) (n : Int) : Int × Int := climbs (blocks (told l) n) (1, 1)
abbrev Dn (x : Int × Int) : Int × Int := climb x false 1
abbrev Up (x : Int × Int) : Int × Int := climb x true 1
theorem lad_dn {l : List Int} {n : Int} (h : Asc l 1 n) (h0 : 0 ≤ n) : lad l (n + 1) = Dn (lad l n) := ladder_tails (told_ok _ l rfl n h h0).2.1
theorem lad_up {l : List Int} {n : Int} (h : Asc l 1 n) (h0 : 0 ≤ n) : lad (l ++ [n + 1]) (n + 1) = Up (lad l n) := by
  unfold lad
  have hl := (told_ok _ l rfl n h h0).2.1
  rw [told_snoc]
  rcases toldF_cases (told l) (n + 1) with ⟨r0, f, e, e1, e2, e3⟩ | ⟨e1, e2⟩
  · rw [e3, e1, show e = n by omega]; exact ladder_longer
  · rw [e2]; exact ladder_heads hl h0
/-- the ladders of all rows that begin so -/
def rungsK (l : List Int) (b : Int) (k : Nat) : List (Int × Int) := (rowsK l b k).map fun x => lad x (b + k)
theorem rungsK_succ {l : List Int} {b : Int} (hl : Asc l 1 b) (h0 : 0 ≤ b) (k : Nat) : rungsK l b (k + 1) = (rungsK l b k).map Dn ++ (rungsK l b k).map Up := by
  unfold rungsK
  rw [rowsK, List.map_append, List.map_map, List.map_map, List.map_map]
  congr 1
  · refine List.map_congr_left fun x hx => ?_
    have := rowsK_mem h0 hl k x hx
    show lad x (b + ((k + 1 : Nat) : Int)) = Dn (lad x (b + k))
    rw [← lad_dn this (by omega)]; congr 1; omega
  · refine List.map_congr_left fun x hx => ?_
    have := rowsK_mem h0 hl k x hx
    show lad (x ++ [b + 1 + (k : Int)]) (b + ((k + 1 : Nat) : Int)) = Up (lad x (b + k))
    rw [← lad_up this (by omega)]
    have e : b + 1 + (k : Int) = b + k + 1 := by omega
    rw [e]; congr 1; omega
theorem sum_map_add (l : List (Int × Int)) (f g : Int × Int → Int) (c : Int) : (l.map fun x => f x + c * g x).sum = (l.map f).sum + c * (l.map g).sum := by
  induction l with
  | nil => simp
  | cons a l ih => simp only [List.map_cons, List.sum_cons, ih, Int.mul_add]; omega
/-- what they are together -/
def duo (p : Int × Int) : Nat → Int × Int
  | 0 => p
  | k + 1 => (2 * (duo p k).1 + 2 * (duo p k).2, 2 * (duo p k).1 + 2 * (duo p k).2)
theorem rungs_sum {l : List Int} {b : Int} (hl : Asc l 1 b) (h0 : 0 ≤ b) : ∀ k, ((rungsK l b k).map (·.1)).sum = (duo (lad l b) k).1 ∧ ((rungsK l b k).map (·.2)).sum = (duo (lad l b) k).2
  | 0 => by simp [rungsK, rowsK, duo]
  | k + 1 => by
    obtain ⟨i1, i2⟩ := rungs_sum hl h0 k
    rw [rungsK_succ hl h0, List.map_append, List.sum_append, List.map_append, List.sum_append, List.map_map, List.map_map, List.map_map, List.map_map]
    have e1 : (rungsK l b k).map ((fun x => x.1) ∘ Dn) = (rungsK l b k).map (·.1) := List.map_congr_left fun x _ => rfl
    have e2 : (rungsK l b k).map ((fun x => x.1) ∘ Up) = (rungsK l b k).map (fun x => x.1 + 2 * x.2) := List.map_congr_left fun x _ => by simp [climb]
    have e3 : (rungsK l b k).map ((fun x => x.2) ∘ Dn) = (rungsK l b k).map (fun x => x.2 + 2 * x.1) := List.map_congr_left fun x _ => by simp [climb]
    have e4 : (rungsK l b k).map ((fun x => x.2) ∘ Up) = (rungsK l b k).map (·.2) := List.map_congr_left fun x _ => rfl
    rw [e1, e2, e3, e4, sum_map_add, sum_map_add, i1, i2]
    simp only [duo]; omega
theorem climb1 (x : Int × Int) : Dn x = (x.1, x.2 + 2 * x.1) ∧ Up x = (x.1 + 2 * x.2, x.2) := by simp [climb]
theorem rungs_nodup {l : List Int} {b : Int} (hl : Asc l 1 b) (h0 : 0 ≤ b) (hp : 1 ≤ (lad l b).1 ∧ 1 ≤ (lad l b).2) : ∀ k, (rungsK l b k).Nodup ∧ ∀ x ∈ rungsK l b k, 1 ≤ x.1 ∧ 1 ≤ x.2
  | 0 => by simp [rungsK, rowsK]; simpa using hp
  | k + 1 => by
    obtain ⟨i1, i2⟩ := rungs_nodup hl h0 hp k
    rw [rungsK_succ hl h0]
    refine ⟨List.nodup_append.mpr ⟨?_, ?_, fun x hx y hy e => ?_⟩, fun x hx => ?_⟩
    · refine List.Pairwise.map _ (fun x y hne e => hne ?_) i1
      rw [(climb1 x).1, (climb1 y).1] at e
      obtain ⟨e1, e2⟩ := Prod.mk.inj e
      apply Prod.ext <;> omega
    · refine List.Pairwise.map _ (fun x y hne e => hne ?_) i1
      rw [(climb1 x).2, (climb1 y).2] at e
      obtain ⟨e1, e2⟩ := Prod.mk.inj e
      apply Prod.ext <;> omega
    · obtain ⟨u, hu, rfl⟩ := List.mem_map.mp hx
      obtain ⟨v, hv, rfl⟩ := List.mem_map.mp hy
      rw [(climb1 u).1, (climb1 v).2] at e
      obtain ⟨e1, e2⟩ := Prod.mk.inj e
      have := i2 u hu
      have := i2 v hv
      omega
    · rcases List.mem_append.mp hx with h | h
      · obtain ⟨u, hu, rfl⟩ := List.mem_map.mp h
        have := i2 u hu
        rw [(climb1 u).1]; dsimp only; omega
      · obtain ⟨u, hu, rfl⟩ := List.mem_map.mp h
        have := i2 u hu
        rw [(climb1 u).2]; dsimp only; omega
/-! a row moved up behind another -/
def upBy (c : Int) (r : Row) : Row := r.map fun p => (p.1 + c, p.2 + c)
theorem RowOk.up : ∀ {r : Row} {p c : Int}, RowOk p r → RowOk (p + c) (upBy c r)
  | [], _, _, _ => trivial
  | (f, l) :: r, p, c, ⟨h1, h2, h3⟩ => ⟨by dsimp only; omega, by dsimp only; omega, RowOk.up h3⟩
theorem RowOk.app : ∀ {r r' : Row} {p e : Int}, RowOk p r → (∀ q ∈ r, q.2 ≤ e) → p ≤ e → RowOk e r' → RowOk p (r ++ r')
  | [], r', p, e, _, _, h, h2 => rowOk_le r' p e h h2
  | (f, l) :: r, r', p, e, ⟨h1, h2, h3⟩, hq, h, h4 => ⟨h1, h2, RowOk.app h3 (fun q hq2 => hq q (by simp [hq2])) (hq (f, l) (by simp)) h4⟩
theorem lastP_le {r : Row} {e : Int} (h0 : 0 ≤ e) (h : ∀ q ∈ r, q.2 ≤ e) : lastP r ≤ e := by
  rcases snoc_of r with z | ⟨l, z, ez⟩
  · subst z; exact h0
  · subst ez; rw [lastP_snoc]; exact h z (by simp)
end TD

namespace TD
open PySem PySem.Spec PyProof.Rows L2
local macro_rules | `(tactic| walk_at "sd") => `(tactic| first | omega | decide | assumption)
local macro_rules | `(tactic| walk_at "sz") => `(tactic| first | decide | assumption | (simp only [List.length_append, List.length_map, List.length_cons, List.length_nil, sizeLine_eq] at *; omega))
local macro_rules | `(tactic| walk_at "mul") => `(tactic| first | exact mulOkL (by omega) | exact mulOkR (by omega) | exact mulOkL (by decide) | exact mulOkR (by decide) | assumption)
local macro_rules | `(tactic| walk_at "db") => `(tactic| first | decide | exact db_of (by omega) (by omega) | assumption)
local macro_rules | `(tactic| walk_at "ix") => `(tactic| first | rfl | exact atI_lastD _ _ | assumption)
local macro_rules | `(tactic| walk_at "ixn") => `(tactic| first | rfl | assumption)
local macro_rules | `(tactic| walk_at "dr") => `(tactic| repeat (first | exact List.Sublist.refl _ | refine List.Sublist.cons _ ?_))
local macro_rules | `(tactic| walk_at "kn") => `(tactic| repeat (first | exact Kn.nil | refine Kn.cons ?_ | refine Kn.lose ?_))
local macro_rules | `(tactic| walk_at "fin") => `(tactic| first | assumption | trivial)
local macro_rules | `(tactic| walk_at "tr") => `(tactic| first | refine t_bl ?_ | refine t_int ?_)
local macro_rules | `(tactic| walk_at "pl") => `(tactic| first | assumption | rfl)

local macro_rules | `(tactic| walk_at "om") => `(tactic| first | omega | (dsimp only; omega))
local macro_rules | `(tactic| walk_at "sd") => `(tactic| first | omega | decide +kernel | assumption | (dsimp only; omega))
local macro_rules | `(tactic| walk_at "db") => `(tactic| first | decide +kernel | exact db_of (by walk_at "om") (by walk_at "om") | assumption)
section
variable {P : Program} {w : World} {K : PySem.W.Frag} {mg : Str → Option Value} {base : Heap}
def C_law_right : Ct := mkC (fun x : Addr × Bg × Mu => [.ptr x.1]) fun x M Q _ => (M = (x.1, bgO x.2.1) :: x.2.2 ∧ x.2.1.2.2 < 2 ^ 40) ∧ ∀ y, Q (.bl true) ((x.1, bgO y) :: x.2.2)
theorem fil_asc {l : List Int} {n b : Int} (h : Asc l 1 n) : Asc ((l.filter fun s => decide (s ≤ b)).map fun s => s) 1 b := by
  rw [List.map_id']
  exact ⟨h.1.filter _, fun s hs => by
    obtain ⟨h1, h2⟩ := List.mem_filter.mp hs
    have := h.2 s h1
    simp at h2; omega⟩
theorem asc_len {l : List Int} {a b : Int} (h : Asc l a b) (ha : 1 ≤ a) (hb : b ≤ 100) : l.length ≤ 100 := by have := h.len; omega
theorem told_good {l : List Int} {n : Int} (h : Asc l 1 n) (h0 : 0 ≤ n) (h1 : n ≤ 10) : Good (told l) n := by
  obtain ⟨g1, g2, _⟩ := told_ok _ l rfl n h h0
  have a := h.len
  have b := told_len l []
  exact ⟨g1, g2, by simp at b; unfold told; omega, by omega⟩
/-- a number of a pair -/
def nth (a : Nat) (p : Int × Int) : Int := if a = 0 then p.1 else p.2
theorem nth_at {a : Nat} (h : a < 2) (p : Int × Int) : atI [DE.enc p.1, DE.enc p.2] (0 + (a : Int)) = some (.int (nth a p)) := by
  have : a = 0 ∨ a = 1 := by omega
  rcases this with rfl | rfl <;> rfl
theorem flat_row (r : Row) (n : Int) : flatD 3 (DE.enc (r, n)) = true := by
  show flatD 3 (.tup [.lst (r.map DE.enc), .int n]) = true
  have h2 : flatD 2 (.lst (r.map DE.enc)) = true := by
    rw [flatD, List.all_map]
    exact List.all_eq_true.mpr fun p _ => by
      show flatD 1 (.tup [.int p.1, .int p.2]) = true
      simp [flatD]
  rw [flatD, List.all_cons, h2]; simp [flatD]
theorem Good.at {r : Row} {n m : Int} (g : Good r n) (h : lastP r ≤ m) (h2 : m ≤ n) : Good r m := ⟨g.row, h, g.len, by have := g.far; omega⟩
theorem lad_first {r : Row} {n : Int} (h : lastP r ≤ n) : (climbs (blocks r n) (1, 1)).1 = (climbs (blocks r (lastP r)) (1, 1)).1 := by
  rw [blocks_eq, blocks_eq, if_neg (show ¬ lastP r < lastP r by omega)]
  split
  · rw [climbs_snoc]; rfl
  · rfl
theorem least_ne (r : Row) : (if (!decide (r = [])) = true then lastP r else 0) = lastP r := by
  cases r with
  | nil => rfl
  | cons a r => rw [if_pos]; simp
theorem far_good {L : List Int} {n f : Int} {ab : Row} (hL : Asc L 1 n) (h0 : 0 ≤ n) (h1 : n ≤ f) (h2 : f ≤ 10) (h : IsRow ab) (hl : (ab.length : Int) ≤ 8) (hq : ∀ q ∈ ab, q.2 ≤ 1 + 8 * (2 * 10 ^ (38 : Int).toNat + 10)) :
    Good (told L ++ ab.map fun q => (q.1 + f + 1, q.2 + f + 1)) (lastP (told L ++ ab.map fun q => (q.1 + f + 1, q.2 + f + 1)) + 4) := by
  have g := told_good hL h0 (by omega)
  have e : (ab.map fun q => (q.1 + f + 1, q.2 + f + 1)) = upBy (f + 1) ab := List.map_congr_left fun q _ => by simp [Int.add_assoc]
  rw [e]
  have hr : IsRow (told L ++ upBy (f + 1) ab) := RowOk.app g.row (e := f) (fun q hq => by have := row_le g.row q hq; have := g.le; omega) (by omega) (by have := RowOk.up (c := f + 1) h; rwa [show -1 + (f + 1) = f by omega] at this)
  refine ⟨hr, by omega, ?_, ?_⟩
  · have a := hL.len
    have b := told_len L []
    rw [List.length_append]; unfold upBy told; rw [List.length_map]; simp at b; omega
  · have : lastP (told L ++ upBy (f + 1) ab) ≤ 2 ^ 139 := lastP_le (by decide) fun q hq2 => by
      rcases List.mem_append.mp hq2 with w | w
      · have := row_le g.row q w; have := g.le; omega
      · obtain ⟨z, hz, rfl⟩ := List.mem_map.mp w
        have := hq z hz
        have e38 : (10 : Int) ^ (38 : Int).toNat = 100000000000000000000000000000000000000 := by decide +kernel
        rw [e38] at this
        dsimp only; omega
    omega
abbrev s_law_right : Stmt := topS 28
theorem sc_law_right : FnScope ["bag", "far", "begun", "spots", "spot", "rungs", "some", "p", "q", "due", "k", "rung", "above", "told", "begin", "last", "found", "beyond"] ["bag"] (defScope s_law_right) := ⟨rfl, rfl, rfl, by decide +kernel, rfl, by decide +kernel, by decide +kernel⟩
theorem ok_law_right (B : Blt mg) (F : DfAt K mg "_law_right" s_law_right ["bag"]) (h_law_draw : FnD P w K mg base 1 "_law_draw" C_law_draw) (h_law_spots : FnD P w K mg base 2 "_law_spots" C_law_spots) (h_law_far_row : FnD P w K mg base 2 "_law_far_row" C_law_far_row) (h_law_told : FnD P w K mg base 1 "_law_told" C_law_told) (h_law_rows : FnD P w K mg base 2 "_law_rows" C_law_rows) (h_ladder : FnD P w K mg base 5 "ladder" C_ladder) (h_row_by : FnD P w K mg base 7 "row_by" C_row_by) (h_way_of : FnD P w K mg base 6 "way_of" C_way_of) (h_law_same : FnD P w K mg base 4 "_law_same" (C_law_same 3))  : FnD P w K mg base 8 "_law_right" C_law_right := by
  refine FnD.of F sc_law_right (fun x => rfl) (by decide) fun Z t M Q E hC ok po => ?_
  obtain ⟨p, y, M0⟩ := t
  obtain ⟨⟨e, hc⟩, q⟩ := hC
  dsimp only at e hc q ⊢
  subst e
  refine es_cons (e1_set 1 ?_)
  refine ev_call h_law_draw ?_
  refine ea_cons ?_
  refine ev_name (i := 0) rfl ?_
  refine ea_cons ?_
  refine ev_int ?_
  refine ea_nil ?_
  refine C_law_draw.mk (by omega) (by omega) (by omega) fun r1 y1 l1 u1 c1 => ?_
  refine es_cons (e1_set 2 ?_)
  refine ev_call h_law_draw ?_
  refine ea_cons ?_
  refine ev_name (i := 0) rfl ?_
  refine ea_cons ?_
  refine ev_bin ?_
  refine ev_name (i := 1) rfl ?_
  refine ev_int ?_
  first | refine o_add ?_ | refine o_cat (by walk_at "sz") ?_
  refine ea_nil ?_
  refine C_law_draw.mk (by omega) (by omega) (by omega) fun r2 y2 l2 u2 c2 => ?_
  obtain ⟨k, rfl⟩ : ∃ k : Nat, r1 = r2 + k := ⟨(r1 - r2).toNat, by omega⟩
  have hk6 : k ≤ 6 := by omega
  refine es_cons (e1_setLc (.one 4) 3 (own := [("spot", 4)]) (blkOk_by (N := ["bag", "far", "begun", "spots", "spot", "rungs", "some", "p", "q", "due", "k", "rung", "above", "told", "begin", "last", "found", "beyond"]) (sc := defScope s_law_right) (by decide +kernel)) rfl (fun _ _ _ _ _ => pg_name (i := 4) ok.nd rfl (by first | exact Or.inl rfl | exact Or.inr rfl)) (sw_true rfl rfl rfl (by decide +kernel)) ?_)
  refine ei_list ?_
  refine ev_call h_law_spots ?_
  refine ea_cons ?_
  refine ev_name (i := 0) rfl ?_
  refine ea_cons ?_
  refine ev_name (i := 1) rfl ?_
  refine ea_nil ?_
  refine C_law_spots.mk (by omega) (by omega) (by omega) fun sp y3 hsp c3 => ?_
  refine ⟨_, .lst _, ?_⟩
  refine lcL_filter (α := Int) (β := Int) D.int (fun s => decide (s ≤ r2)) (fun s => s) D.int _ sp (fun _ => rfl) (by have := asc_len hsp (by omega) (by omega); rw [sizeLine_eq]; omega) ?_ ?_ ?_
  · intro a ha s H C cl fp
    refine et_cmp (nomark _) ?_
    refine ev_name (i := 4) rfl ?_
    refine ev_name (i := 2) rfl ?_
    refine o_le ?_
    refine isB.mk ?_
    exact ⟨rfl, rfl⟩
  · intro a ha hp s H C cl fp
    refine ev_name (i := 4) rfl ?_
    exact ⟨rfl, rfl⟩
  have hL := fil_asc (b := r2) hsp
  generalize (sp.filter fun s => decide (s ≤ r2)).map (fun s => s) = L at hL ⊢
  have hll := asc_len hL (by omega) (by omega)
  refine es_cons (e1_set 5 ?_)
  refine ev_lc (.one 6) (own := [("some", 6)]) (blkOk_by (N := ["bag", "far", "begun", "spots", "spot", "rungs", "some", "p", "q", "due", "k", "rung", "above", "told", "begin", "last", "found", "beyond"]) (sc := defScope s_law_right) (by decide +kernel)) rfl (fun _ _ _ _ _ => pg_name (i := 6) ok.nd rfl (by first | exact Or.inl rfl | exact Or.inr rfl)) ?_
  refine ei_list ?_
  refine ev_call h_law_rows ?_
  refine ea_cons ?_
  refine ev_name (i := 3) rfl ?_
  refine ea_cons ?_
  refine ev_name (i := 2) rfl ?_
  refine ea_cons ?_
  refine ev_name (i := 1) rfl ?_
  refine ea_nil ?_
  refine ⟨(L, r2, r2 + k), rfl, ⟨hL, l2, by dsimp only; omega, by dsimp only; omega⟩, ?_⟩
  dsimp only
  rw [show (r2 + (k : Int) - r2).toNat = k by omega]
  have hrl : (rowsK L r2 k).length ≤ 64 := by rw [rowsK_len]; exact Nat.pow_le_pow_right (by decide) hk6
  refine ⟨_, .lst _, ?_⟩
  refine lcL_map (α := List Int) DE.enc (fun x => lad x (r2 + k)) DE.enc _ (rowsK L r2 k) (fun _ => rfl) (by rw [sizeLine_eq]; omega) ?_ ?_
  · intro a ha s H C cl fp
    have hA := rowsK_mem l2 hL k a ha
    have g := told_good hA (by omega) (by omega)
    have gc := g.cl
    refine ev_call h_ladder ?_
    refine ea_cons ?_
    refine ev_call h_law_told ?_
    refine ea_cons ?_
    refine ev_name (i := 6) rfl ?_
    refine ea_nil ?_
    refine ⟨a, rfl, by have := asc_len hA (by omega) (by omega); omega, ?_⟩
    refine ea_cons ?_
    refine ev_name (i := 1) rfl ?_
    refine ea_nil ?_
    refine ⟨(told a, r2 + k), rfl, ⟨g.row, g.le, by have := g.len; dsimp only; omega, gc.1⟩, ?_⟩
    exact ⟨rfl, rfl⟩
  have hrs := rungs_sum hL l2 k
  have gL := told_good hL l2 (by omega)
  have gLc := gL.cl
  have hpo := climbs_ord _ _ rfl gLc.2.2.1
  have hnd := (rungs_nodup hL l2 ⟨hpo.1, hpo.2.1⟩ k).1
  have hrn : (rungsK L r2 k).length ≤ 64 := by unfold rungsK; rw [List.length_map]; exact hrl
  skip
  refine es_cons (e1_asg ?_)
  refine ev_call h_ladder ?_
  refine ea_cons ?_
  refine ev_call h_law_told ?_
  refine ea_cons ?_
  refine ev_name (i := 3) rfl ?_
  refine ea_nil ?_
  refine ⟨L, rfl, by omega, ?_⟩
  refine ea_cons ?_
  refine ev_name (i := 2) rfl ?_
  refine ea_nil ?_
  refine ⟨(told L, r2), rfl, ⟨gL.row, gL.le, by have := gL.len; dsimp only; omega, gLc.1⟩, ?_⟩
  dsimp only
  unfold lad at hrs
  generalize climbs (blocks (told L) r2) (1, 1) = pq at hrs hpo ⊢
  refine eg_tup ?_
  refine egs_cons ?_
  refine eg_name 7 ?_
  refine egs_cons ?_
  refine eg_name 8 ?_
  refine egs_nil ?_
  refine es_cons (e1_set 9 ?_)
  refine ev_lst ?_
  refine ea_cons ?_
  refine ev_name (i := 7) rfl ?_
  refine ea_cons ?_
  refine ev_name (i := 8) rfl ?_
  refine ea_nil ?_
  refine ⟨by walk_at "sz", ?_⟩
  refine es_join ([some (.ptr p), some (.int (r2 + k)), some (.int r2), some (DE.enc L), none, some (DE.enc (rungsK L r2 k)), none, some (.int pq.1), some (.int pq.2), some (.lst [.int (duo pq k).1, .int (duo pq k).2]), none, none, none, none, none, none, none, none]) ((p, bgO y3) :: M0) (e1_if ?_) ?_
  · refine et_cmp (nomark _) ?_
    refine ev_name (i := 1) rfl ?_
    refine ev_name (i := 2) rfl ?_
    refine o_gt ?_
    refine isB.mk ?_
    refine if_2 (fun hI1 => ?_) (fun hI1 => ?_)
    · have hk1 : 0 < k := by simp at hI1; omega
      refine es_cons (e1_set 9 ?_)
      refine ev_lst ?_
      refine ea_cons ?_
      refine ev_bin ?_
      refine ev_bin ?_
      refine ev_int ?_
      refine ev_name (i := 7) rfl ?_
      first | refine o_mul (by walk_at "mul") ?_ | refine o_rep (by walk_at "sd") (by walk_at "sd") (by walk_at "sz") ?_
      refine ev_bin ?_
      refine ev_int ?_
      refine ev_name (i := 8) rfl ?_
      first | refine o_mul (by walk_at "mul") ?_ | refine o_rep (by walk_at "sd") (by walk_at "sd") (by walk_at "sz") ?_
      first | refine o_add ?_ | refine o_cat (by walk_at "sz") ?_
      refine ea_cons ?_
      refine ev_bin ?_
      refine ev_bin ?_
      refine ev_int ?_
      refine ev_name (i := 7) rfl ?_
      first | refine o_mul (by walk_at "mul") ?_ | refine o_rep (by walk_at "sd") (by walk_at "sd") (by walk_at "sz") ?_
      refine ev_bin ?_
      refine ev_int ?_
      refine ev_name (i := 8) rfl ?_
      first | refine o_mul (by walk_at "mul") ?_ | refine o_rep (by walk_at "sd") (by walk_at "sd") (by walk_at "sz") ?_
      first | refine o_add ?_ | refine o_cat (by walk_at "sz") ?_
      refine ea_nil ?_
      refine ⟨by walk_at "sz", ?_⟩
      refine es_cons (e1_for ?_)
      refine ei_range1 B.range ?_
      refine ea_cons ?_
      refine ev_bin ?_
      refine ev_bin ?_
      refine ev_name (i := 1) rfl ?_
      refine ev_name (i := 2) rfl ?_
      refine o_sub ?_
      refine ev_int ?_
      refine o_sub ?_
      refine ea_nil ?_
      refine ⟨_, rfl, by walk_at "sd", by walk_at "sd", ?_⟩
      refine forL_rng (S := Int × Int) (fun s => [some (.ptr p), some (.int (r2 + k)), some (.int r2), some (DE.enc L), none, some (DE.enc (rungsK L r2 k)), none, some (.int pq.1), some (.int pq.2), some (.lst [.int s.1, .int s.2]), none, none, none, none, none, none, none, none]) (fun _ => (p, bgO y3) :: M0) (fun i s => s = duo pq (i + 1)) (duo pq 1) mono_es rfl ?_ ?_
      · rintro i s hi rfl
        dsimp only
        refine eg_name 10 ?_
        refine es_cons (e1_set 9 ?_)
        refine ev_lst ?_
        refine ea_cons ?_
        refine ev_bin ?_
        refine ev_int ?_
        refine ev_ix (fun _ _ => rfl) ?_
        refine ev_name (i := 9) rfl ?_
        refine ev_int ?_
        first | refine x_tup (by walk_at "ix") ?_ | refine x_lst (by walk_at "ix") ?_ | refine x_scr (by walk_at "ix") ?_ | refine x_seq (by assumption) (by walk_at "ix") ?_
        first | refine o_mul (by walk_at "mul") ?_ | refine o_rep (by walk_at "sd") (by walk_at "sd") (by walk_at "sz") ?_
        refine ea_cons ?_
        refine ev_bin ?_
        refine ev_int ?_
        refine ev_ix (fun _ _ => rfl) ?_
        refine ev_name (i := 9) rfl ?_
        refine ev_int ?_
        first | refine x_tup (by walk_at "ix") ?_ | refine x_lst (by walk_at "ix") ?_ | refine x_scr (by walk_at "ix") ?_ | refine x_seq (by assumption) (by walk_at "ix") ?_
        first | refine o_mul (by walk_at "mul") ?_ | refine o_rep (by walk_at "sd") (by walk_at "sd") (by walk_at "sz") ?_
        refine ea_nil ?_
        refine ⟨by walk_at "sz", ?_⟩
        refine es_nil ?_
        exact ⟨duo pq (i + 2), rfl, by rw [show duo pq (i + 2) = (4 * (duo pq (i + 1)).1, 4 * (duo pq (i + 1)).2) by simp only [duo]; apply Prod.ext <;> dsimp only <;> omega]; walk_at "kn", rfl⟩
      · rintro s rfl
        rw [show (r2 + (k : Int) - r2 - 1).toNat + 1 = k by omega]
        refine es_nil ?_
        exact ⟨by walk_at "kn", rfl⟩
    · have hk0 : k = 0 := by simp at hI1; omega
      have ed : duo pq k = pq := by rw [hk0]; rfl
      rw [ed]
      refine es_nil ?_
      exact ⟨by walk_at "kn", rfl⟩
  · refine es_cons (e1_if ?_)
    refine et_w ?_
    apply ew_orP false false
    · refine et_cmp (nomark _) ?_
      refine ev_lc (.one 10) (own := [("k", 10)]) (blkOk_by (N := ["bag", "far", "begun", "spots", "spot", "rungs", "some", "p", "q", "due", "k", "rung", "above", "told", "begin", "last", "found", "beyond"]) (sc := defScope s_law_right) (by decide +kernel)) rfl (fun _ _ _ _ _ => pg_name (i := 10) ok.nd rfl (by first | exact Or.inl rfl | exact Or.inr rfl)) ?_
      refine ei_range1 B.range ?_
      refine ea_cons ?_
      refine ev_int ?_
      refine ea_nil ?_
      refine ⟨_, rfl, by walk_at "sd", by walk_at "sd", ?_⟩
      refine lcL_map (α := Nat) (fun i => D.int (0 + (i : Nat))) (fun a => ((rungsK L r2 k).map (nth a)).sum) D.int _ (List.range (Int.toNat 2)) (fun _ => rfl) (by decide +kernel) ?_ ?_
      · intro a ha s H C cl fp
        have ha2 : a < 2 := by simpa using ha
        refine ev_callB (id := "sum") B.sum (by decide +kernel) ?_
        refine ea_cons ?_
        refine ev_lc (.one 11) (own := [("rung", 11)]) (blkOk_by (by rfl)) rfl (fun _ _ _ _ _ => pg_name (i := 11) ok.nd rfl (by first | exact Or.inl rfl | exact Or.inr rfl)) ?_
        refine ei_list ?_
        refine ev_name (i := 5) rfl ?_
        refine ⟨_, .lst _, ?_⟩
        refine lcL_map (α := Int × Int) DE.enc (nth a) D.int _ (rungsK L r2 k) (fun _ => rfl) (by rw [sizeLine_eq]; omega) ?_ ?_
        · intro b hb s H C cl fp
          refine ev_ix (fun _ _ => rfl) ?_
          refine ev_name (i := 11) rfl ?_
          refine ev_name (i := 10) rfl ?_
          refine x_tup (nth_at ha2 b) ?_
          exact ⟨rfl, rfl⟩
        refine ea_nil ?_
        refine c_sum ?_
        exact ⟨rfl, rfl⟩
      refine ev_name (i := 9) rfl ?_
      refine o_neE (a := (List.range (Int.toNat 2)).map fun a => ((rungsK L r2 k).map (nth a)).sum) (b := [(duo pq k).1, (duo pq k).2]) ?_
      refine isB.mk ?_
      exact ⟨by rw [decide_eq_true (show (List.range (Int.toNat 2)).map (fun a => ((rungsK L r2 k).map (nth a)).sum) = [(duo pq k).1, (duo pq k).2] by rw [← hrs.1, ← hrs.2]; rfl)]; rfl, rfl⟩
    · intro hO1
      refine ew_or1 ?_
      refine et_cmp (nomark _) ?_
      refine ev_lenSet B.len B.set ?_
      refine ev_name (i := 5) rfl ?_
      refine ⟨rungsK L r2 k, rfl, hrn, hnd, ?_⟩
      refine ev_callB (id := "len") B.len (by decide +kernel) ?_
      refine ea_cons ?_
      refine ev_name (i := 5) rfl ?_
      refine ea_nil ?_
      first | refine c_lenL ?_ | refine c_lenT ?_ | refine c_lenS ?_ | refine c_lenX (by walk_at "sz") ?_
      first | refine o_neI ?_ | refine o_neB ?_ | refine o_neS ?_
      refine isB.mk ?_
      exact ⟨by simp, rfl⟩
    refine if_f (rfl) ?_
    refine es_nil ?_
    refine es_cons (e1_set 12 ?_)
    refine ev_call h_law_far_row ?_
    refine ea_cons ?_
    refine ev_name (i := 0) rfl ?_
    refine ea_cons ?_
    refine ev_int ?_
    refine ea_cons ?_
    refine ev_bin ?_
    refine ev_int ?_
    refine ev_int ?_
    refine o_pow (b := 200) (by walk_at "db") (by walk_at "sd") (by walk_at "sd") ?_
    refine ea_nil ?_
    refine C_law_far_row.mk (by omega) (by omega) (by omega) (by decide +kernel) (by decide +kernel) fun ab y4 hab hal haq c4 => ?_
    refine es_cons (e1_set 13 ?_)
    refine ev_bin ?_
    refine ev_call h_law_told ?_
    refine ea_cons ?_
    refine ev_name (i := 3) rfl ?_
    refine ea_nil ?_
    refine ⟨L, rfl, by omega, ?_⟩
    refine ev_lc (.two 14 15) (own := [("begin", 14), ("last", 15)]) (blkOk_by (N := ["bag", "far", "begun", "spots", "spot", "rungs", "some", "p", "q", "due", "k", "rung", "above", "told", "begin", "last", "found", "beyond"]) (sc := defScope s_law_right) (by decide +kernel)) rfl (fun _ _ _ _ _ => pg_tup rfl (pgs_cons (pg_name (i := 14) ok.nd rfl (by first | exact Or.inl rfl | exact Or.inr rfl)) (pgs_cons (pg_name (i := 15) ok.nd rfl (by first | exact Or.inl rfl | exact Or.inr rfl)) pgs_nil))) ?_
    refine ei_list ?_
    refine ev_name (i := 12) rfl ?_
    refine ⟨_, .lst _, ?_⟩
    refine lcL_map (α := Int × Int) DE.enc (fun q => (q.1 + (r2 + k) + 1, q.2 + (r2 + k) + 1)) DE.enc _ ab (fun q => ⟨_, _, rfl, rfl⟩) (by rw [sizeLine_eq]; omega) ?_ ?_
    · intro a ha s H C cl fp
      refine ev_tup ?_
      refine ea_cons ?_
      refine ev_bin ?_
      refine ev_bin ?_
      refine ev_name (i := 14) rfl ?_
      refine ev_name (i := 1) rfl ?_
      first | refine o_add ?_ | refine o_cat (by walk_at "sz") ?_
      refine ev_int ?_
      first | refine o_add ?_ | refine o_cat (by walk_at "sz") ?_
      refine ea_cons ?_
      refine ev_bin ?_
      refine ev_bin ?_
      refine ev_name (i := 15) rfl ?_
      refine ev_name (i := 1) rfl ?_
      first | refine o_add ?_ | refine o_cat (by walk_at "sz") ?_
      refine ev_int ?_
      first | refine o_add ?_ | refine o_cat (by walk_at "sz") ?_
      refine ea_nil ?_
      refine ⟨by walk_at "sz", ?_⟩
      exact ⟨rfl, rfl⟩
    refine o_cat (by have := gL.len; simp only [List.length_map]; rw [sizeLine_eq]; omega) ?_
    rw [← List.map_append]
    have gR := far_good hL l2 (show r2 ≤ r2 + (k : Int) by omega) (by omega) hab hal haq
    generalize told L ++ ab.map (fun q : Int × Int => (q.1 + (r2 + k) + 1, q.2 + (r2 + k) + 1)) = R at gR ⊢
    refine es_cons (e1_set 15 ?_)
    apply ev_iteF (D.int) _ (lastP R) 0
    · refine et_cmp (nomark _) ?_
      refine ev_name (i := 13) rfl ?_
      refine ev_lst ?_
      refine ea_nil ?_
      refine ⟨by walk_at "sz", ?_⟩
      refine o_neE (a := R) (b := ([] : Row)) ?_
      refine isB.mk ?_
      exact ⟨rfl, rfl⟩
    · intro hX2
      obtain ⟨l, z, e⟩ : ∃ l z, R = l ++ [z] := by
        rcases snoc_of R with h | h
        · rw [h] at hX2; simp at hX2
        · exact h
      have el : lastP R = z.2 := by rw [e]; simp [lastP]
      refine ev_ix (fun _ _ => rfl) ?_
      refine ev_ix (fun _ _ => rfl) ?_
      refine ev_name (i := 13) rfl ?_
      refine ev_un ?_
      refine ev_int ?_
      refine o_neg ?_
      refine x_lst (last_enc e) ?_
      refine ev_int ?_
      first | refine x_tup (by walk_at "ix") ?_ | refine x_lst (by walk_at "ix") ?_ | refine x_scr (by walk_at "ix") ?_ | refine x_seq (by assumption) (by walk_at "ix") ?_
      exact ⟨by rw [el]; rfl, rfl⟩
    · intro hX2
      refine ev_int ?_
      exact ⟨rfl, rfl⟩
    refine es_cons (e1_set 16 ?_)
    refine ev_call h_ladder ?_
    refine ea_cons ?_
    refine ev_name (i := 13) rfl ?_
    refine ea_cons ?_
    refine ev_bin ?_
    refine ev_name (i := 15) rfl ?_
    refine ev_int ?_
    first | refine o_add ?_ | refine o_cat (by walk_at "sz") ?_
    refine ea_nil ?_
    rw [least_ne]
    have g3 := gR.at (m := lastP R + 3) (by omega) (by omega)
    have c3 := g3.cl
    refine ⟨(R, lastP R + 3), rfl, ⟨g3.row, g3.le, by have := g3.len; dsimp only; omega, c3.1⟩, ?_⟩
    dsimp only
    refine es_cons (e1_if ?_)
    refine et_w ?_
    apply ew_orP false false
    · refine et_not ?_
      refine et_val ?_
      refine ev_call h_law_same ?_
      refine ea_cons ?_
      refine ev_call h_row_by ?_
      refine ea_cons ?_
      refine ev_ix (fun _ _ => rfl) ?_
      refine ev_name (i := 16) rfl ?_
      refine ev_int ?_
      first | refine x_tup (by walk_at "ix") ?_ | refine x_lst (by walk_at "ix") ?_ | refine x_scr (by walk_at "ix") ?_ | refine x_seq (by assumption) (by walk_at "ix") ?_
      refine ea_cons ?_
      refine ev_ix (fun _ _ => rfl) ?_
      refine ev_name (i := 16) rfl ?_
      refine ev_int ?_
      first | refine x_tup (by walk_at "ix") ?_ | refine x_lst (by walk_at "ix") ?_ | refine x_scr (by walk_at "ix") ?_ | refine x_seq (by assumption) (by walk_at "ix") ?_
      refine ea_nil ?_
      refine ⟨blocks R (lastP R + 3), rfl, ⟨c3.2.2.1, c3.2.1, by have := c3.2.2.2; omega, by rw [rowOf_blocks g3.row g3.le]; have := g3.len; omega⟩, ?_⟩
      rw [rowOf_blocks g3.row g3.le, show ((blocks R (lastP R + 3)).map (·.2)).sum = lastP R + 3 from (blkOf g3.row g3.le).sum]
      refine ea_cons ?_
      refine ev_tup ?_
      refine ea_cons ?_
      refine ev_name (i := 13) rfl ?_
      refine ea_cons ?_
      refine ev_bin ?_
      refine ev_name (i := 15) rfl ?_
      refine ev_int ?_
      first | refine o_add ?_ | refine o_cat (by walk_at "sz") ?_
      refine ea_nil ?_
      refine ⟨by walk_at "sz", ?_⟩
      refine ea_nil ?_
      refine ⟨DE.enc (R, lastP R + 3), rfl, flat_row _ _, ?_⟩
      walk_at "tr"
      exact ⟨rfl, rfl⟩
    · intro hO3
      refine ew_or1 ?_
      refine et_cmp (nomark _) ?_
      refine ev_call h_way_of ?_
      refine ea_cons ?_
      refine ev_name (i := 13) rfl ?_
      refine ea_nil ?_
      have g0 := gR.at (m := lastP R) (by omega) (by omega)
      refine ⟨R, rfl, ⟨g0.row, by have := g0.len; omega, g0.cl.1⟩, ?_⟩
      refine ev_bin ?_
      refine ev_ix (fun _ _ => rfl) ?_
      refine ev_name (i := 16) rfl ?_
      refine ev_int ?_
      first | refine x_tup (by walk_at "ix") ?_ | refine x_lst (by walk_at "ix") ?_ | refine x_scr (by walk_at "ix") ?_ | refine x_seq (by assumption) (by walk_at "ix") ?_
      refine ev_int ?_
      refine o_sub ?_
      first | refine o_neI ?_ | refine o_neB ?_ | refine o_neS ?_
      refine isB.mk ?_
      exact ⟨by rw [lad_first (show lastP R ≤ lastP R + 3 by omega)]; simp, rfl⟩
    refine if_f (rfl) ?_
    refine es_nil ?_
    refine es_cons (e1_set 17 ?_)
    refine ev_call h_ladder ?_
    refine ea_cons ?_
    refine ev_name (i := 13) rfl ?_
    refine ea_cons ?_
    refine ev_bin ?_
    refine ev_name (i := 15) rfl ?_
    refine ev_int ?_
    first | refine o_add ?_ | refine o_cat (by walk_at "sz") ?_
    refine ea_nil ?_
    refine ⟨(R, lastP R + 4), rfl, ⟨gR.row, gR.le, by have := gR.len; dsimp only; omega, gR.cl.1⟩, ?_⟩
    dsimp only
    refine es_cons (e1_ret ?_)
    refine ev_cmp (nomark _) ?_
    refine ev_name (i := 17) rfl ?_
    refine ev_tup ?_
    refine ea_cons ?_
    refine ev_ix (fun _ _ => rfl) ?_
    refine ev_name (i := 16) rfl ?_
    refine ev_int ?_
    first | refine x_tup (by walk_at "ix") ?_ | refine x_lst (by walk_at "ix") ?_ | refine x_scr (by walk_at "ix") ?_ | refine x_seq (by assumption) (by walk_at "ix") ?_
    refine ea_cons ?_
    refine ev_bin ?_
    refine ev_ix (fun _ _ => rfl) ?_
    refine ev_name (i := 16) rfl ?_
    refine ev_int ?_
    first | refine x_tup (by walk_at "ix") ?_ | refine x_lst (by walk_at "ix") ?_ | refine x_scr (by walk_at "ix") ?_ | refine x_seq (by assumption) (by walk_at "ix") ?_
    refine ev_bin ?_
    refine ev_int ?_
    refine ev_ix (fun _ _ => rfl) ?_
    refine ev_name (i := 16) rfl ?_
    refine ev_int ?_
    first | refine x_tup (by walk_at "ix") ?_ | refine x_lst (by walk_at "ix") ?_ | refine x_scr (by walk_at "ix") ?_ | refine x_seq (by assumption) (by walk_at "ix") ?_
    first | refine o_mul (by walk_at "mul") ?_ | refine o_rep (by walk_at "sd") (by walk_at "sd") (by walk_at "sz") ?_
    first | refine o_add ?_ | refine o_cat (by walk_at "sz") ?_
    refine ea_nil ?_
    refine ⟨by walk_at "sz", ?_⟩
    refine o_eqE (a := climbs (blocks R (lastP R + 4)) (1, 1)) (b := ((climbs (blocks R (lastP R + 3)) (1, 1)).1, (climbs (blocks R (lastP R + 3)) (1, 1)).2 + 2 * (climbs (blocks R (lastP R + 3)) (1, 1)).1)) ?_
    exact ⟨_, by walk_at "dr", by rw [decide_eq_true (by rw [show lastP R + 4 = lastP R + 3 + 1 by omega, ladder_tails (by omega)]; exact (climb1 _).1)]; exact q y4⟩
end
end TD

namespace TD
open PySem PySem.Spec PyProof.Rows L2
local macro_rules | `(tactic| walk_at "sd") => `(tactic| first | omega | decide | assumption)
local macro_rules | `(tactic| walk_at "sz") => `(tactic| first | decide | assumption | (simp only [List.length_append, List.length_map, List.length_cons, List.length_nil, sizeLine_eq] at *; omega))
local macro_rules | `(tactic| walk_at "mul") => `(tactic| first | exact mulOkL (by omega) | exact mulOkR (by omega) | exact mulOkL (by decide) | exact mulOkR (by decide) | assumption)
local macro_rules | `(tactic| walk_at "db") => `(tactic| first | decide | exact db_of (by omega) (by omega) | assumption)
local macro_rules | `(tactic| walk_at "ix") => `(tactic| first | rfl | exact atI_lastD _ _ | assumption)
local macro_rules | `(tactic| walk_at "ixn") => `(tactic| first | rfl | assumption)
local macro_rules | `(tactic| walk_at "dr") => `(tactic| repeat (first | exact List.Sublist.refl _ | refine List.Sublist.cons _ ?_))
local macro_rules | `(tactic| walk_at "kn") => `(tactic| repeat (first | exact Kn.nil | refine Kn.cons ?_ | refine Kn.lose ?_))
local macro_rules | `(tactic| walk_at "fin") => `(tactic| first | assumption | trivial)
local macro_rules | `(tactic| walk_at "tr") => `(tactic| first | refine t_bl ?_ | refine t_int ?_)
local macro_rules | `(tactic| walk_at "pl") => `(tactic| first | assumption | rfl)

section
variable {P : Program} {w : World} {K : PySem.W.Frag} {mg : Str → Option Value} {base : Heap}
abbrev C_law := lawC
abbrev s_law : Stmt := topS 29
theorem sc_law : FnScope ["script", "k", "cell"] ["script"] (defScope s_law) := ⟨rfl, rfl, rfl, by decide +kernel, rfl, by decide +kernel, by decide +kernel⟩
theorem ok_law (B : Blt mg) {f : Addr} {fd : FuncData} (F : Fun K "law" "law" s_law f fd) (h_law_bag : FnD P w K mg base 1 "_law_bag" C_law_bag) (h_law_right : FnD P w K mg base 8 "_law_right" C_law_right)  : FnOk P w K mg base (L2.CX P w) 9 f fd ["script"] (spD K lawC) := by
  refine FnO.of F sc_law (fun x => rfl) (by decide) fun Z t M Q E hC ok po => ?_
  obtain ⟨hl, q⟩ := hC
  have hcl := cutD_le t none (some 8)
  refine es_cons (e1_for ?_)
  refine ei_enum B.enumerate ?_
  refine ea_cons ?_
  refine ev_bin ?_
  refine ev_lst ?_
  refine ea_cons ?_
  refine ev_callB (id := "len") B.len (by decide +kernel) ?_
  refine ea_cons ?_
  refine ev_name (i := 0) rfl ?_
  refine ea_nil ?_
  first | refine c_lenL ?_ | refine c_lenT ?_ | refine c_lenS ?_ | refine c_lenX (by walk_at "sz") ?_
  refine ea_nil ?_
  refine ⟨by walk_at "sz", ?_⟩
  refine ev_slice ?_
  refine ev_name (i := 0) rfl ?_
  refine ev_int ?_
  refine ⟨_, rfl, ?_⟩
  first | refine s_lst ?_ | refine s_scr ?_ | refine s_tup' ?_ | refine s_str (by walk_at "sz") ?_
  refine o_cat (by rw [List.length_map, sizeLine_eq]; simp only [List.length_cons, List.length_nil]; omega) ?_
  refine ea_nil ?_
  refine ⟨_, _, rfl, .lst _, ?_⟩
  show ForL _ _ _ _ (enumFrom 0 (((t.length : Int) :: cutD t none (some 8)).map D.int)) _ _
  rw [enum_enc]
  refine forL_ind (α := Nat × Int) (S := Unit) (fun x => D.tup [.int (x.1 : Nat), .int x.2]) (fun _ => [some (.scr t), none, none]) (fun _ => M) (fun r _ => ∀ x ∈ r, x.1 < 1000) mono_es ?_ ?_ _ () (fun x hx => by have := enumN_lt _ _ x hx; simp only [List.length_cons] at this; omega)
  · intro s _
    refine es_cons (e1_ret ?_)
    refine ev_bl ?_
    exact ⟨_, by walk_at "dr", q _⟩
  · rintro ⟨i, c⟩ as s hs
    have hi := hs (i, c) (by simp)
    dsimp only at hi ⊢
    refine eg_tup ?_
    refine egs_cons ?_
    refine eg_name 1 ?_
    refine egs_cons ?_
    refine eg_name 2 ?_
    refine egs_nil ?_
    refine es_cons (e1_if ?_)
    refine et_not ?_
    refine et_val ?_
    refine ev_call h_law_right ?_
    refine ea_cons ?_
    refine ev_call h_law_bag ?_
    refine ea_cons ?_
    refine ev_name (i := 2) rfl ?_
    refine ea_cons ?_
    refine ev_name (i := 1) rfl ?_
    refine ea_nil ?_
    refine ⟨(c, (i : Int)), rfl, ⟨by dsimp only; omega, by dsimp only; omega⟩, fun pb a b => ?_⟩
    refine ea_nil ?_
    refine ⟨(pb, (a, b, 0), M), rfl, ⟨rfl, by dsimp only; decide⟩, fun y => ?_⟩
    walk_at "tr"
    refine if_2 (fun hI1 => ?_) (fun hI1 => ?_)
    · cases hI1
    · refine es_drop0 ?_
      refine es_nil ?_
      refine es_nil ?_
      exact ⟨(), fun x hx => hs x (by simp [hx]), by walk_at "kn", rfl⟩
end
structure All (K : PySem.W.Frag) : Prop where
  bt : BltK K
  most : ∃ tk, PySem.W.nsIn K mainGlobals "MOST_STRETCHES" = some (some (.int 50 tk))
  d_is_whole : DfK K "is_whole" s_is_whole
  d_is_stretch : DfK K "is_stretch" s_is_stretch
  d_is_row : DfK K "is_row" s_is_row
  d_climbed : DfK K "climbed" s_climbed
  d_blocks_of : DfK K "blocks_of" s_blocks_of
  d_row_of_blocks : DfK K "row_of_blocks" s_row_of_blocks
  d_need_row : DfK K "need_row" s_need_row
  d_ladder : DfK K "ladder" s_ladder
  d_way_of : DfK K "way_of" s_way_of
  d_need_number : DfK K "need_number" s_need_number
  d_row_by : DfK K "row_by" s_row_by
  d_law_bag : DfK K "_law_bag" s_law_bag
  d_law_draw : DfK K "_law_draw" s_law_draw
  d_law_spots : DfK K "_law_spots" s_law_spots
  d_law_told : DfK K "_law_told" s_law_told
  d_law_same : DfK K "_law_same" s_law_same
  d_law_far_row : DfK K "_law_far_row" s_law_far_row
  d_law_rows : DfK K "_law_rows" s_law_rows
  d_law_right : DfK K "_law_right" s_law_right
  d_law : DfK K "law" s_law
theorem all_ok {P : Program} {w : World} {K : PySem.W.Frag} {mg : Str → Option Value} {h base : Heap} {f : Addr} {fd : FuncData} (A : All K) (X : K.In h) (G : h.Ns mainGlobals mg) (F : Fun K "law" "law" s_law f fd) : FnOk P w K mg base (L2.CX P w) 9 f fd ["script"] (spD K lawC) := by
  have B := A.bt.at X G
  have cM : ∃ tk, mg "MOST_STRETCHES" = some (.int 50 tk) := by
    obtain ⟨tk, e⟩ := A.most
    exact ⟨tk, val_at X G e⟩
  have f_is_whole := A.d_is_whole.at X G (ps := ["thing", "least"] ) (fun _ _ _ _ _ _ us hl => match us, hl with | [_, _], _ => rfl)
  have f_is_stretch := A.d_is_stretch.at X G (ps := ["thing"] ) (fun _ _ _ _ _ _ us hl => match us, hl with | [_], _ => rfl)
  have f_is_row := A.d_is_row.at X G (ps := ["thing"] ) (fun _ _ _ _ _ _ us hl => match us, hl with | [_], _ => rfl)
  have f_climbed := A.d_climbed.at X G (ps := ["rungs", "shown", "many"] ) (fun _ _ _ _ _ _ us hl => match us, hl with | [_, _, _], _ => rfl)
  have f_blocks_of := A.d_blocks_of.at X G (ps := ["row", "n"] ) (fun _ _ _ _ _ _ us hl => match us, hl with | [_, _], _ => rfl)
  have f_row_of_blocks := A.d_row_of_blocks.at X G (ps := ["blocks"] ) (fun _ _ _ _ _ _ us hl => match us, hl with | [_], _ => rfl)
  have f_need_row := A.d_need_row.at X G (ps := ["thing"] ) (fun _ _ _ _ _ _ us hl => match us, hl with | [_], _ => rfl)
  have f_ladder := A.d_ladder.at X G (ps := ["row", "n"] ) (fun _ _ _ _ _ _ us hl => match us, hl with | [_, _], _ => rfl)
  have f_way_of := A.d_way_of.at X G (ps := ["row"] ) (fun _ _ _ _ _ _ us hl => match us, hl with | [_], _ => rfl)
  have f_need_number := A.d_need_number.at X G (ps := ["thing"] ) (fun _ _ _ _ _ _ us hl => match us, hl with | [_], _ => rfl)
  have f_row_by := A.d_row_by.at X G (ps := ["one", "other"] ) (fun _ _ _ _ _ _ us hl => match us, hl with | [_, _], _ => rfl)
  have f_law_bag := A.d_law_bag.at X G (ps := ["cell", "bout"] ) (fun _ _ _ _ _ _ us hl => match us, hl with | [_, _], _ => rfl)
  have f_law_draw := A.d_law_draw.at X G (ps := ["bag", "many"] ) (fun _ _ _ _ _ _ us hl => match us, hl with | [_, _], _ => rfl)
  have f_law_spots := A.d_law_spots.at X G (ps := ["bag", "most"] ) (fun _ _ _ _ _ _ us hl => match us, hl with | [_, _], _ => rfl)
  have f_law_told := A.d_law_told.at X G (ps := ["spots"] ) (fun _ _ _ _ _ _ us hl => match us, hl with | [_], _ => rfl)
  have f_law_same := A.d_law_same.at X G (ps := ["found", "due"] ) (fun _ _ _ _ _ _ us hl => match us, hl with | [_, _], _ => rfl)
  have f_law_far_row := A.d_law_far_row.at X G (ps := ["bag", "most", "wide"] ) (fun _ _ _ _ _ _ us hl => match us, hl with | [_, _, _], _ => rfl)
  have f_law_rows := A.d_law_rows.at X G (ps := ["spots", "begun", "far"] ) (fun _ _ _ _ _ _ us hl => match us, hl with | [_, _, _], _ => rfl)
  have f_law_right := A.d_law_right.at X G (ps := ["bag"] ) (fun _ _ _ _ _ _ us hl => match us, hl with | [_], _ => rfl)
  have o_is_whole := ok_is_whole (P := P) (w := w) (base := base) B f_is_whole 
  have o_is_stretch := ok_is_stretch (P := P) (w := w) (base := base) B f_is_stretch o_is_whole
  have o_is_row := ok_is_row (P := P) (w := w) (base := base) B f_is_row o_is_stretch
  have o_climbed := ok_climbed (P := P) (w := w) (base := base) B f_climbed 
  have o_blocks_of := ok_blocks_of (P := P) (w := w) (base := base) B f_blocks_of 
  have o_row_of_blocks := ok_row_of_blocks (P := P) (w := w) (base := base) B f_row_of_blocks 
  have o_need_row := ok_need_row (P := P) (w := w) (base := base) B f_need_row o_is_row
  have o_ladder := ok_ladder (P := P) (w := w) (base := base) B f_ladder o_need_row o_climbed o_blocks_of
  have o_way_of := ok_way_of (P := P) (w := w) (base := base) B f_way_of o_need_row o_ladder
  have o_need_number := ok_need_number (P := P) (w := w) (base := base) B f_need_number 
  have o_row_by := ok_row_by (P := P) (w := w) (base := base) B f_row_by o_need_number o_row_of_blocks cM
  have o_law_bag := ok_law_bag (P := P) (w := w) (base := base) B f_law_bag 
  have o_law_draw := ok_law_draw (P := P) (w := w) (base := base) B f_law_draw 
  have o_law_spots := ok_law_spots (P := P) (w := w) (base := base) B f_law_spots o_law_draw
  have o_law_told := ok_law_told (P := P) (w := w) (base := base) B f_law_told 
  have s0 := ok_law_same (P := P) (w := w) (base := base) B f_law_same (n := 0) (k := 0) (fun m e => by cases e)
  have s1 := ok_law_same (P := P) (w := w) (base := base) B f_law_same (n := 1) (k := 1) (fun m e => by cases e; exact s0)
  have s2 := ok_law_same (P := P) (w := w) (base := base) B f_law_same (n := 2) (k := 2) (fun m e => by cases e; exact s1)
  have s3 := ok_law_same (P := P) (w := w) (base := base) B f_law_same (n := 3) (k := 3) (fun m e => by cases e; exact s2)
  have o_law_far_row := ok_law_far_row (P := P) (w := w) (base := base) B f_law_far_row o_law_draw
  have o_law_rows := ok_law_rows (P := P) (w := w) (base := base) B f_law_rows 
  have o_law_right := ok_law_right (P := P) (w := w) (base := base) B f_law_right o_law_draw o_law_spots o_law_far_row o_law_told o_law_rows o_ladder o_row_by o_way_of s3
  exact ok_law B F o_law_bag o_law_right
end TD

namespace TD
open PySem PySem.Spec PyProof.Rows L2
theorem all_law {P : Program} {w : World} {K : PySem.W.Frag} {mg : Str → Option Value} {h : Heap} {fa : Addr} (X : K.In h) (G : h.Ns mainGlobals mg) (hfa : mg "law" = some (.ref fa)) (A : All K) :
    ∃ fd : FuncData, (∀ (s : Shared) (u : Value), BindsTo s fd ⟨[u], []⟩ [("script", u)]) ∧ ∀ base : Heap, K.In base → base.Ns mainGlobals mg → FnOk P w K mg base (L2.CX P w) 9 fa fd ["script"] (spD K lawC) :=
  FnOk.law A.d_law X G hfa (fun _ _ _ _ _ _ _ _ => rfl) fun fd base F h1 h2 => all_ok A h1 h2 F
end TD
open PySem PySem.W PyProof.Rows
set_option maxRecDepth 100000 in
set_option maxHeartbeats 0 in
theorem PySem.Challenge.cw_turntell_k46_whole_ladders_of_all_rows_holds : PySem.Challenge.rw_turntell_k46_whole_ladders_of_all_rows.Holds := by
  w_on; o_law; k_head; (case hw => w_witness2)
  k_fill
  refine TD.law_walk (l := PySem.Challenge.rw_turntell_k46_whole_ladders_of_all_rows) (k := 9) rfl rfl ⟨rfl, by decide, by decide⟩ (fun w h Y => PySem.W.kIn_of Y) ?F
  case F =>
    intro w mg fa h KX G hmg
    refine TD.all_law KX G hmg ?A
    case A =>
      refine' { bt := { len := ?b_len, isinstance := ?b_isinstance, sum := ?b_sum, any := ?b_any, all := ?b_all, max := ?b_max, min := ?b_min, sorted := ?b_sorted, abs := ?b_abs, repr := ?b_repr, set := ?b_set, int := ?b_int, bool := ?b_bool, list := ?b_list, tuple := ?b_tuple, str := ?b_str, range := ?b_range, zip := ?b_zip, enumerate := ?b_enumerate, reversed := ?b_reversed, ValueError := ?b_ValueError }, most := TD.tok_of ?x_most, d_is_whole := TD.df_of ?a_is_whole ?l_is_whole ?c_is_whole ?k_is_whole, d_is_stretch := TD.df_of ?a_is_stretch ?l_is_stretch ?c_is_stretch ?k_is_stretch, d_is_row := TD.df_of ?a_is_row ?l_is_row ?c_is_row ?k_is_row, d_climbed := TD.df_of ?a_climbed ?l_climbed ?c_climbed ?k_climbed, d_blocks_of := TD.df_of ?a_blocks_of ?l_blocks_of ?c_blocks_of ?k_blocks_of, d_row_of_blocks := TD.df_of ?a_row_of_blocks ?l_row_of_blocks ?c_row_of_blocks ?k_row_of_blocks, d_need_row := TD.df_of ?a_need_row ?l_need_row ?c_need_row ?k_need_row, d_ladder := TD.df_of ?a_ladder ?l_ladder ?c_ladder ?k_ladder, d_way_of := TD.df_of ?a_way_of ?l_way_of ?c_way_of ?k_way_of, d_need_number := TD.df_of ?a_need_number ?l_need_number ?c_need_number ?k_need_number, d_row_by := TD.df_of ?a_row_by ?l_row_by ?c_row_by ?k_row_by, d_law_bag := TD.df_of ?a_law_bag ?l_law_bag ?c_law_bag ?k_law_bag, d_law_draw := TD.df_of ?a_law_draw ?l_law_draw ?c_law_draw ?k_law_draw, d_law_spots := TD.df_of ?a_law_spots ?l_law_spots ?c_law_spots ?k_law_spots, d_law_told := TD.df_of ?a_law_told ?l_law_told ?c_law_told ?k_law_told, d_law_same := TD.df_of ?a_law_same ?l_law_same ?c_law_same ?k_law_same, d_law_far_row := TD.df_of ?a_law_far_row ?l_law_far_row ?c_law_far_row ?k_law_far_row, d_law_rows := TD.df_of ?a_law_rows ?l_law_rows ?c_law_rows ?k_law_rows, d_law_right := TD.df_of ?a_law_right ?l_law_right ?c_law_right ?k_law_right, d_law := TD.df_of ?a_law ?l_law ?c_law ?k_law }
      (case b_len => k_is)
      (case b_isinstance => k_is)
      (case b_sum => k_is)
      (case b_any => k_is)
      (case b_all => k_is)
      (case b_max => k_is)
      (case b_min => k_is)
      (case b_sorted => k_is)
      (case b_abs => k_is)
      (case b_repr => k_is)
      (case b_set => k_is)
      (case b_int => k_is)
      (case b_bool => k_is)
      (case b_list => k_is)
      (case b_tuple => k_is)
      (case b_str => k_is)
      (case b_range => k_is)
      (case b_zip => k_is)
      (case b_enumerate => k_is)
      (case b_reversed => k_is)
      (case b_ValueError => k_is)
      (case x_most => k_is)
      (case a_is_whole => k_is); (case l_is_whole => k_is); (case c_is_whole => k_is); (case k_is_whole => k_is)
      (case a_is_stretch => k_is); (case l_is_stretch => k_is); (case c_is_stretch => k_is); (case k_is_stretch => k_is)
      (case a_is_row => k_is); (case l_is_row => k_is); (case c_is_row => k_is); (case k_is_row => k_is)
      (case a_climbed => k_is); (case l_climbed => k_is); (case c_climbed => k_is); (case k_climbed => k_is)
      (case a_blocks_of => k_is); (case l_blocks_of => k_is); (case c_blocks_of => k_is); (case k_blocks_of => k_is)
      (case a_row_of_blocks => k_is); (case l_row_of_blocks => k_is); (case c_row_of_blocks => k_is); (case k_row_of_blocks => k_is)
      (case a_need_row => k_is); (case l_need_row => k_is); (case c_need_row => k_is); (case k_need_row => k_is)
      (case a_ladder => k_is); (case l_ladder => k_is); (case c_ladder => k_is); (case k_ladder => k_is)
      (case a_way_of => k_is); (case l_way_of => k_is); (case c_way_of => k_is); (case k_way_of => k_is)
      (case a_need_number => k_is); (case l_need_number => k_is); (case c_need_number => k_is); (case k_need_number => k_is)
      (case a_row_by => k_is); (case l_row_by => k_is); (case c_row_by => k_is); (case k_row_by => k_is)
      (case a_law_bag => k_is); (case l_law_bag => k_is); (case c_law_bag => k_is); (case k_law_bag => k_is)
      (case a_law_draw => k_is); (case l_law_draw => k_is); (case c_law_draw => k_is); (case k_law_draw => k_is)
      (case a_law_spots => k_is); (case l_law_spots => k_is); (case c_law_spots => k_is); (case k_law_spots => k_is)
      (case a_law_told => k_is); (case l_law_told => k_is); (case c_law_told => k_is); (case k_law_told => k_is)
      (case a_law_same => k_is); (case l_law_same => k_is); (case c_law_same => k_is); (case k_law_same => k_is)
      (case a_law_far_row => k_is); (case l_law_far_row => k_is); (case c_law_far_row => k_is); (case k_law_far_row => k_is)
      (case a_law_rows => k_is); (case l_law_rows => k_is); (case c_law_rows => k_is); (case k_law_rows => k_is)
      (case a_law_right => k_is); (case l_law_right => k_is); (case c_law_right => k_is); (case k_law_right => k_is)
      (case a_law => k_is); (case l_law => k_is); (case c_law => k_is); (case k_law => k_is)
