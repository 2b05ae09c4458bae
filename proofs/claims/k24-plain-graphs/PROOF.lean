import PyProof.Rows.All
import HandS.ForMost
import HandS.TupAny
import HandS.Wide
import HandS.Conv
import HandS.IsInst
import HandS.TryOnly
import HandS.SortInts
import HandS.RaiseMore
import HandS.Codes
import PySem.Challenge.RW_firstreasons_k24_what_plain_graphs_must
set_option Elab.async false
set_option linter.all false
set_option maxRecDepth 100000
set_option maxHeartbeats 4000000
/-! W0: a layer of values over HandS: trees of data, cells that a def owns, what an expression or a statement gives. -/
namespace WL
open PySem PySem.Spec PyProof.Rows L2

/-! ### data -/
inductive D where
  | non | bl (b : Bool) | int (i : Int) | str (x : Str)
  | lst (ds : List D) | tup (ds : List D) | fls (ds : List D) | ftp (ds : List D)
  | dct (kvs : List (Key × D)) | dcT (kvs : List (List Key × D))
  | opq (v : V)

mutual
inductive Rep (K : PySem.W.Frag) (H : Hp) : V → D → Prop
  | non : Rep K H .non .non
  | bl {b} : Rep K H (.bl b) (.bl b)
  | int {i} : Rep K H (.int i) (.int i)
  | str {x} : Rep K H (.str x) (.str x)
  | lst {a vs ds} (h : H a = some (.lst vs)) (r : Reps K H vs ds) : Rep K H (.ref a) (.lst ds)
  | tup {a vs ds} (h : H a = some (.tup vs)) (r : Reps K H vs ds) : Rep K H (.ref a) (.tup ds)
  | fls {a vs ds} (h : SqL K H a vs) (r : Reps K H vs ds) : Rep K H (.ref a) (.fls ds)
  | ftp {a vs ds} (h : SqT K H a vs) (r : Reps K H vs ds) : Rep K H (.ref a) (.ftp ds)
  | dct {a kvs kds} (h : Rd H a (.dK kvs)) (r : RepK K H kvs kds) : Rep K H (.ref a) (.dct kds)
  | dcT {a kvs kds} (h : Rd H a (.dT kvs)) (r : RepT K H kvs kds) : Rep K H (.ref a) (.dcT kds)
  | opq {v} : Rep K H v (.opq v)
inductive Reps (K : PySem.W.Frag) (H : Hp) : List V → List D → Prop
  | nil : Reps K H [] []
  | cons {v d vs ds} (h : Rep K H v d) (t : Reps K H vs ds) : Reps K H (v :: vs) (d :: ds)
inductive RepK (K : PySem.W.Frag) (H : Hp) : List (Key × V) → List (Key × D) → Prop
  | nil : RepK K H [] []
  | cons {k v d vs ds} (h : Rep K H v d) (t : RepK K H vs ds) : RepK K H ((k, v) :: vs) ((k, d) :: ds)
inductive RepT (K : PySem.W.Frag) (H : Hp) : List (List Key × V) → List (List Key × D) → Prop
  | nil : RepT K H [] []
  | cons {k v d vs ds} (h : Rep K H v d) (t : RepT K H vs ds) : RepT K H ((k, v) :: vs) ((k, d) :: ds)
end

section
variable {K : PySem.W.Frag} {H H' : Hp}
theorem Same.rd {a : Addr} {u : HO} (e : Same H H') (h : Rd H a u) : Rd H' a u := by
  rcases h with h | ⟨o, h⟩
  · exact .inl (e a _ h)
  · exact .inr ⟨o, e a _ h⟩
theorem Same.sqT {a : Addr} {xs : List V} (e : Same H H') (h : SqT K H a xs) : SqT K H' a xs := by
  rcases h with h | h
  · exact .inl (Same.rd e h)
  · exact .inr h
mutual
theorem Rep.mono {v : V} {d : D} (e : Same H H') : Rep K H v d → Rep K H' v d
  | .non => .non
  | .bl => .bl
  | .int => .int
  | .str => .str
  | .lst h r => .lst (e _ _ h) (Reps.mono e r)
  | .tup h r => .tup (e _ _ h) (Reps.mono e r)
  | .fls h r => .fls (e.seq h) (Reps.mono e r)
  | .ftp h r => .ftp (Same.sqT e h) (Reps.mono e r)
  | .dct h r => .dct (Same.rd e h) (RepK.mono e r)
  | .dcT h r => .dcT (Same.rd e h) (RepT.mono e r)
  | .opq => .opq
theorem Reps.mono {vs : List V} {ds : List D} (e : Same H H') : Reps K H vs ds → Reps K H' vs ds
  | .nil => .nil
  | .cons h t => .cons (Rep.mono e h) (Reps.mono e t)
theorem RepK.mono {vs : List (Key × V)} {ds : List (Key × D)} (e : Same H H') : RepK K H vs ds → RepK K H' vs ds
  | .nil => .nil
  | .cons h t => .cons (Rep.mono e h) (RepK.mono e t)
theorem RepT.mono {vs : List (List Key × V)} {ds : List (List Key × D)} (e : Same H H') : RepT K H vs ds → RepT K H' vs ds
  | .nil => .nil
  | .cons h t => .cons (Rep.mono e h) (RepT.mono e t)
end
theorem Reps.length : ∀ {vs : List V} {ds : List D}, Reps K H vs ds → vs.length = ds.length
  | _, _, .nil => rfl
  | _, _, .cons _ t => by simp [Reps.length t]
theorem Reps.get : ∀ {vs : List V} {ds : List D} {i : Nat} {v : V}, Reps K H vs ds → vs[i]? = some v → ∃ d, ds[i]? = some d ∧ Rep K H v d
  | _, _, _, _, .nil, e => by simp at e
  | _, _, 0, _, .cons r _, e => by simp at e; subst e; exact ⟨_, rfl, r⟩
  | _, _, i + 1, x, .cons _ t, e => by
    obtain ⟨u, h1, h2⟩ := Reps.get (i := i) (v := x) t (by simpa using e)
    exact ⟨u, by simpa using h1, h2⟩
theorem Reps.getD : ∀ {vs : List V} {ds : List D} {i : Nat} {d : D}, Reps K H vs ds → ds[i]? = some d → ∃ v, vs[i]? = some v ∧ Rep K H v d
  | _, _, _, _, .nil, e => by simp at e
  | _, _, 0, _, .cons r _, e => by simp at e; subst e; exact ⟨_, rfl, r⟩
  | _, _, i + 1, x, .cons _ t, e => by
    obtain ⟨u, h1, h2⟩ := Reps.getD (i := i) (d := x) t (by simpa using e)
    exact ⟨u, by simpa using h1, h2⟩
theorem Reps.append : ∀ {vs ws : List V} {ds es : List D}, Reps K H vs ds → Reps K H ws es → Reps K H (vs ++ ws) (ds ++ es)
  | _, _, _, _, .nil, s => s
  | _, _, _, _, .cons r t, s => .cons r (Reps.append t s)
theorem Reps.take : ∀ {vs : List V} {ds : List D} (n : Nat), Reps K H vs ds → Reps K H (vs.take n) (ds.take n)
  | _, _, 0, _ => .nil
  | _, _, _ + 1, .nil => .nil
  | _, _, n + 1, .cons r t => .cons r (Reps.take n t)
theorem Reps.drop : ∀ {vs : List V} {ds : List D} (n : Nat), Reps K H vs ds → Reps K H (vs.drop n) (ds.drop n)
  | _, _, 0, r => r
  | _, _, _ + 1, .nil => .nil
  | _, _, n + 1, .cons _ t => Reps.drop n t
theorem Reps.set {v : V} {d : D} (r : Rep K H v d) : ∀ {vs : List V} {ds : List D} (i : Nat), Reps K H vs ds → Reps K H (vs.set i v) (ds.set i d)
  | _, _, _, .nil => .nil
  | _, _, 0, .cons _ t => .cons r t
  | _, _, i + 1, .cons q t => .cons q (Reps.set r i t)
theorem Reps.eraseIdx : ∀ {vs : List V} {ds : List D} (i : Nat), Reps K H vs ds → Reps K H (vs.eraseIdx i) (ds.eraseIdx i)
  | _, _, _, .nil => .nil
  | _, _, 0, .cons _ t => t
  | _, _, i + 1, .cons q t => .cons q (Reps.eraseIdx i t)
theorem Reps.one {v : V} {d : D} (r : Rep K H v d) : Reps K H [v] [d] := .cons r .nil
theorem Reps.dropLast : ∀ {vs : List V} {ds : List D}, Reps K H vs ds → Reps K H vs.dropLast ds.dropLast
  | _, _, .nil => .nil
  | _, _, .cons _ .nil => .nil
  | _, _, .cons q (.cons q' t) => .cons q (Reps.dropLast (.cons q' t))
theorem Reps.reverse : ∀ {vs : List V} {ds : List D}, Reps K H vs ds → Reps K H vs.reverse ds.reverse
  | _, _, .nil => .nil
  | _, _, .cons q t => by simpa using (Reps.reverse t).append (.one q)
/-- ints, texts, bools -/
theorem Reps.ints : ∀ {vs : List V} {ns : List Int}, Reps K H vs (ns.map D.int) → vs = ns.map V.int
  | _, [], .nil => rfl
  | _, _ :: _, .cons .int t => by rw [Reps.ints t]; rfl
theorem Reps.of_ints : ∀ (ns : List Int), Reps K H (ns.map V.int) (ns.map D.int)
  | [] => .nil
  | _ :: r => .cons .int (Reps.of_ints r)
theorem Reps.strs : ∀ {vs : List V} {ns : List Str}, Reps K H vs (ns.map D.str) → vs = ns.map V.str
  | _, [], .nil => rfl
  | _, _ :: _, .cons .str t => by rw [Reps.strs t]; rfl
theorem Reps.of_strs : ∀ (ns : List Str), Reps K H (ns.map V.str) (ns.map D.str)
  | [] => .nil
  | _ :: r => .cons .str (Reps.of_strs r)
theorem Reps.bls : ∀ {vs : List V} {ns : List Bool}, Reps K H vs (ns.map D.bl) → vs = ns.map V.bl
  | _, [], .nil => rfl
  | _, _ :: _, .cons .bl t => by rw [Reps.bls t]; rfl
end

/-! ### what is owned -/
inductive Own where
  | lst (ds : List D) | dct (kvs : List (Key × D)) | dcT (kvs : List (List Key × D))
def Own.d : Own → D
  | .lst ds => .lst ds
  | .dct kvs => .dct kvs
  | .dcT kvs => .dcT kvs
/-- a slot: nothing known, shared data, an object of one's own (b: lent by the caller) -/
inductive Slot where
  | un | sh (d : D) | ow (b : Bool) (o : Own)
abbrev Rho := List Slot
abbrev Cell := Option V × Slot

inductive OwnAt (K : PySem.W.Frag) (Hk H : Hp) : Own → Addr → List Addr → Prop
  | lst {p vs ds} (h : H p = some (.lst vs)) (r : Reps K Hk vs ds) : OwnAt K Hk H (.lst ds) p [p]
  | dct {p kvs kds} (h : H p = some (.dK kvs)) (r : RepK K Hk kvs kds) : OwnAt K Hk H (.dct kds) p [p]
  | dcT {p kvs kds} (h : H p = some (.dT kvs)) (r : RepT K Hk kvs kds) : OwnAt K Hk H (.dcT kds) p [p]
inductive CellOk (K : PySem.W.Frag) (Hk H : Hp) : Option V → Slot → List Addr → Prop
  | un {x} : CellOk K Hk H x .un []
  | sh {v d} (r : Rep K Hk v d) : CellOk K Hk H (some v) (.sh d) []
  | ow {b o p fp} (r : OwnAt K Hk H o p fp) : CellOk K Hk H (some (.ref p)) (.ow b o) fp
inductive Cells (K : PySem.W.Frag) (Hk H : Hp) : List Cell → List Addr → Prop
  | nil : Cells K Hk H [] []
  | cons {c L fp fq} (h : CellOk K Hk H c.1 c.2 fp) (t : Cells K Hk H L fq) : Cells K Hk H (c :: L) (fp ++ fq)

section
variable {K : PySem.W.Frag} {Hk Hk' H H' : Hp}
theorem OwnAt.at {o : Own} {p : Addr} {fp : List Addr} (h : OwnAt K Hk H o p fp) : ∀ q ∈ fp, ∃ u, H q = some u := by
  intro q hq
  cases h with
  | lst h r => simp at hq; subst hq; exact ⟨_, h⟩
  | dct h r => simp at hq; subst hq; exact ⟨_, h⟩
  | dcT h r => simp at hq; subst hq; exact ⟨_, h⟩
theorem OwnAt.mono {o : Own} {p : Addr} {fp : List Addr} (h : OwnAt K Hk H o p fp) (e : Same Hk Hk') (k : ∀ q ∈ fp, H' q = H q) : OwnAt K Hk' H' o p fp := by
  cases h with
  | lst h r => exact .lst ((k _ (by simp)).trans h) (r.mono e)
  | dct h r => exact .dct ((k _ (by simp)).trans h) (r.mono e)
  | dcT h r => exact .dcT ((k _ (by simp)).trans h) (r.mono e)
theorem CellOk.at {x : Option V} {sl : Slot} {fp : List Addr} (h : CellOk K Hk H x sl fp) : ∀ q ∈ fp, ∃ u, H q = some u := by
  cases h with
  | un => simp
  | sh r => simp
  | ow r => exact r.at
theorem CellOk.mono {x : Option V} {sl : Slot} {fp : List Addr} (h : CellOk K Hk H x sl fp) (e : Same Hk Hk') (k : ∀ q ∈ fp, H' q = H q) : CellOk K Hk' H' x sl fp := by
  cases h with
  | un => exact .un
  | sh r => exact .sh (r.mono e)
  | ow r => exact .ow (r.mono e k)
theorem Cells.at : ∀ {L : List Cell} {F : List Addr}, Cells K Hk H L F → ∀ q ∈ F, ∃ u, H q = some u
  | _, _, .nil => by simp
  | _, _, .cons h t => fun q hq => (List.mem_append.mp hq).elim (h.at q) (Cells.at t q)
theorem Cells.mono : ∀ {L : List Cell} {F : List Addr}, Cells K Hk H L F → Same Hk Hk' → (∀ q ∈ F, H' q = H q) → Cells K Hk' H' L F
  | _, _, .nil, _, _ => .nil
  | _, _, .cons h t, e, k => .cons (h.mono e fun q hq => k q (List.mem_append_left _ hq)) (Cells.mono t e fun q hq => k q (List.mem_append_right _ hq))
theorem Cells.perm {L L' : List Cell} (p : L.Perm L') : ∀ {F : List Addr}, Cells K Hk H L F → ∃ F', F.Perm F' ∧ Cells K Hk H L' F' := by
  induction p with
  | nil => intro F h; exact ⟨F, .refl _, h⟩
  | cons x _ ih =>
    intro F h
    cases h with
    | cons h t =>
      obtain ⟨F', p', h'⟩ := ih t
      exact ⟨_, p'.append_left _, .cons h h'⟩
  | swap x y l =>
    intro F h
    cases h with
    | cons h t =>
      cases t with
      | cons h2 t => exact ⟨_, by rw [← List.append_assoc, ← List.append_assoc]; exact List.perm_append_comm.append_right _, .cons h2 (.cons h t)⟩
  | trans _ _ ih1 ih2 =>
    intro F h
    obtain ⟨F1, p1, h1⟩ := ih1 h
    obtain ⟨F2, p2, h2⟩ := ih2 h1
    exact ⟨F2, p1.trans p2, h2⟩
end

/-- the cells stand in H, beside what is known (Hk) -/
structure HL (K : PySem.W.Frag) (Hk H : Hp) (L : List Cell) : Prop where
  ex : Same Hk H
  cells : ∃ F, Cells K Hk H L F ∧ F.Nodup ∧ ∀ p ∈ F, Hk p = none
section
variable {K : PySem.W.Frag} {Hk Hk' H H' : Hp} {L L' : List Cell} {c : Cell} {p : Addr}
theorem HL.perm (h : HL K Hk H L) (e : L.Perm L') : HL K Hk H L' := by
  obtain ⟨F, hc, hn, hk⟩ := h.cells
  obtain ⟨F', p', hc'⟩ := hc.perm e
  exact ⟨h.ex, F', hc', p'.nodup_iff.mp hn, fun q hq => hk q (p'.mem_iff.mpr hq)⟩
theorem HL.tail (h : HL K Hk H (c :: L)) : HL K Hk H L := by
  obtain ⟨F, hc, hn, hk⟩ := h.cells
  cases hc with
  | cons h1 t => exact ⟨h.ex, _, t, (List.nodup_append.mp hn).2.1, fun q hq => hk q (List.mem_append_right _ hq)⟩
theorem HL.un {x : Option V} (h : HL K Hk H L) : HL K Hk H ((x, .un) :: L) := by
  obtain ⟨F, hc, hn, hk⟩ := h.cells
  exact ⟨h.ex, F, .cons (fp := []) .un hc, hn, hk⟩
theorem HL.sh {v : V} {d : D} (h : HL K Hk H L) (r : Rep K Hk v d) : HL K Hk H ((some v, .sh d) :: L) := by
  obtain ⟨F, hc, hn, hk⟩ := h.cells
  exact ⟨h.ex, F, .cons (fp := []) (.sh r) hc, hn, hk⟩
theorem HL.get_sh {x : Option V} {d : D} (h : HL K Hk H ((x, .sh d) :: L)) : ∃ v, x = some v ∧ Rep K Hk v d := by
  obtain ⟨F, hc, hn, hk⟩ := h.cells
  cases hc with
  | cons h1 t =>
    cases h1 with
    | sh r => exact ⟨_, rfl, r⟩
/-- a new object, known at once -/
theorem HL.know {u : HO} (h : HL K Hk H L) (hp : H p = none) : HL K (upd Hk p u) (upd H p u) L := by
  obtain ⟨F, hc, hn, hk⟩ := h.cells
  have hkp : Hk p = none := h.ex.free hp
  have e : Same Hk (upd Hk p u) := fun b o q => by rw [upd_ne (ne_of_none q hkp)]; exact q
  have ne : ∀ q ∈ F, q ≠ p := fun q hq z => by
    obtain ⟨o, ho⟩ := hc.at q hq
    rw [z, hp] at ho; cases ho
  refine ⟨fun b o q => ?_, F, hc.mono e fun q hq => upd_ne (ne q hq), hn, fun q hq => by rw [upd_ne (ne q hq)]; exact hk q hq⟩
  by_cases hb : b = p
  · subst hb; rw [upd_same] at q; cases q; exact upd_same
  · rw [upd_ne hb] at q; rw [upd_ne hb]; exact h.ex b o q
theorem HL.know_same {u : HO} (h : HL K Hk H L) (hp : H p = none) : Same Hk (upd Hk p u) := fun b o q => by rw [upd_ne (ne_of_none q (h.ex.free hp))]; exact q
/-- a new object of one's own -/
theorem HL.own {u : HO} {o : Own} {b : Bool} (h : HL K Hk H L) (hp : H p = none) (ho : OwnAt K Hk (upd H p u) o p [p]) : HL K Hk (upd H p u) ((some (.ref p), .ow b o) :: L) := by
  obtain ⟨F, hc, hn, hk⟩ := h.cells
  have hkp : Hk p = none := h.ex.free hp
  have ne : ∀ q ∈ F, q ≠ p := fun q hq z => by
    obtain ⟨o, ho⟩ := hc.at q hq
    rw [z, hp] at ho; cases ho
  refine ⟨fun b o q => by rw [upd_ne (ne_of_none q hkp)]; exact h.ex b o q, [p] ++ F, .cons (.ow ho) (hc.mono (.refl _) fun q hq => upd_ne (ne q hq)), ?_, fun q hq => ?_⟩
  · exact List.nodup_cons.mpr ⟨fun z => ne p z rfl, hn⟩
  · rcases List.mem_cons.mp hq with z | z
    · rw [z]; exact hkp
    · exact hk q z
/-- what is owned becomes known -/
theorem HL.share {x : Option V} {o : Own} {b : Bool} (h : HL K Hk H ((x, .ow b o) :: L)) : ∃ Hk' v, x = some v ∧ Same Hk Hk' ∧ Rep K Hk' v o.d ∧ HL K Hk' H ((x, .sh o.d) :: L) := by
  obtain ⟨F, hc, hn, hk⟩ := h.cells
  cases hc with
  | cons h1 t =>
    rename_i fp fq
    have nd := List.nodup_append.mp hn
    cases h1 with
    | ow r =>
      rename_i p
      have e1 : Same Hk (fun a => if a ∈ fp then H a else Hk a) := fun a u q => by
        show (if a ∈ fp then H a else Hk a) = some u
        by_cases ha : a ∈ fp
        · rw [if_pos ha]; exact h.ex a u q
        · rw [if_neg ha]; exact q
      have e2 : Same (fun a => if a ∈ fp then H a else Hk a) H := fun a u q => by
        have q' : (if a ∈ fp then H a else Hk a) = some u := q
        by_cases ha : a ∈ fp
        · rw [if_pos ha] at q'; exact q'
        · rw [if_neg ha] at q'; exact h.ex a u q'
      have r2 : Rep K (fun a => if a ∈ fp then H a else Hk a) (.ref p) o.d := by
        cases r with
        | lst h r => exact .lst (by show (if p ∈ [p] then H p else Hk p) = _; rw [if_pos (by simp)]; exact h) (r.mono e1)
        | dct h r => exact .dct (.inl (by show (if p ∈ [p] then H p else Hk p) = _; rw [if_pos (by simp)]; exact h)) (r.mono e1)
        | dcT h r => exact .dcT (.inl (by show (if p ∈ [p] then H p else Hk p) = _; rw [if_pos (by simp)]; exact h)) (r.mono e1)
      refine ⟨_, _, rfl, e1, r2, e2, fq, .cons (fp := []) (.sh r2) (t.mono e1 fun _ _ => rfl), nd.2.1, fun q hq => ?_⟩
      show (if q ∈ fp then H q else Hk q) = none
      rw [if_neg (fun z => nd.2.2 q z q hq rfl)]
      exact hk q (List.mem_append_right _ hq)
/-- an own list, changed -/
theorem HL.lst {x : Option V} {ds : List D} {b : Bool} (h : HL K Hk H ((x, .ow b (.lst ds)) :: L)) : ∃ p vs, x = some (.ref p) ∧ H p = some (.lst vs) ∧ Reps K Hk vs ds ∧
    ∀ vs' ds', Reps K Hk vs' ds' → HL K Hk (upd H p (.lst vs')) ((x, .ow b (.lst ds')) :: L) := by
  obtain ⟨F, hc, hn, hk⟩ := h.cells
  cases hc with
  | cons h1 t =>
    rename_i fp fq
    have nd := List.nodup_append.mp hn
    cases h1 with
    | ow r =>
      rename_i p
      cases r with
      | lst hp r =>
        have hkp : Hk p = none := hk p (by simp)
        have ne : ∀ q ∈ fq, q ≠ p := fun q hq z => nd.2.2 p (by simp) q hq z.symm
        refine ⟨p, _, rfl, hp, r, fun vs' ds' r' => ⟨fun a u q => by rw [upd_ne (ne_of_none q hkp)]; exact h.ex a u q, [p] ++ fq, .cons (.ow (.lst upd_same r')) (t.mono (.refl _) fun q hq => upd_ne (ne q hq)), hn, hk⟩⟩
theorem HL.dct {x : Option V} {ds : List (Key × D)} {b : Bool} (h : HL K Hk H ((x, .ow b (.dct ds)) :: L)) : ∃ p vs, x = some (.ref p) ∧ H p = some (.dK vs) ∧ RepK K Hk vs ds ∧
    ∀ vs' ds', RepK K Hk vs' ds' → HL K Hk (upd H p (.dK vs')) ((x, .ow b (.dct ds')) :: L) := by
  obtain ⟨F, hc, hn, hk⟩ := h.cells
  cases hc with
  | cons h1 t =>
    rename_i fp fq
    have nd := List.nodup_append.mp hn
    cases h1 with
    | ow r =>
      rename_i p
      cases r with
      | dct hp r =>
        have hkp : Hk p = none := hk p (by simp)
        have ne : ∀ q ∈ fq, q ≠ p := fun q hq z => nd.2.2 p (by simp) q hq z.symm
        refine ⟨p, _, rfl, hp, r, fun vs' ds' r' => ⟨fun a u q => by rw [upd_ne (ne_of_none q hkp)]; exact h.ex a u q, [p] ++ fq, .cons (.ow (.dct upd_same r')) (t.mono (.refl _) fun q hq => upd_ne (ne q hq)), hn, hk⟩⟩
end

/-! ### a frame's slots and the cells beside them -/
structure Holds (K : PySem.W.Frag) (Hk : Hp) (ρ : Rho) (T : List Cell) (σ : L2.St) (H : Hp) : Prop where
  len : ρ.length = σ.length
  hl : HL K Hk H (σ.zip ρ ++ T)
/-- lent slots stay -/
def Kp (σ : L2.St) (ρ : Rho) (σ' : L2.St) (ρ' : Rho) : Prop := ∀ (i : Nat) (o : Own) (v : Option V), ρ[i]? = some (.ow true o) → σ[i]? = some v → σ'[i]? = some v ∧ ∃ o', ρ'[i]? = some (.ow true o')
theorem Kp.refl (σ : L2.St) (ρ : Rho) : Kp σ ρ σ ρ := fun _ o _ h e => ⟨e, o, h⟩
theorem Kp.trans {σ σ1 σ2 : L2.St} {ρ ρ1 ρ2 : Rho} (a : Kp σ ρ σ1 ρ1) (b : Kp σ1 ρ1 σ2 ρ2) : Kp σ ρ σ2 ρ2 := fun i o v h e =>
  let ⟨e1, o1, h1⟩ := a i o v h e
  b i o1 v h1 e1
theorem zip_at : ∀ {σ : L2.St} {ρ : Rho} {i : Nat} {v : Option V} {s : Slot}, σ[i]? = some v → ρ[i]? = some s →
    ∃ R, (σ.zip ρ).Perm ((v, s) :: R) ∧ ∀ v' s', ((σ.set i v').zip (ρ.set i s')).Perm ((v', s') :: R)
  | [], _, _, _, _, e, _ => by simp at e
  | _ :: _, [], _, _, _, _, e => by simp at e
  | a :: σ, b :: ρ, 0, v, s, e1, e2 => by
    simp at e1 e2; subst e1; subst e2
    exact ⟨σ.zip ρ, .refl _, fun v' s' => .refl _⟩
  | a :: σ, b :: ρ, i + 1, v, s, e1, e2 => by
    obtain ⟨R, h1, h2⟩ := zip_at (σ := σ) (ρ := ρ) (i := i) (by simpa using e1) (by simpa using e2)
    exact ⟨(a, b) :: R, (h1.cons _).trans (.swap _ _ _), fun v' s' => ((h2 v' s').cons _).trans (.swap _ _ _)⟩
section
variable {K : PySem.W.Frag} {Hk Hk' H H' : Hp} {ρ : Rho} {T : List Cell} {σ : L2.St} {i : Nat} {c : Cell} {s : Slot} {p : Addr}
theorem Holds.at (h : Holds K Hk ρ T σ H) (e : ρ[i]? = some s) : ∃ v R, σ[i]? = some v ∧ HL K Hk H ((v, s) :: R) ∧ ∀ Hk' H' v' s', HL K Hk' H' ((v', s') :: R) → Holds K Hk' (ρ.set i s') T (σ.set i v') H' := by
  have hi : i < σ.length := by rw [← h.len]; exact (List.getElem?_eq_some_iff.mp e).1
  obtain ⟨R, h1, h2⟩ := zip_at (List.getElem?_eq_getElem hi) e
  refine ⟨σ[i], R ++ T, List.getElem?_eq_getElem hi, h.hl.perm (h1.append_right T), fun Hk' H' v' s' q => ⟨by simp [h.len], q.perm ((h2 v' s').append_right T).symm⟩⟩
theorem set_self {α : Type} {l : List α} {i : Nat} {x : α} (e : l[i]? = some x) : l.set i x = l := by
  apply List.ext_getElem?
  intro j
  rw [List.getElem?_set]
  split
  · rename_i h; subst h
    split
    · exact e.symm
    · rename_i h; exact absurd (List.getElem?_eq_some_iff.mp e).1 h
  · rfl
/-- .. the value stays, the slot changes -/
theorem Holds.at' (h : Holds K Hk ρ T σ H) (e : ρ[i]? = some s) : ∃ v R, σ[i]? = some v ∧ HL K Hk H ((v, s) :: R) ∧ ∀ Hk' H' s', HL K Hk' H' ((v, s') :: R) → Holds K Hk' (ρ.set i s') T σ H' := by
  obtain ⟨v, R, e1, h1, h2⟩ := h.at e
  exact ⟨v, R, e1, h1, fun Hk' H' s' q => by have := h2 Hk' H' v s' q; rw [set_self e1] at this; exact this⟩
theorem Holds.get_sh {d : D} (h : Holds K Hk ρ T σ H) (e : ρ[i]? = some (.sh d)) : ∃ v, σ[i]? = some (some v) ∧ Rep K Hk v d := by
  obtain ⟨v, R, e1, h1, _⟩ := h.at e
  obtain ⟨v', rfl, r⟩ := h1.get_sh
  exact ⟨v', e1, r⟩
theorem Holds.front (h : Holds K Hk ρ T σ H) : HL K Hk H (T ++ σ.zip ρ) := h.hl.perm List.perm_append_comm
theorem Holds.back (l : ρ.length = σ.length) (h : HL K Hk H (T ++ σ.zip ρ)) : Holds K Hk ρ T σ H := ⟨l, h.perm List.perm_append_comm⟩
theorem Holds.pop (h : Holds K Hk ρ (c :: T) σ H) : Holds K Hk ρ T σ H := .back h.len h.front.tail
theorem Holds.sh {v : V} {d : D} (h : Holds K Hk ρ T σ H) (r : Rep K Hk v d) : Holds K Hk ρ ((some v, .sh d) :: T) σ H := .back h.len (h.front.sh r)
theorem Holds.top {x : Option V} {d : D} (h : Holds K Hk ρ ((x, .sh d) :: T) σ H) : ∃ v, x = some v ∧ Rep K Hk v d := HL.get_sh h.front
theorem Holds.ex (h : Holds K Hk ρ T σ H) : Same Hk H := h.hl.ex
theorem Holds.know {u : HO} (h : Holds K Hk ρ T σ H) (hp : H p = none) : Holds K (upd Hk p u) ρ T σ (upd H p u) := ⟨h.len, h.hl.know hp⟩
theorem Holds.know_same {u : HO} (h : Holds K Hk ρ T σ H) (hp : H p = none) : Same Hk (upd Hk p u) := h.hl.know_same hp
theorem Holds.own {u : HO} {o : Own} {b : Bool} (h : Holds K Hk ρ T σ H) (hp : H p = none) (ho : OwnAt K Hk (upd H p u) o p [p]) : Holds K Hk ρ ((some (.ref p), .ow b o) :: T) σ (upd H p u) := .back h.len (h.front.own hp ho)
theorem Holds.perm {T' : List Cell} (h : Holds K Hk ρ T σ H) (e : T.Perm T') : Holds K Hk ρ T' σ H := ⟨h.len, h.hl.perm (e.append_left _)⟩
theorem Holds.sub (h : Holds K Hk ρ (c :: T) σ H) : Holds K Hk ρ T σ H := h.pop
end
end WL

set_option Elab.async false
set_option linter.all false
set_option maxRecDepth 100000
set_option maxHeartbeats 4000000
/-! W1: judgements over values: an expression, a test, operands, statements; a def's promise; calls. -/
namespace WL
open PySem PySem.Spec PyProof.Rows L2

/-! ### the strongest readings -/
section
variable {X : Cx} {e : Expr} {es : List Expr} {st : Stmt} {sts : List Stmt} {σ : L2.St} {H : Hp}
def tSem (X : Cx) (e : Expr) : TE := fun σ H Q => ∀ pins s, Inv X pins σ H s → wpAny (model X.prog X.w) X.A (eval e X.env) (EP X pins σ Q) X.xe s
theorem pe_sem : PE X e (tSem X e) := ⟨fun pins s _ _ _ I h => h pins s I⟩
theorem tSem_of {t : TE} {Q : VK} (h : PE X e t) (q : t σ H Q) : tSem X e σ H Q := fun pins s I => h.run pins s σ H Q I q
def tSemT (X : Cx) (e : Expr) : TT := fun σ H Q => ∀ pins s, Inv X pins σ H s → wpAny (model X.prog X.w) X.A (isTrue e X.env (eval e X.env)) (TP X pins σ Q) X.xe s
theorem pt_sem : PT X e (tSemT X e) := ⟨fun pins s _ _ _ I h => h pins s I⟩
theorem tSemT_of {t : TT} {Q : Bool → Hp → Prop} (h : PT X e t) (q : t σ H Q) : tSemT X e σ H Q := fun pins s I => h.run pins s σ H Q I q
def tSemW (X : Cx) (e : Expr) : TT := fun σ H Q => ∀ whole pins s, Inv X pins σ H s → wpAny (model X.prog X.w) X.A (isTrue e X.env whole) (TP X pins σ Q) X.xe s
theorem pw_sem : PW X e (tSemW X e) := ⟨fun wh pins s _ _ _ I h => h wh pins s I⟩
theorem tSemW_of {t : TT} {Q : Bool → Hp → Prop} (h : PW X e t) (q : t σ H Q) : tSemW X e σ H Q := fun wh pins s I => h.run wh pins s σ H Q I q
def tSemA (X : Cx) (es : List Expr) : TA := fun σ H Q => ∀ pos pins s, Inv X pins σ H s → wpAny (model X.prog X.w) X.A (spliced (backTo pos (starEach es X.env))) (AP X pins σ Q) X.xe s
theorem pa_sem : PA X es (tSemA X es) := ⟨fun pos pins s _ _ _ I h => h pos pins s I⟩
theorem tSemA_of {t : TA} {Q : List V → Hp → Prop} (h : PA X es t) (q : t σ H Q) : tSemA X es σ H Q := fun pos pins s I => h.run pos pins s σ H Q I q
def tSemS (X : Cx) (st : Stmt) : TS := fun D σ H => ∀ pins s, Inv X pins σ H s → wpAny (model X.prog X.w) X.A (exec st X.env) (SP X pins D) X.xe s
theorem ps_sem : PS X st (tSemS X st) := ⟨fun pins s _ _ _ I h => h pins s I⟩
theorem tSemS_of {t : TS} {D : Ends} (h : PS X st t) (q : t D σ H) : tSemS X st D σ H := fun pins s I => h.run pins s σ H D I q
def tSemSs (X : Cx) (sts : List Stmt) : TS := fun D σ H => ∀ pins s, Inv X pins σ H s → wpAny (model X.prog X.w) X.A (execs sts X.env) (SP X pins D) X.xe s
theorem pss_sem : PSs X sts (tSemSs X sts) := ⟨fun pins s _ _ _ I h => h pins s I⟩
theorem tSemSs_of {t : TS} {D : Ends} (h : PSs X sts t) (q : t D σ H) : tSemSs X sts D σ H := fun pins s I => h.run pins s σ H D I q
end

/-! ### readings of values -/
abbrev VK0 := Slot → Rho → Prop
abbrev VE := Rho → VK0 → Prop
abbrev VT := Rho → (Bool → Rho → Prop) → Prop
/-- an operand: its value, or a slot that is only looked into -/
inductive Arg where
  | val (s : Slot) | pk (i : Nat)
abbrev VO := Rho → (Arg → Rho → Prop) → Prop
abbrev VA := Rho → (List Arg → Rho → Prop) → Prop
structure Out where
  nx : Rho → Prop
  rt : Slot → Rho → Prop
  bk : Rho → Prop := fun _ => False
  ct : Rho → Prop := fun _ => False
abbrev VS := Out → Rho → Prop

def Post (K : PySem.W.Frag) (Hk : Hp) (T : List Cell) (σ : L2.St) (ρ : Rho) (Q : VK0) (P : VK) : Prop :=
  ∀ v H' Hk' ρ' r, Same Hk Hk' → Holds K Hk' ρ' ((some v, r) :: T) σ H' → Kp σ ρ σ ρ' → Q r ρ' → P v H'
def PostT (K : PySem.W.Frag) (Hk : Hp) (T : List Cell) (σ : L2.St) (ρ : Rho) (Q : Bool → Rho → Prop) (P : Bool → Hp → Prop) : Prop :=
  ∀ b H' Hk' ρ', Same Hk Hk' → Holds K Hk' ρ' T σ H' → Kp σ ρ σ ρ' → Q b ρ' → P b H'
inductive ArgAt (σ : L2.St) : Arg → V → List Cell → Prop
  | val {s v} : ArgAt σ (.val s) v [(some v, s)]
  | pk {i v} (h : σ[i]? = some (some v)) : ArgAt σ (.pk i) v []
inductive ArgsAt (σ : L2.St) : List Arg → List V → List Cell → Prop
  | nil : ArgsAt σ [] [] []
  | cons {a v ts as vs us} (h : ArgAt σ a v ts) (t : ArgsAt σ as vs us) : ArgsAt σ (a :: as) (v :: vs) (us ++ ts)
def PostO (K : PySem.W.Frag) (Hk : Hp) (T : List Cell) (σ : L2.St) (ρ : Rho) (Q : Arg → Rho → Prop) (P : VK) : Prop :=
  ∀ v H' Hk' ρ' a ts, Same Hk Hk' → ArgAt σ a v ts → Holds K Hk' ρ' (ts ++ T) σ H' → Kp σ ρ σ ρ' → Q a ρ' → P v H'
def PostA (K : PySem.W.Frag) (Hk : Hp) (T : List Cell) (σ : L2.St) (ρ : Rho) (Q : List Arg → Rho → Prop) (P : List V → Hp → Prop) : Prop :=
  ∀ vs H' Hk' ρ' as ts, Same Hk Hk' → ArgsAt σ as vs ts → Holds K Hk' ρ' (ts ++ T) σ H' → Kp σ ρ σ ρ' → Q as ρ' → P vs H'
structure OutOk (K : PySem.W.Frag) (Hk : Hp) (T : List Cell) (σ : L2.St) (ρ : Rho) (R : Out) (D : Ends) : Prop where
  nx : ∀ σ' H' Hk' ρ', Same Hk Hk' → Holds K Hk' ρ' T σ' H' → Kp σ ρ σ' ρ' → R.nx ρ' → D.nx σ' H'
  rt : ∀ v σ' H' Hk' ρ' r, Same Hk Hk' → Holds K Hk' ρ' ((some v, r) :: T) σ' H' → Kp σ ρ σ' ρ' → R.rt r ρ' → D.rt v H'
  bk : ∀ σ' H' Hk' ρ', Same Hk Hk' → Holds K Hk' ρ' T σ' H' → Kp σ ρ σ' ρ' → R.bk ρ' → D.bk σ' H'
  ct : ∀ σ' H' Hk' ρ', Same Hk Hk' → Holds K Hk' ρ' T σ' H' → Kp σ ρ σ' ρ' → R.ct ρ' → D.ct σ' H'

structure PWE (X : Cx) (e : Expr) (t : VE) : Prop where
  run : ∀ ρ Q Hk T σ H P, t ρ Q → Holds X.K Hk ρ T σ H → Post X.K Hk T σ ρ Q P → tSem X e σ H P
structure PWT (X : Cx) (e : Expr) (t : VT) : Prop where
  run : ∀ ρ Q Hk T σ H P, t ρ Q → Holds X.K Hk ρ T σ H → PostT X.K Hk T σ ρ Q P → tSemT X e σ H P
/-- a chain of and | or as a test -/
structure PWW (X : Cx) (e : Expr) (t : VT) : Prop where
  run : ∀ ρ Q Hk T σ H P, t ρ Q → Holds X.K Hk ρ T σ H → PostT X.K Hk T σ ρ Q P → tSemW X e σ H P
structure PWO (X : Cx) (e : Expr) (t : VO) : Prop where
  run : ∀ ρ Q Hk T σ H P, t ρ Q → Holds X.K Hk ρ T σ H → PostO X.K Hk T σ ρ Q P → tSem X e σ H P
structure PWA (X : Cx) (es : List Expr) (t : VA) : Prop where
  run : ∀ ρ Q Hk T σ H P, t ρ Q → Holds X.K Hk ρ T σ H → PostA X.K Hk T σ ρ Q P → tSemA X es σ H P
structure PWS (X : Cx) (st : Stmt) (t : VS) : Prop where
  run : ∀ ρ R Hk T σ H D, t R ρ → Holds X.K Hk ρ T σ H → OutOk X.K Hk T σ ρ R D → tSemS X st D σ H
structure PWSs (X : Cx) (st : List Stmt) (t : VS) : Prop where
  run : ∀ ρ R Hk T σ H D, t R ρ → Holds X.K Hk ρ T σ H → OutOk X.K Hk T σ ρ R D → tSemSs X st D σ H

section
variable {K : PySem.W.Frag} {Hk Hk1 Hk' H H' : Hp} {ρ ρ1 : Rho} {T : List Cell} {σ σ1 : L2.St} {Q : VK0} {P : VK}
theorem Post.step (p : Post K Hk T σ ρ Q P) (e : Same Hk Hk1) (k : Kp σ ρ σ ρ1) : Post K Hk1 T σ ρ1 Q P := fun v H' Hk' ρ' r e' h k' q => p v H' Hk' ρ' r (e.trans e') h (k.trans k') q
theorem PostT.step {Q : Bool → Rho → Prop} {P : Bool → Hp → Prop} (p : PostT K Hk T σ ρ Q P) (e : Same Hk Hk1) (k : Kp σ ρ σ ρ1) : PostT K Hk1 T σ ρ1 Q P := fun b H' Hk' ρ' e' h k' q => p b H' Hk' ρ' (e.trans e') h (k.trans k') q
theorem PostO.step {Q : Arg → Rho → Prop} (p : PostO K Hk T σ ρ Q P) (e : Same Hk Hk1) (k : Kp σ ρ σ ρ1) : PostO K Hk1 T σ ρ1 Q P := fun v H' Hk' ρ' a ts e' ha h k' q => p v H' Hk' ρ' a ts (e.trans e') ha h (k.trans k') q
theorem PostA.step {Q : List Arg → Rho → Prop} {P : List V → Hp → Prop} (p : PostA K Hk T σ ρ Q P) (e : Same Hk Hk1) (k : Kp σ ρ σ ρ1) : PostA K Hk1 T σ ρ1 Q P := fun v H' Hk' ρ' a ts e' ha h k' q => p v H' Hk' ρ' a ts (e.trans e') ha h (k.trans k') q
theorem OutOk.step {R : Out} {D : Ends} (p : OutOk K Hk T σ ρ R D) (e : Same Hk Hk1) (k : Kp σ ρ σ1 ρ1) : OutOk K Hk1 T σ1 ρ1 R D where
  nx := fun σ' H' Hk' ρ' e' h k' q => p.nx σ' H' Hk' ρ' (e.trans e') h (k.trans k') q
  rt := fun v σ' H' Hk' ρ' r e' h k' q => p.rt v σ' H' Hk' ρ' r (e.trans e') h (k.trans k') q
  bk := fun σ' H' Hk' ρ' e' h k' q => p.bk σ' H' Hk' ρ' (e.trans e') h (k.trans k') q
  ct := fun σ' H' Hk' ρ' e' h k' q => p.ct σ' H' Hk' ρ' (e.trans e') h (k.trans k') q
end

section
variable {K : PySem.W.Frag} {Hk H : Hp} {ρ : Rho} {T : List Cell} {σ : L2.St} {i : Nat} {s : Slot}
/-- a slot's cell taken out -/
theorem Holds.atU (h : Holds K Hk ρ T σ H) (e : ρ[i]? = some s) : ∃ v, ∃ R : List Cell, σ[i]? = some v ∧ HL K Hk H ((v, s) :: R) ∧ Holds K Hk (ρ.set i .un) ((v, s) :: T) σ H := by
  obtain ⟨v, ev⟩ : ∃ v, σ[i]? = some v := by
    have hi : i < σ.length := by rw [← h.len]; exact (List.getElem?_eq_some_iff.mp e).1
    exact ⟨σ[i], List.getElem?_eq_getElem hi⟩
  obtain ⟨R, h1, h2⟩ := zip_at ev e
  refine ⟨v, R ++ T, ev, h.hl.perm (h1.append_right T), by simp [h.len], ?_⟩
  have h3 := h2 v .un
  rw [set_self ev] at h3
  have h4 : HL K Hk H ((v, .un) :: ((v, s) :: (R ++ T))) := (h.hl.perm (h1.append_right T)).un
  refine h4.perm ?_
  refine .trans ?_ (h3.append_right ((v, s) :: T)).symm
  exact .cons _ (List.perm_middle (l₁ := R) (a := (v, s)) (l₂ := T)).symm
end

/-! ### views -/
inductive View (K : PySem.W.Frag) (Hk H : Hp) : V → D → Prop
  | known {v d} (r : Rep K Hk v d) : View K Hk H v d
  | own {o p fp} (r : OwnAt K Hk H o p fp) : View K Hk H (.ref p) o.d
abbrev Views (K : PySem.W.Frag) (Hk H : Hp) : List V → List D → Prop := Paired (View K Hk H)
section
variable {K : PySem.W.Frag} {Hk H : Hp} {v : V}
theorem View.int {i : Int} (h : View K Hk H v (.int i)) : v = .int i := by
  generalize e : D.int i = d at h
  cases h with
  | known r => subst e; cases r; rfl
  | own r => cases r <;> cases e
theorem View.str {x : Str} (h : View K Hk H v (.str x)) : v = .str x := by
  generalize e : D.str x = d at h
  cases h with
  | known r => subst e; cases r; rfl
  | own r => cases r <;> cases e
theorem View.bl {x : Bool} (h : View K Hk H v (.bl x)) : v = .bl x := by
  generalize e : D.bl x = d at h
  cases h with
  | known r => subst e; cases r; rfl
  | own r => cases r <;> cases e
theorem View.non (h : View K Hk H v .non) : v = .non := by
  generalize e : D.non = d at h
  cases h with
  | known r => subst e; cases r; rfl
  | own r => cases r <;> cases e
theorem View.lst {ds : List D} (ex : Same Hk H) (h : View K Hk H v (.lst ds)) : ∃ a vs, v = .ref a ∧ H a = some (.lst vs) ∧ Reps K Hk vs ds := by
  generalize e : D.lst ds = d at h
  cases h with
  | known r => subst e; cases r with | lst h r => exact ⟨_, _, rfl, ex _ _ h, r⟩
  | own r => cases r <;> first | (cases e; rename_i h r; exact ⟨_, _, rfl, h, r⟩) | cases e
theorem View.tup {ds : List D} (ex : Same Hk H) (h : View K Hk H v (.tup ds)) : ∃ a vs, v = .ref a ∧ H a = some (.tup vs) ∧ Reps K Hk vs ds := by
  generalize e : D.tup ds = d at h
  cases h with
  | known r => subst e; cases r with | tup h r => exact ⟨_, _, rfl, ex _ _ h, r⟩
  | own r => cases r <;> cases e
theorem View.fls {ds : List D} (ex : Same Hk H) (h : View K Hk H v (.fls ds)) : ∃ a vs, v = .ref a ∧ SqL K H a vs ∧ Reps K Hk vs ds := by
  generalize e : D.fls ds = d at h
  cases h with
  | known r => subst e; cases r with | fls h r => exact ⟨_, _, rfl, ex.seq h, r⟩
  | own r => cases r <;> cases e
theorem View.ftp {ds : List D} (ex : Same Hk H) (h : View K Hk H v (.ftp ds)) : ∃ a vs, v = .ref a ∧ SqT K H a vs ∧ Reps K Hk vs ds := by
  generalize e : D.ftp ds = d at h
  cases h with
  | known r => subst e; cases r with | ftp h r => exact ⟨_, _, rfl, Same.sqT ex h, r⟩
  | own r => cases r <;> cases e
/-- anything that is read as a list -/
theorem View.seqL {d : D} {ds : List D} (ex : Same Hk H) (h : View K Hk H v d) (e : d = .lst ds ∨ d = .fls ds) : ∃ a vs, v = .ref a ∧ SqL K H a vs ∧ Reps K Hk vs ds := by
  rcases e with rfl | rfl
  · obtain ⟨a, vs, e, h, r⟩ := h.lst ex; exact ⟨a, vs, e, .of h, r⟩
  · exact h.fls ex
theorem View.seqT {d : D} {ds : List D} (ex : Same Hk H) (h : View K Hk H v d) (e : d = .tup ds ∨ d = .ftp ds) : ∃ a vs, v = .ref a ∧ SqT K H a vs ∧ Reps K Hk vs ds := by
  rcases e with rfl | rfl
  · obtain ⟨a, vs, e, h, r⟩ := h.tup ex; exact ⟨a, vs, e, .of h, r⟩
  · exact h.ftp ex
theorem View.dct {ds : List (Key × D)} (ex : Same Hk H) (h : View K Hk H v (.dct ds)) : ∃ a vs, v = .ref a ∧ Rd H a (.dK vs) ∧ RepK K Hk vs ds := by
  generalize e : D.dct ds = d at h
  cases h with
  | known r => subst e; cases r with | dct h r => exact ⟨_, _, rfl, Same.rd ex h, r⟩
  | own r => cases r <;> first | (cases e; rename_i h r; exact ⟨_, _, rfl, .of h, r⟩) | cases e
theorem View.dcT {ds : List (List Key × D)} (ex : Same Hk H) (h : View K Hk H v (.dcT ds)) : ∃ a vs, v = .ref a ∧ Rd H a (.dT vs) ∧ RepT K Hk vs ds := by
  generalize e : D.dcT ds = d at h
  cases h with
  | known r => subst e; cases r with | dcT h r => exact ⟨_, _, rfl, Same.rd ex h, r⟩
  | own r => cases r <;> first | (cases e; rename_i h r; exact ⟨_, _, rfl, .of h, r⟩) | cases e
end

def slotD : Slot → Option D
  | .un => none
  | .sh d => some d
  | .ow _ o => some o.d
def argD (ρ : Rho) : Arg → Option D
  | .val s => slotD s
  | .pk i => match ρ[i]? with
    | some s => slotD s
    | none => none
def argDs (ρ : Rho) : List Arg → Option (List D)
  | [] => some []
  | a :: as => match argD ρ a, argDs ρ as with
    | some d, some ds => some (d :: ds)
    | _, _ => none
section
variable {K : PySem.W.Frag} {Hk H : Hp} {ρ : Rho} {T ts : List Cell} {σ : L2.St} {v : V} {d : D}
theorem HL.view {s : Slot} {L : List Cell} (h : HL K Hk H ((some v, s) :: L)) (e : slotD s = some d) : View K Hk H v d := by
  obtain ⟨F, hc, _, _⟩ := h.cells
  cases hc with
  | cons h1 t =>
    have h1' : CellOk K Hk H (some v) s _ := h1
    cases s with
    | un => cases e
    | sh d' => cases e; cases h1' with | sh r => exact .known r
    | ow b o => cases e; cases h1' with | ow r => exact .own r
theorem Holds.slot_view {i : Nat} {s : Slot} (h : Holds K Hk ρ T σ H) (e : ρ[i]? = some s) (hv : σ[i]? = some (some v)) (hd : slotD s = some d) : View K Hk H v d := by
  obtain ⟨v', R, e1, h1, _⟩ := h.at e
  rw [hv] at e1; cases e1
  exact h1.view hd
theorem Holds.some_at {i : Nat} {s : Slot} (h : Holds K Hk ρ T σ H) (e : ρ[i]? = some s) (hd : slotD s = some d) : ∃ v, σ[i]? = some (some v) := by
  obtain ⟨v', R, e1, h1, _⟩ := h.at e
  obtain ⟨F, hc, _, _⟩ := h1.cells
  cases hc with
  | cons h1 t =>
    have h1' : CellOk K Hk H v' s _ := h1
    cases h1' with
    | un => cases hd
    | sh r => exact ⟨_, e1⟩
    | ow r => exact ⟨_, e1⟩
theorem ArgAt.view {a : Arg} (h : Holds K Hk ρ (ts ++ T) σ H) (ha : ArgAt σ a v ts) (e : argD ρ a = some d) : View K Hk H v d := by
  cases ha with
  | val => exact HL.view h.front e
  | pk hv =>
    rename_i i
    have e' : (match ρ[i]? with | some s => slotD s | none => none) = some d := e
    cases hs : ρ[i]? with
    | none => rw [hs] at e'; cases e'
    | some s => rw [hs] at e'; exact h.slot_view hs hv e'
theorem Holds.drop : ∀ {ts : List Cell}, Holds K Hk ρ (ts ++ T) σ H → Holds K Hk ρ T σ H
  | [], h => h
  | _ :: ts, h => Holds.drop (ts := ts) h.pop
theorem ArgsAt.views {as : List Arg} {vs : List V} {ts : List Cell} (h : ArgsAt σ as vs ts) : ∀ {T : List Cell} {ds : List D}, Holds K Hk ρ (ts ++ T) σ H → argDs ρ as = some ds → Views K Hk H vs ds := by
  induction h with
  | nil => intro T ds h e; cases e; exact .nil
  | cons ha t ih =>
    rename_i a v ts as vs us
    intro T ds h e
    have e' : (match argD ρ a, argDs ρ as with | some d, some ds => some (d :: ds) | _, _ => none) = some ds := e
    cases h1 : argD ρ a with
    | none => rw [h1] at e'; cases e'
    | some d =>
      cases h2 : argDs ρ as with
      | none => rw [h1, h2] at e'; cases e'
      | some es =>
        rw [h1, h2] at e'
        cases e'
        rw [List.append_assoc] at h
        exact .cons (ha.view h.drop h1) (ih h h2)
end

/-! ### what a primitive gives -/
inductive Ret where
  | val (d : D) | newL (ds : List D) | newT (ds : List D) | newD (kvs : List (Key × D)) | newE (kvs : List (List Key × D))
def Ret.slot : Ret → Slot
  | .val d => .sh d
  | .newL ds => .ow false (.lst ds)
  | .newT ds => .sh (.tup ds)
  | .newD kvs => .ow false (.dct kvs)
  | .newE kvs => .ow false (.dcT kvs)
abbrev Prim := List D → (Ret → Prop) → Prop
def RetK (K : PySem.W.Frag) (Hk H : Hp) (P : VK) : Ret → Prop
  | .val d => ∀ v, Rep K Hk v d → P v H
  | .newL ds => ∀ p vs, H p = none → Reps K Hk vs ds → P (.ref p) (upd H p (.lst vs))
  | .newT ds => ∀ p vs, H p = none → Reps K Hk vs ds → P (.ref p) (upd H p (.tup vs))
  | .newD kvs => ∀ p vs, H p = none → RepK K Hk vs kvs → P (.ref p) (upd H p (.dK vs))
  | .newE kvs => ∀ p vs, H p = none → RepT K Hk vs kvs → P (.ref p) (upd H p (.dT vs))
def PrimOk (X : Cx) (r : List V → Hp → VK → Prop) (op : Prim) : Prop :=
  ∀ Hk H vs ds P R, Same Hk H → Views X.K Hk H vs ds → op ds R → (∀ ret, R ret → RetK X.K Hk H P ret) → r vs H P
theorem ret_post {K : PySem.W.Frag} {Hk H : Hp} {ρ : Rho} {T : List Cell} {σ : L2.St} {Q : VK0} {P : VK} {ret : Ret} (h : Holds K Hk ρ T σ H) (p : Post K Hk T σ ρ Q P) (q : Q ret.slot ρ) : RetK K Hk H P ret := by
  cases ret with
  | val d => exact fun v r => p v H Hk ρ _ (.refl _) (h.sh r) (.refl _ _) q
  | newL ds => exact fun a vs ha r => p _ _ Hk ρ _ (.refl _) (h.own ha (.lst upd_same r)) (.refl _ _) q
  | newT ds => exact fun a vs ha r => p _ _ _ ρ _ (h.know_same ha) ((h.know ha).sh (.tup upd_same (r.mono (h.know_same ha)))) (.refl _ _) q
  | newD ds => exact fun a vs ha r => p _ _ Hk ρ _ (.refl _) (h.own ha (.dct upd_same r)) (.refl _ _) q
  | newE ds => exact fun a vs ha r => p _ _ Hk ρ _ (.refl _) (h.own ha (.dcT upd_same r)) (.refl _ _) q

/-! ### expressions -/
section
variable {X : Cx} {e a b : Expr} {es : List Expr} {pos p : Pos} {te ta tb : VE} {to tu : VO} {tas : VA}
/-- a name's value: shared from now on -/
def vVar (i : Nat) : VE := fun ρ Q => (∃ d, ρ[i]? = some (.sh d) ∧ Q (.sh d) ρ) ∨ ∃ o, ρ[i]? = some (.ow false o) ∧ Q (.sh o.d) (ρ.set i (.sh o.d))
theorem kp_set {σ : L2.St} {ρ : Rho} {i : Nat} {s s' : Slot} (e : ρ[i]? = some s) (h : ∀ o, s = .ow true o → ∃ o', s' = .ow true o') : Kp σ ρ σ (ρ.set i s') := fun j o v ho ev => by
  refine ⟨ev, ?_⟩
  by_cases hj : j = i
  · subst hj
    rw [e] at ho
    obtain ⟨o', ho'⟩ := h o (Option.some.inj ho)
    have hl := (List.getElem?_eq_some_iff.mp e).1
    exact ⟨o', by rw [List.getElem?_set_self hl, ho']⟩
  · exact ⟨o, by rw [List.getElem?_set_ne (Ne.symm hj)]; exact ho⟩
theorem pwe_var (i : Nat) {x : Str} (hp : PE X (.Name x pos) (tVar i)) : PWE X (.Name x pos) (vVar i) := ⟨fun ρ Q Hk T σ H P h hh p => tSem_of hp (by
  rcases h with ⟨d, e, q⟩ | ⟨o, e, q⟩
  · obtain ⟨v, ev, r⟩ := hh.get_sh e
    exact ⟨v, ev, p v H Hk ρ _ (.refl _) (hh.sh r) (.refl _ _) q⟩
  · obtain ⟨v, R, ev, h1, back⟩ := hh.at' e
    obtain ⟨Hk', v', rfl, e1, r, h2⟩ := h1.share
    exact ⟨v', ev, p v' H Hk' _ _ e1 ((back Hk' H _ h2).sh r) (kp_set e fun _ z => by cases z) q⟩)⟩
def vC (d : D) : VE := fun ρ Q => Q (.sh d) ρ
theorem pwe_c {v : V} {d : D} (hp : PE X e (tC v)) (r : ∀ K H, Rep K H v d) : PWE X e (vC d) := ⟨fun ρ Q Hk T σ H P h hh p => tSem_of hp (p v H Hk ρ _ (.refl _) (hh.sh (r _ _)) (.refl _ _) h)⟩
theorem pwe_int {i : Int} {j} : PWE X (.Constant (.int i) j pos) (vC (.int i)) := pwe_c pe_int fun _ _ => .int
theorem pwe_bl {i : Bool} {j} : PWE X (.Constant (.bool i) j pos) (vC (.bl i)) := pwe_c pe_bl fun _ _ => .bl
theorem pwe_non {j} : PWE X (.Constant .none j pos) (vC .non) := pwe_c pe_non fun _ _ => .non
theorem pwe_str {x : Str} {j} : PWE X (.Constant (.str x) j pos) (vC (.str x)) := pwe_c pe_str fun _ _ => .str
/-- a module's int or text -/
theorem pwe_globI {x : Str} {i : Int} {t : Tok} (hg : Gl X x) (hm : X.mg x = some (.int i t)) (hd : (x == ("__debug__" : Str)) = false := by decide) : PWE X (.Name x pos) (vC (.int i)) := pwe_c (pe_glob (v := .int i) hg hm ⟨_, rfl⟩ hd) fun _ _ => .int
theorem pwe_globS {x : Str} {i : Str} {t : Tok} (hg : Gl X x) (hm : X.mg x = some (.str i t)) (hd : (x == ("__debug__" : Str)) = false := by decide) : PWE X (.Name x pos) (vC (.str i)) := pwe_c (pe_glob (v := .str i) hg hm ⟨_, rfl⟩ hd) fun _ _ => .str

/-- operands -/
def vPk (i : Nat) : VO := fun ρ Q => ∃ s d, ρ[i]? = some s ∧ slotD s = some d ∧ Q (.pk i) ρ
theorem pwo_var (i : Nat) {x : Str} (hp : PE X (.Name x pos) (tVar i)) : PWO X (.Name x pos) (vPk i) := ⟨fun ρ Q Hk T σ H P h hh p => tSem_of hp (by
  obtain ⟨s, d, e, ed, q⟩ := h
  obtain ⟨v, ev⟩ := hh.some_at e ed
  exact ⟨v, ev, p v H Hk ρ _ [] (.refl _) (.pk ev) hh (.refl _ _) q⟩)⟩
def vVal (te : VE) : VO := fun ρ Q => te ρ fun s ρ' => Q (.val s) ρ'
theorem pwo_val (h : PWE X e te) : PWO X e (vVal te) := ⟨fun ρ Q Hk T σ H P q hh p => h.run ρ _ Hk T σ H P q hh fun v H' Hk' ρ' r e h' k q' => p v H' Hk' ρ' _ [(some v, r)] e .val h' k q'⟩
def vNil : VA := fun ρ Q => Q [] ρ
def vCons (to : VO) (ta : VA) : VA := fun ρ Q => to ρ fun a ρ1 => ta ρ1 fun as ρ2 => Q (a :: as) ρ2
theorem pwa_nil : PWA X [] vNil := ⟨fun ρ Q Hk T σ H P q hh p => tSemA_of pa_nil (p [] H Hk ρ [] [] (.refl _) .nil hh (.refl _ _) q)⟩
theorem pwa_cons (h : PWO X e to) (hr : PWA X es tas) (hs : starEach (e :: es) X.env = (false, eval e X.env) :: starEach es X.env := by rfl) : PWA X (e :: es) (vCons to tas) := ⟨fun ρ Q Hk T σ H P q hh p =>
  tSemA_of (pa_cons pe_sem pa_sem hs) (h.run ρ _ Hk T σ H _ q hh fun v H1 Hk1 ρ1 a ts e1 ha h1 k1 q1 => hr.run ρ1 _ Hk1 (ts ++ T) σ H1 _ q1 h1 fun vs H2 Hk2 ρ2 as us e2 has h2 k2 q2 =>
    p (v :: vs) H2 Hk2 ρ2 (a :: as) (us ++ ts) (e1.trans e2) (.cons ha has) (by rw [List.append_assoc]; exact h2) (k1.trans k2) q2)⟩

/-- a reading over heaps does what a reading over values says -/
structure RunE (K : PySem.W.Frag) (t : TE) (te : VE) : Prop where
  run : ∀ ρ Q Hk T σ H P, te ρ Q → Holds K Hk ρ T σ H → Post K Hk T σ ρ Q P → t σ H P
theorem pwe_of {t : TE} (hp : PE X e t) (h : RunE X.K t te) : PWE X e te := ⟨fun ρ Q Hk T σ H P q hh p => tSem_of hp (h.run ρ Q Hk T σ H P q hh p)⟩
theorem PWE.sem (h : PWE X e te) : RunE X.K (tSem X e) te := ⟨h.run⟩
/-- a value that is a truth, as a test -/
def vT (te : VE) : VT := fun ρ Q => te ρ fun s ρ' => ∃ k, s = .sh (.bl k) ∧ Q k ρ'
theorem pwt_of {t : TE} (hp : PT X e (fun σ H Q => t σ H fun x H1 => ∃ c, x = .bl c ∧ Q c H1)) (h : RunE X.K t te) : PWT X e (vT te) := ⟨fun ρ Q Hk T σ H P q hh p => tSemT_of hp
  (h.run ρ _ Hk T σ H _ q hh fun v H' Hk' ρ' r e' h' k' ⟨k, hr, q'⟩ => by
    subst hr
    obtain ⟨v', ev, rv⟩ := h'.top
    cases ev; cases rv
    exact ⟨k, rfl, p k H' Hk' ρ' e' h'.pop k' q'⟩)⟩
/-- a primitive of operands -/
def vPrim (op : Prim) (ta : VA) : VE := fun ρ Q => ta ρ fun as ρ1 => ∃ ds, argDs ρ1 as = some ds ∧ op ds fun ret => Q ret.slot ρ1
theorem run_prim {r : List V → Hp → VK → Prop} {op : Prim} (ho : PrimOk X r op) (ha : PWA X es tas) : RunE X.K (tCB r (tSemA X es)) (vPrim op tas) := ⟨fun ρ Q Hk T σ H P q hh p =>
  ha.run ρ _ Hk T σ H _ q hh fun vs H1 Hk1 ρ1 as ts e1 has h1 k1 ⟨ds, hd, q1⟩ => ho Hk1 H1 vs ds P _ h1.ex (has.views h1 hd) q1 fun ret hr => ret_post h1.drop (p.step e1 k1) hr⟩
/-- two operands -/
def vBin (op : Prim) (ta tb : VO) : VE := fun ρ Q => ta ρ fun a ρ1 => tb ρ1 fun b ρ2 => ∃ da db, argD ρ2 a = some da ∧ argD ρ2 b = some db ∧ op [da, db] fun ret => Q ret.slot ρ2
def PrimOk2 (X : Cx) (r : R2) (op : Prim) : Prop :=
  ∀ Hk H x y dx dy P R, Same Hk H → View X.K Hk H x dx → View X.K Hk H y dy → op [dx, dy] R → (∀ ret, R ret → RetK X.K Hk H P ret) → r x y H P
theorem run_bin {r : R2} {op : Prim} (ho : PrimOk2 X r op) (ha : PWO X a to) (hb : PWO X b tu) : RunE X.K (tOp r (tSem X a) (tSem X b)) (vBin op to tu) := ⟨fun ρ Q Hk T σ H P q hh p =>
  ha.run ρ _ Hk T σ H _ q hh fun v H1 Hk1 ρ1 a ts e1 h1 hh1 k1 q1 => hb.run ρ1 _ Hk1 (ts ++ T) σ H1 _ q1 hh1 fun u H2 Hk2 ρ2 b us e2 h2 hh2 k2 ⟨da, db, hda, hdb, q2⟩ => by
    have av : View X.K Hk2 H2 v da := ArgAt.view (ts := ts) (T := T) hh2.drop h1 hda
    have bv : View X.K Hk2 H2 u db := ArgAt.view (ts := us) (T := ts ++ T) hh2 h2 hdb
    exact ho Hk2 H2 v u da db P _ hh2.ex av bv q2 fun ret hr => ret_post hh2.drop.drop (p.step (e1.trans e2) (k1.trans k2)) hr⟩
/-- one operand -/
def vUn (op : Prim) (ta : VO) : VE := fun ρ Q => ta ρ fun a ρ1 => ∃ da, argD ρ1 a = some da ∧ op [da] fun ret => Q ret.slot ρ1
def PrimOk1 (X : Cx) (r : V → Hp → VK → Prop) (op : Prim) : Prop := ∀ Hk H x dx P R, Same Hk H → View X.K Hk H x dx → op [dx] R → (∀ ret, R ret → RetK X.K Hk H P ret) → r x H P
theorem run_un {r : V → Hp → VK → Prop} {op : Prim} (ho : PrimOk1 X r op) (ha : PWO X a to) : RunE X.K (tUn r (tSem X a)) (vUn op to) := ⟨fun ρ Q Hk T σ H P q hh p =>
  ha.run ρ _ Hk T σ H _ q hh fun v H1 Hk1 ρ1 a ts e1 h1 hh1 k1 ⟨da, hda, q1⟩ => ho Hk1 H1 v da P _ hh1.ex (ArgAt.view hh1 h1 hda) q1 fun ret hr => ret_post hh1.drop (p.step e1 k1) hr⟩
/-- a slot handed on: what is owned moves -/
def vMv (i : Nat) : VE := fun ρ Q => (∃ d, ρ[i]? = some (.sh d) ∧ Q (.sh d) ρ) ∨ ∃ o, ρ[i]? = some (.ow false o) ∧ Q (.ow false o) (ρ.set i .un)
theorem pwe_mv (i : Nat) {x : Str} (hp : PE X (.Name x pos) (tVar i)) : PWE X (.Name x pos) (vMv i) := ⟨fun ρ Q Hk T σ H P h hh p => tSem_of hp (by
  rcases h with ⟨d, e, q⟩ | ⟨o, e, q⟩
  · obtain ⟨v, ev, r⟩ := hh.get_sh e
    exact ⟨v, ev, p v H Hk ρ _ (.refl _) (hh.sh r) (.refl _ _) q⟩
  · obtain ⟨v', ev'⟩ := hh.some_at e (d := o.d) rfl
    obtain ⟨v, R, ev, h1, back⟩ := hh.atU e
    rw [ev] at ev'; cases ev'
    exact ⟨v', ev, p v' H Hk _ _ (.refl _) back (kp_set e fun _ z => by cases z) q⟩)⟩
/-- and, or, not of truths as values; a if t else b -/
def vAndV (ta tb : VE) : VE := fun ρ Q => ta ρ fun s ρ1 => ∃ k, s = .sh (.bl k) ∧ (k = true → tb ρ1 Q) ∧ (k = false → Q (.sh (.bl false)) ρ1)
def vOrV (ta tb : VE) : VE := fun ρ Q => ta ρ fun s ρ1 => ∃ k, s = .sh (.bl k) ∧ (k = true → Q (.sh (.bl true)) ρ1) ∧ (k = false → tb ρ1 Q)
def vNotV (ta : VE) : VE := fun ρ Q => ta ρ fun s ρ1 => ∃ k, s = .sh (.bl k) ∧ Q (.sh (.bl (!k))) ρ1
theorem top_bl {K : PySem.W.Frag} {Hk H : Hp} {ρ : Rho} {T : List Cell} {σ : L2.St} {v : V} {k : Bool} (h : Holds K Hk ρ ((some v, .sh (.bl k)) :: T) σ H) : v = .bl k := by
  obtain ⟨v', ev, rv⟩ := h.top
  cases ev; cases rv; rfl
theorem run_and {t : TE} (ha : PWE X a ta) (hb : RunE X.K t tb) : RunE X.K (tAndV (tSem X a) t) (vAndV ta tb) := ⟨fun ρ Q Hk T σ H P q hh p =>
  ha.run ρ _ Hk T σ H _ q hh fun v H1 Hk1 ρ1 r e1 h1 k1 ⟨k, hr, q1, q2⟩ => by
    subst hr
    refine ⟨k, top_bl h1, ?_⟩
    cases k with
    | true => rw [if_pos rfl]; exact hb.run ρ1 _ Hk1 T σ H1 _ (q1 rfl) h1.pop (p.step e1 k1)
    | false => rw [if_neg Bool.false_ne_true]; exact p _ H1 Hk1 ρ1 _ e1 (h1.pop.sh .bl) k1 (q2 rfl)⟩
theorem run_or {t : TE} (ha : PWE X a ta) (hb : RunE X.K t tb) : RunE X.K (tOrV (tSem X a) t) (vOrV ta tb) := ⟨fun ρ Q Hk T σ H P q hh p =>
  ha.run ρ _ Hk T σ H _ q hh fun v H1 Hk1 ρ1 r e1 h1 k1 ⟨k, hr, q1, q2⟩ => by
    subst hr
    refine ⟨k, top_bl h1, ?_⟩
    cases k with
    | true => rw [if_pos rfl]; exact p _ H1 Hk1 ρ1 _ e1 (h1.pop.sh .bl) k1 (q1 rfl)
    | false => rw [if_neg Bool.false_ne_true]; exact hb.run ρ1 _ Hk1 T σ H1 _ (q2 rfl) h1.pop (p.step e1 k1)⟩
theorem pwe_not (ha : PWE X a ta) : PWE X (.UnaryOp .Not a pos) (vNotV ta) := ⟨fun ρ Q Hk T σ H P q hh p => tSem_of (L2.pe_not pe_sem)
  (ha.run ρ _ Hk T σ H _ q hh fun v H1 Hk1 ρ1 r e1 h1 k1 ⟨k, hr, q1⟩ => by
    subst hr
    exact ⟨k, top_bl h1, p _ H1 Hk1 ρ1 _ e1 (h1.pop.sh .bl) k1 q1⟩)⟩
variable {rest : List Expr}
theorem pwe_and (ha : PWE X a ta) (hb : PWE X (.BoolOp .And (b :: rest) pos) tb) : PWE X (.BoolOp .And (a :: b :: rest) pos) (vAndV ta tb) := pwe_of (pe_and pe_sem pe_sem) (run_and ha hb.sem)
theorem pwe_or (ha : PWE X a ta) (hb : PWE X (.BoolOp .Or (b :: rest) pos) tb) : PWE X (.BoolOp .Or (a :: b :: rest) pos) (vOrV ta tb) := pwe_of (pe_or pe_sem pe_sem) (run_or ha hb.sem)
theorem pwe_one {op} (h : PWE X a ta) : PWE X (.BoolOp op [a] pos) ta := pwe_of (pe_one pe_sem) h.sem
def vIfE (t : VT) (ta tb : VE) : VE := fun ρ Q => t ρ fun k ρ1 => (k = true → ta ρ1 Q) ∧ (k = false → tb ρ1 Q)
theorem pwe_if {c : Expr} {t : VT} (hc : PWT X c t) (ha : PWE X a ta) (hb : PWE X b tb) : PWE X (.IfExp c a b pos) (vIfE t ta tb) := ⟨fun ρ Q Hk T σ H P q hh p => tSem_of (pe_ifExp pt_sem pe_sem pe_sem)
  (hc.run ρ _ Hk T σ H _ q hh fun k H1 Hk1 ρ1 e1 h1 k1 q1 => by
    cases k with
    | true => exact ha.run ρ1 _ Hk1 T σ H1 _ (q1.1 rfl) h1 (p.step e1 k1)
    | false => exact hb.run ρ1 _ Hk1 T σ H1 _ (q1.2 rfl) h1 (p.step e1 k1))⟩
/-- tests -/
def vAnd (t u : VT) : VT := fun ρ Q => t ρ fun k ρ1 => (k = true → u ρ1 Q) ∧ (k = false → Q false ρ1)
def vOr (t u : VT) : VT := fun ρ Q => t ρ fun k ρ1 => (k = true → Q true ρ1) ∧ (k = false → u ρ1 Q)
def vNot (t : VT) : VT := fun ρ Q => t ρ fun k ρ1 => Q (!k) ρ1
variable {t u : VT}
theorem PWW.pt (h : PWW X e t) : PWT X e t := ⟨fun ρ Q Hk T σ H P q hh p pins s I => h.run ρ Q Hk T σ H P q hh p _ pins s I⟩
theorem pww_and1 (h : PWT X a t) : PWW X (.BoolOp .And [a] pos) t := ⟨fun ρ Q Hk T σ H P q hh p => tSemW_of (pw_and1 pt_sem) (h.run ρ Q Hk T σ H P q hh p)⟩
theorem pww_or1 (h : PWT X a t) : PWW X (.BoolOp .Or [a] pos) t := ⟨fun ρ Q Hk T σ H P q hh p => tSemW_of (pw_or1 pt_sem) (h.run ρ Q Hk T σ H P q hh p)⟩
theorem pww_and (ha : PWT X a t) (hb : PWW X (.BoolOp .And (b :: rest) pos) u) : PWW X (.BoolOp .And (a :: b :: rest) pos) (vAnd t u) := ⟨fun ρ Q Hk T σ H P q hh p => tSemW_of (pw_and pt_sem pw_sem)
  (ha.run ρ _ Hk T σ H _ q hh fun k H1 Hk1 ρ1 e1 h1 k1 q1 => by
    cases k with
    | true => rw [if_pos rfl]; exact hb.run ρ1 _ Hk1 T σ H1 _ (q1.1 rfl) h1 (p.step e1 k1)
    | false => rw [if_neg Bool.false_ne_true]; exact p _ H1 Hk1 ρ1 e1 h1 k1 (q1.2 rfl))⟩
theorem pww_or (ha : PWT X a t) (hb : PWW X (.BoolOp .Or (b :: rest) pos) u) : PWW X (.BoolOp .Or (a :: b :: rest) pos) (vOr t u) := ⟨fun ρ Q Hk T σ H P q hh p => tSemW_of (pw_or pt_sem pw_sem)
  (ha.run ρ _ Hk T σ H _ q hh fun k H1 Hk1 ρ1 e1 h1 k1 q1 => by
    cases k with
    | true => rw [if_pos rfl]; exact p _ H1 Hk1 ρ1 e1 h1 k1 (q1.1 rfl)
    | false => rw [if_neg Bool.false_ne_true]; exact hb.run ρ1 _ Hk1 T σ H1 _ (q1.2 rfl) h1 (p.step e1 k1))⟩
theorem pwt_not (ha : PWT X a t) : PWT X (.UnaryOp .Not a pos) (vNot t) := ⟨fun ρ Q Hk T σ H P q hh p => tSemT_of (pt_not pt_sem)
  (ha.run ρ _ Hk T σ H _ q hh fun k H1 Hk1 ρ1 e1 h1 k1 q1 => p _ H1 Hk1 ρ1 e1 h1 k1 q1)⟩
end
end WL

set_option Elab.async false
set_option linter.all false
set_option maxRecDepth 100000
set_option maxHeartbeats 4000000
/-! W2: statements, targets, loops, comprehensions, calls, a def's promise. -/
namespace WL
open PySem PySem.Spec PyProof.Rows L2

def Slot.free : Slot → Bool
  | .ow true _ => false
  | _ => true
section
variable {K : PySem.W.Frag} {Hk Hk' H H' : Hp} {ρ ρ' : Rho} {T : List Cell} {σ : L2.St} {i : Nat} {s s0 : Slot} {v : V}
theorem Holds.store (h : Holds K Hk ρ ((some v, s) :: T) σ H) (e : ρ[i]? = some s0) : Holds K Hk (ρ.set i s) T (σ.set i (some v)) H := by
  have hi : i < σ.length := by rw [← h.len]; exact (List.getElem?_eq_some_iff.mp e).1
  obtain ⟨R, h1, h2⟩ := zip_at (List.getElem?_eq_getElem hi) e
  refine ⟨by simp [h.len], ?_⟩
  have h3 := (h.hl.perm (h1.append_right _)).tail
  refine h3.perm (.trans List.perm_middle ?_)
  exact ((h2 (some v) s).append_right T).symm
theorem kp_store (e : ρ[i]? = some s0) (hf : s0.free = true) {x : Option V} : Kp σ ρ (σ.set i x) (ρ.set i s) := fun j o v ho ev => by
  by_cases hj : j = i
  · subst hj; rw [e] at ho; cases ho; cases hf
  · exact ⟨by rw [List.getElem?_set_ne (Ne.symm hj)]; exact ev, o, by rw [List.getElem?_set_ne (Ne.symm hj)]; exact ho⟩
theorem Holds.dropMid {c : Cell} : ∀ {T' : List Cell}, Holds K Hk ρ (c :: (T' ++ T)) σ H → Holds K Hk ρ (c :: T) σ H
  | [], h => h
  | _ :: T', h => Holds.dropMid (T' := T') (h.perm (.swap _ _ _)).pop
theorem Holds.un (h : Holds K Hk ρ T σ H) (e : ρ[i]? = some s) : Holds K Hk (ρ.set i .un) T σ H := by
  obtain ⟨v, R, ev, _, h2⟩ := h.atU e
  exact h2.pop
end

/-! ### statements -/
section
variable {X : Cx} {st : Stmt} {rest sts : List Stmt} {t u : VS} {e : Expr} {te : VE} {pos : Pos}
def vNext : VS := fun R ρ => R.nx ρ
def vSeq (t u : VS) : VS := fun R ρ => t { R with nx := fun ρ' => u R ρ' } ρ
theorem pwss_nil : PWSs X [] vNext := ⟨fun ρ R Hk T σ H D q hh o => tSemSs_of pss_nil (o.nx σ H Hk ρ (.refl _) hh (.refl _ _) q)⟩
theorem pwss_cons (h1 : PWS X st t) (h2 : PWSs X rest u) : PWSs X (st :: rest) (vSeq t u) := ⟨fun ρ R Hk T σ H D q hh o => tSemSs_of (pss_cons ps_sem pss_sem)
  (h1.run ρ _ Hk T σ H { D with nx := tSemSs X rest D } q hh
    ⟨fun σ' H' Hk' ρ' e h k q' => h2.run ρ' R Hk' T σ' H' D q' h (o.step e k), o.rt, o.bk, o.ct⟩)⟩
theorem pwss_one (h1 : PWS X st t) : PWSs X [st] t := ⟨fun ρ R Hk T σ H D q hh o => tSemSs_of (pss_one ps_sem) (h1.run ρ R Hk T σ H D q hh o)⟩
def vBreak : VS := fun R ρ => R.bk ρ
def vCont : VS := fun R ρ => R.ct ρ
theorem pws_pass : PWS X (.Pass pos) vNext := ⟨fun ρ R Hk T σ H D q hh o => tSemS_of ps_pass (o.nx σ H Hk ρ (.refl _) hh (.refl _ _) q)⟩
theorem pws_break : PWS X (.Break pos) vBreak := ⟨fun ρ R Hk T σ H D q hh o => tSemS_of ps_break (o.bk σ H Hk ρ (.refl _) hh (.refl _ _) q)⟩
theorem pws_cont : PWS X (.Continue pos) vCont := ⟨fun ρ R Hk T σ H D q hh o => tSemS_of ps_continue (o.ct σ H Hk ρ (.refl _) hh (.refl _ _) q)⟩
def vExpr (te : VE) : VS := fun R ρ => te ρ fun _ ρ1 => R.nx ρ1
theorem pws_expr {tt : TE} (hp : PS X st (tDrop tt)) (h : RunE X.K tt te) : PWS X st (vExpr te) := ⟨fun ρ R Hk T σ H D q hh o => tSemS_of hp
  (h.run ρ _ Hk T σ H _ q hh fun v H' Hk' ρ' r e h' k' q' => o.nx σ H' Hk' ρ' e h'.pop k' q')⟩
def vRet (te : VE) : VS := fun R ρ => te ρ fun r ρ1 => R.rt r ρ1
theorem pws_ret (h : PWE X e te) : PWS X (.Return (some e) pos) (vRet te) := ⟨fun ρ R Hk T σ H D q hh o => tSemS_of (ps_ret pe_sem)
  (h.run ρ _ Hk T σ H _ q hh fun v H' Hk' ρ' r e h' k' q' => o.rt v σ H' Hk' ρ' r e h' k' q')⟩
def vRetN : VS := fun R ρ => R.rt (.sh .non) ρ
theorem pws_retN : PWS X (.Return none pos) vRetN := ⟨fun ρ R Hk T σ H D q hh o => tSemS_of ps_retN (o.rt _ σ H Hk ρ _ (.refl _) (hh.sh .non) (.refl _ _) q)⟩
def vIf (c : VT) (t u : VS) : VS := fun R ρ => c ρ fun k ρ1 => (k = true → t R ρ1) ∧ (k = false → u R ρ1)
theorem pws_if {c : Expr} {a b : List Stmt} {tc : VT} (hc : PWT X c tc) (ha : PWSs X a t) (hb : PWSs X b u) : PWS X (.If c a b pos) (vIf tc t u) := ⟨fun ρ R Hk T σ H D q hh o => tSemS_of (ps_if pt_sem pss_sem pss_sem)
  (hc.run ρ _ Hk T σ H _ q hh fun k H1 Hk1 ρ1 e1 h1 k1 q1 => by
    cases k with
    | true => rw [if_pos rfl]; exact ha.run ρ1 R Hk1 T σ H1 D (q1.1 rfl) h1 (o.step e1 k1)
    | false => rw [if_neg Bool.false_ne_true]; exact hb.run ρ1 R Hk1 T σ H1 D (q1.2 rfl) h1 (o.step e1 k1))⟩
/-- x = e -/
def vSet (i : Nat) (te : VE) : VS := fun R ρ => te ρ fun s ρ1 => ∃ s0, ρ1[i]? = some s0 ∧ s0.free = true ∧ R.nx (ρ1.set i s)
theorem pws_set {tt : TE} {i : Nat} (hp : PS X st (tAsg tt (gName i))) (h : RunE X.K tt te) : PWS X st (vSet i te) := ⟨fun ρ R Hk T σ H D q hh o => tSemS_of hp
  (h.run ρ _ Hk T σ H _ q hh fun v H' Hk' ρ' r e h' k' ⟨s0, e0, hf, q'⟩ => o.nx _ H' Hk' _ e (h'.store e0) (k'.trans (kp_store e0 hf)) q')⟩
/-- x op= e, by values -/
def vAug (i : Nat) (op : Prim) (te : VE) : VS := fun R ρ => ∃ d, ρ[i]? = some (.sh d) ∧ te ρ fun s ρ1 => ∃ dy, slotD s = some dy ∧ (∃ d1, ρ1[i]? = some (.sh d1)) ∧ op [d, dy] fun ret => R.nx (ρ1.set i ret.slot)
theorem pws_aug {ti : TIp} {i : Nat} {op : Prim} (hp : PS X st (tAug i (tSem X e) ti)) (ho : PrimOk2 X ti op) (h : PWE X e te) : PWS X st (vAug i op te) := ⟨fun ρ R Hk T σ H D ⟨d, e0, q⟩ hh o => tSemS_of hp (by
  obtain ⟨x, ex, rx⟩ := hh.get_sh e0
  refine ⟨x, ex, h.run ρ _ Hk T σ H _ q hh fun v H1 Hk1 ρ1 s e1 h1 k1 ⟨dy, hy, ⟨d1, e2⟩, q1⟩ => ?_⟩
  have bv : View X.K Hk1 H1 v dy := HL.view h1.front hy
  refine ho Hk1 H1 x v d dy _ _ h1.ex (.known (rx.mono e1)) bv q1 fun ret hr => ?_
  refine ret_post (Q := fun r ρ' => ∃ s0, ρ'[i]? = some s0 ∧ s0.free = true ∧ R.nx (ρ'.set i r)) (P := fun z H2 => D.nx (σ.set i (some z)) H2) h1.pop (fun z H2 Hk2 ρ2 r e3 h3 k3 ⟨s0, e4, hf, q4⟩ => ?_) ⟨_, e2, rfl, hr⟩
  exact o.nx _ H2 Hk2 _ (e1.trans e3) (h3.store e4) ((k1.trans k3).trans (kp_store e4 hf)) q4)⟩
end

/-! ### targets -/
abbrev VG := D → Rho → (Rho → Prop) → Prop
def tSemG (X : Cx) (tg : Expr) : TG := fun v σ H P => ∀ pins s u, Inv X pins σ H s → RelV v u → wpAny (model X.prog X.w) X.A (assign tg X.env u) (fun _ s' => ∃ σ' H', Inv X pins σ' H' s' ∧ P σ' H') X.xe s
theorem pg_sem {X : Cx} {tg : Expr} : PG X tg (tSemG X tg) := ⟨fun pins s _ _ _ u _ I r h => h pins s u I r⟩
def PostG (K : PySem.W.Frag) (Hk : Hp) (T : List Cell) (σ : L2.St) (ρ : Rho) (is : List Nat) (Q : Rho → Prop) (P : L2.St → Hp → Prop) : Prop :=
  ∀ σ' H' Hk' ρ', Same Hk Hk' → Holds K Hk' ρ' T σ' H' → Kp σ ρ σ' ρ' → (∀ j, j ∉ is → σ'[j]? = σ[j]?) ∧ σ'.length = σ.length → Q ρ' → P σ' H'
structure RunG (K : PySem.W.Frag) (t : TG) (is : List Nat) (g : VG) : Prop where
  run : ∀ d ρ Q Hk T σ H v P, g d ρ Q → Rep K Hk v d → Holds K Hk ρ T σ H → PostG K Hk T σ ρ is Q P → t v σ H P
structure PWG (X : Cx) (tg : Expr) (is : List Nat) (g : VG) : Prop where
  run : RunG X.K (tSemG X tg) is g
theorem tSemG_of {X : Cx} {tg : Expr} {t : TG} {v : V} {σ : L2.St} {H : Hp} {P : L2.St → Hp → Prop} (h : PG X tg t) (q : t v σ H P) : tSemG X tg v σ H P := fun pins s u I r => h.run pins s σ H v u P I r q
def gN (i : Nat) : VG := fun d ρ Q => ∃ s, ρ[i]? = some s ∧ s.free = true ∧ Q (ρ.set i (.sh d))
theorem rung_name {K : PySem.W.Frag} (i : Nat) : RunG K (gName i) [i] (gN i) := ⟨fun d ρ Q Hk T σ H v P ⟨s, e, hf, q⟩ r hh p =>
  p _ H Hk _ (.refl _) ((hh.sh r).store e) (kp_store e hf) ⟨fun j hj => List.getElem?_set_ne (fun z => hj (by simp [z])), by simp⟩ q⟩
def gNames : List Nat → TGs
  | [] => gNil
  | i :: is => gCons (gName i) (gNames is)
def gTs : List Nat → List D → Rho → (Rho → Prop) → Prop
  | [], [], ρ, Q => Q ρ
  | i :: is, d :: ds, ρ, Q => gN i d ρ fun ρ' => gTs is ds ρ' Q
  | _, _, _, _ => False
theorem gnames_run {K : PySem.W.Frag} : ∀ {is : List Nat} {ds : List D} {vs : List V} {ρ : Rho} {Q : Rho → Prop} {Hk : Hp} {T : List Cell} {σ : L2.St} {H : Hp} {P : L2.St → Hp → Prop}, gTs is ds ρ Q → Reps K Hk vs ds → Holds K Hk ρ T σ H → PostG K Hk T σ ρ is Q P → gNames is vs σ H P
  | [], [], _, ρ, Q, Hk, T, σ, H, P, q, .nil, hh, p => ⟨rfl, p σ H Hk ρ (.refl _) hh (.refl _ _) ⟨fun _ _ => rfl, rfl⟩ q⟩
  | i :: is, d :: ds, _, ρ, Q, Hk, T, σ, H, P, q, .cons r rs, hh, p => ⟨_, _, rfl, (rung_name i).run d ρ _ Hk T σ H _ _ q r hh fun σ1 H1 Hk1 ρ1 e1 h1 k1 s1 q1 =>
      gnames_run q1 (rs.mono e1) h1 fun σ2 H2 Hk2 ρ2 e2 h2 k2 s2 q2 => p σ2 H2 Hk2 ρ2 (e1.trans e2) h2 (k1.trans k2) ⟨fun j hj => (s2.1 j fun z => hj (List.mem_cons_of_mem _ z)).trans (s1.1 j fun z => hj (by
        have : j = i := by simpa using z
        simp [this])), s2.2.trans s1.2⟩ q2⟩
/-- a, b = a tuple -/
def gT (is : List Nat) : VG := fun d ρ Q => ∃ ds, d = .tup ds ∧ ds.length = is.length ∧ gTs is ds ρ Q
theorem rung_tup {K : PySem.W.Frag} (is : List Nat) : RunG K (gTup K is.length (gNames is)) is (gT is) := ⟨fun d ρ Q Hk T σ H v P ⟨ds, ed, hl, q⟩ r hh p => by
  subst ed
  cases r with
  | tup h r => exact ⟨_, _, rfl, .of (hh.ex _ _ h), r.length.trans hl, gnames_run q r hh p⟩⟩
theorem pwg_of {X : Cx} {tg : Expr} {t : TG} {is : List Nat} {g : VG} (hp : PG X tg t) (h : RunG X.K t is g) : PWG X tg is g := ⟨⟨fun d ρ Q Hk T σ H v P q r hh p => tSemG_of hp (h.run d ρ Q Hk T σ H v P q r hh p)⟩⟩

/-! ### what is walked -/
abbrev VI := Rho → (List D → Rho → Prop) → Prop
structure ItOk (K : PySem.W.Frag) (Hk0 : Hp) (T' : List Cell) (J : It) (ds : List D) : Prop where
  go : ∀ i Hk H L, Same Hk0 Hk → HL K Hk H (T' ++ L) → i < ds.length → J.go i H ∧ ∀ x H', J.yld i H x H' → ∃ Hk' d, ds[i]? = some d ∧ Same Hk Hk' ∧ Rep K Hk' x d ∧ ∀ M, HL K Hk H M → HL K Hk' H' M
  stop : ∀ i Hk H L, Same Hk0 Hk → HL K Hk H (T' ++ L) → ds.length ≤ i → J.stop i H
def tSemI (X : Cx) (tg iter : Expr) : TI := fun σ H R => ∀ pins s, Inv X pins σ H s → wpAny (model X.prog X.w) X.A (eval iter X.env) (fun v s1 => wpAny (model X.prog X.w) X.A (pyIter v) (PIE X pins σ tg R) X.xe s1) X.xe s
theorem pi_sem {X : Cx} {tg iter : Expr} : PI X tg iter (tSemI X tg iter) := ⟨fun pins s _ _ _ I h => h pins s I⟩
theorem tSemI_of {X : Cx} {tg iter : Expr} {t : TI} {σ : L2.St} {H : Hp} {R : It → Hp → Prop} (h : PI X tg iter t) (q : t σ H R) : tSemI X tg iter σ H R := fun pins s I => h.run pins s σ H R I q
def PostI (K : PySem.W.Frag) (Hk : Hp) (T : List Cell) (σ : L2.St) (ρ : Rho) (Q : List D → Rho → Prop) (R : It → Hp → Prop) : Prop :=
  ∀ J H' Hk' ρ' ds T', Same Hk Hk' → Holds K Hk' ρ' (T' ++ T) σ H' → Kp σ ρ σ ρ' → ItOk K Hk' T' J ds → Q ds ρ' → R J H'
structure PWI (X : Cx) (tg iter : Expr) (it : VI) : Prop where
  run : ∀ ρ Q Hk T σ H R, it ρ Q → Holds X.K Hk ρ T σ H → PostI X.K Hk T σ ρ Q R → tSemI X tg iter σ H R
section
variable {X : Cx} {tg iter : Expr} {te : VE} {tas : VA} {e : Expr} {es : List Expr} {pos p : Pos}
/-- data that is walked as a list, as a tuple -/
def seqLD : D → Option (List D)
  | .lst ds => some ds
  | .fls ds => some ds
  | _ => none
def seqTD : D → Option (List D)
  | .tup ds => some ds
  | .ftp ds => some ds
  | _ => none
theorem seqLD_eq {d : D} {ds : List D} (h : seqLD d = some ds) : d = .lst ds ∨ d = .fls ds := by
  cases d <;> simp [seqLD] at h <;> simp [h]
theorem seqTD_eq {d : D} {ds : List D} (h : seqTD d = some ds) : d = .tup ds ∨ d = .ftp ds := by
  cases d <;> simp [seqTD] at h <;> simp [h]
def vItL (te : VE) : VI := fun ρ Q => te ρ fun s ρ1 => ∃ d ds, slotD s = some d ∧ seqLD d = some ds ∧ Q ds ρ1
def vItT (te : VE) : VI := fun ρ Q => te ρ fun s ρ1 => ∃ d ds, slotD s = some d ∧ seqTD d = some ds ∧ Q ds ρ1
theorem itok_list {K : PySem.W.Frag} {Hk : Hp} {a : Addr} {s : Slot} {d : D} {ds : List D} (hs : slotD s = some d) (hq : seqLD d = some ds) : ItOk K Hk [(some (.ref a), s)] (Itl K a) ds where
  go := fun i Hk H L e h hi => by
    have vw : View K Hk H (.ref a) d := HL.view h hs
    obtain ⟨a', vs, ea, sq, r⟩ := vw.seqL h.ex (seqLD_eq hq)
    cases ea
    have hl : i < vs.length := by rw [r.length]; exact hi
    refine ⟨⟨vs, vs[i], sq, List.getElem?_eq_getElem hl⟩, fun x H' ⟨eH, y⟩ => ?_⟩
    subst eH
    obtain ⟨d, hd, rd⟩ := r.get (y vs sq)
    exact ⟨Hk, d, hd, .refl _, rd, fun _ m => m⟩
  stop := fun i Hk H L e h hi => by
    have vw : View K Hk H (.ref a) d := HL.view h hs
    obtain ⟨a', vs, ea, sq, r⟩ := vw.seqL h.ex (seqLD_eq hq)
    cases ea
    exact ⟨vs, sq, by rw [r.length]; exact hi⟩
theorem itok_tup {K : PySem.W.Frag} {Hk : Hp} {a : Addr} {s : Slot} {d : D} {ds : List D} (hs : slotD s = some d) (hq : seqTD d = some ds) : ItOk K Hk [(some (.ref a), s)] (Itt K a) ds where
  go := fun i Hk H L e h hi => by
    have vw : View K Hk H (.ref a) d := HL.view h hs
    obtain ⟨a', vs, ea, sq, r⟩ := vw.seqT h.ex (seqTD_eq hq)
    cases ea
    have hl : i < vs.length := by rw [r.length]; exact hi
    refine ⟨⟨vs, vs[i], sq, List.getElem?_eq_getElem hl⟩, fun x H' ⟨eH, y⟩ => ?_⟩
    subst eH
    obtain ⟨d, hd, rd⟩ := r.get (y vs sq)
    exact ⟨Hk, d, hd, .refl _, rd, fun _ m => m⟩
  stop := fun i Hk H L e h hi => by
    have vw : View K Hk H (.ref a) d := HL.view h hs
    obtain ⟨a', vs, ea, sq, r⟩ := vw.seqT h.ex (seqTD_eq hq)
    cases ea
    exact ⟨vs, sq, by rw [r.length]; exact hi⟩
theorem pwi_list (h : PWE X iter te) : PWI X tg iter (vItL te) := ⟨fun ρ Q Hk T σ H R q hh p => tSemI_of (pi_list pe_sem)
  (h.run ρ _ Hk T σ H _ q hh fun v H1 Hk1 ρ1 s e1 h1 k1 ⟨d, ds, hs, hq, q1⟩ => by
    have vw : View X.K Hk1 H1 v d := HL.view h1.front hs
    obtain ⟨a, vs, ea, sq, r⟩ := vw.seqL h1.ex (seqLD_eq hq)
    subst ea
    exact ⟨a, rfl, ⟨vs, sq⟩, p _ H1 Hk1 ρ1 ds [(some (.ref a), s)] e1 h1 k1 (itok_list hs hq) q1⟩)⟩
theorem pwi_tup (h : PWE X iter te) : PWI X tg iter (vItT te) := ⟨fun ρ Q Hk T σ H R q hh p => tSemI_of (pi_tup pe_sem)
  (h.run ρ _ Hk T σ H _ q hh fun v H1 Hk1 ρ1 s e1 h1 k1 ⟨d, ds, hs, hq, q1⟩ => by
    have vw : View X.K Hk1 H1 v d := HL.view h1.front hs
    obtain ⟨a, vs, ea, sq, r⟩ := vw.seqT h1.ex (seqTD_eq hq)
    subst ea
    exact ⟨a, rfl, ⟨vs, sq⟩, p _ H1 Hk1 ρ1 ds [(some (.ref a), s)] e1 h1 k1 (itok_tup hs hq) q1⟩)⟩
def rangeD (lo : Int) (n : Nat) : List D := (List.range n).map fun (i : Nat) => D.int (lo + (i : Int))
theorem rangeD_get {lo : Int} {n i : Nat} (h : i < n) : (rangeD lo n)[i]? = some (.int (lo + (i : Int))) := by
  unfold rangeD
  rw [List.getElem?_map, List.getElem?_range h]; rfl
theorem rangeD_len {lo : Int} {n : Nat} : (rangeD lo n).length = n := by unfold rangeD; simp
theorem itok_rng {K : PySem.W.Frag} {Hk : Hp} {lo : Int} {n : Nat} : ItOk K Hk [] (Itr lo n) (rangeD lo n) where
  go := fun i Hk H L e h hi => by
    rw [rangeD_len] at hi
    refine ⟨hi, fun x H' ⟨eH, ex⟩ => ?_⟩
    subst eH; subst ex
    exact ⟨Hk, _, rangeD_get hi, .refl _, .int, fun _ m => m⟩
  stop := fun i Hk H L e h hi => by rw [rangeD_len] at hi; exact hi
def vItR1 (ta : VA) : VI := fun ρ Q => ta ρ fun as ρ1 => ∃ n, argDs ρ1 as = some [.int n] ∧ (-(2 ^ 62) ≤ n ∧ n < 2 ^ 62) ∧ Q (rangeD 0 n.toNat) ρ1
def vItR2 (ta : VA) : VI := fun ρ Q => ta ρ fun as ρ1 => ∃ m n, argDs ρ1 as = some [.int m, .int n] ∧ (-(2 ^ 62) ≤ m ∧ m < 2 ^ 62 ∧ -(2 ^ 62) ≤ n ∧ n < 2 ^ 62) ∧ Q (rangeD m (n - m).toNat) ρ1
theorem pwi_range1 (hp : PI X tg iter (iRng1 (tSemA X es))) (h : PWA X es tas) : PWI X tg iter (vItR1 tas) := ⟨fun ρ Q Hk T σ H R q hh p => tSemI_of hp
  (h.run ρ _ Hk T σ H _ q hh fun vs H1 Hk1 ρ1 as ts e1 has h1 k1 ⟨n, hd, b, q1⟩ => by
    have vw := has.views h1 hd
    cases vw with
    | cons v r =>
      cases r
      have := v.int
      subst this
      exact ⟨n, rfl, b.1, b.2, p _ H1 Hk1 ρ1 _ [] e1 h1.drop k1 itok_rng q1⟩)⟩
theorem pwi_range2 (hp : PI X tg iter (iRng2 (tSemA X es))) (h : PWA X es tas) : PWI X tg iter (vItR2 tas) := ⟨fun ρ Q Hk T σ H R q hh p => tSemI_of hp
  (h.run ρ _ Hk T σ H _ q hh fun vs H1 Hk1 ρ1 as ts e1 has h1 k1 ⟨m, n, hd, b, q1⟩ => by
    have vw := has.views h1 hd
    cases vw with
    | cons v r =>
      cases r with
      | cons v' r =>
        cases r
        have := v.int
        subst this
        have := v'.int
        subst this
        exact ⟨m, n, rfl, b, p _ H1 Hk1 ρ1 _ [] e1 h1.drop k1 itok_rng q1⟩)⟩
end

/-! ### for, while -/
section
variable {X : Cx} {st : Stmt} {tg iter c : Expr} {body : List Stmt} {it : VI} {is : List Nat} {g : VG} {tb : VS} {tc : VT}
def vFor (it : VI) (g : VG) (tb : VS) : VS := fun R ρ => it ρ fun ds ρ1 => ∃ I : Nat → Rho → Prop, I 0 ρ1 ∧
  (∀ j d ρ', ds[j]? = some d → I j ρ' → g d ρ' fun ρ2 => tb { R with nx := I (j + 1), ct := I (j + 1), bk := R.nx } ρ2) ∧ ∀ ρ', I ds.length ρ' → R.nx ρ'
/-- the loop, its iterator made -/
theorem for_core {J : It} {ds : List D} {T T' : List Cell} {Hk1 H1 : _} {σ : L2.St} {ρ1 : Rho} {R : Out} {D0 : Ends} (hg : PWG X tg is g) (hb : PWSs X body tb) (iok : ItOk X.K Hk1 T' J ds) (h1 : Holds X.K Hk1 ρ1 (T' ++ T) σ H1) (o : OutOk X.K Hk1 T σ ρ1 R D0)
    (I : Nat → Rho → Prop) (i0 : I 0 ρ1) (turn : ∀ j d ρ', ds[j]? = some d → I j ρ' → g d ρ' fun ρ2 => tb { R with nx := I (j + 1), ct := I (j + 1), bk := R.nx } ρ2) (fin : ∀ ρ', I ds.length ρ' → R.nx ρ') :
    ∃ W : Nat → Nat → L2.St → Hp → Prop, (∃ m, W 0 m σ H1) ∧ ∀ i m σ H, W i m σ H →
      (J.stop i H ∧ D0.nx σ H) ∨ (J.go i H ∧ ∃ N : L2.St → Hp → Prop, (∀ σ' H', N σ' H' → ∃ m', m' < m ∧ W (i + 1) m' σ' H') ∧ ∀ x H', J.yld i H x H' → tSemG X tg x σ H' fun σ2 H2 => tSemSs X body { D0 with nx := N, ct := N, bk := D0.nx } σ2 H2) := by
  refine ⟨fun i m σ' H' => m = ds.length - i ∧ i ≤ ds.length ∧ ∃ Hk' ρ', Same Hk1 Hk' ∧ Holds X.K Hk' ρ' (T' ++ T) σ' H' ∧ Kp σ ρ1 σ' ρ' ∧ I i ρ', ⟨_, rfl, Nat.zero_le _, Hk1, ρ1, .refl _, h1, .refl _ _, i0⟩, ?_⟩
  rintro i m σ2 H2 ⟨rfl, hle, Hk2, ρ2, e2, h2, k2, i2⟩
  have hL : HL X.K Hk2 H2 (T' ++ (T ++ σ2.zip ρ2)) := by rw [← List.append_assoc]; exact h2.front
  by_cases hlt : i < ds.length
  · obtain ⟨hgo, hy⟩ := iok.go i Hk2 H2 _ e2 hL hlt
    refine .inr ⟨hgo, fun σ' H' => ∃ Hk' ρ', Same Hk1 Hk' ∧ Holds X.K Hk' ρ' (T' ++ T) σ' H' ∧ Kp σ ρ1 σ' ρ' ∧ I (i + 1) ρ', fun σ' H' hN => ⟨ds.length - (i + 1), by omega, rfl, hlt, hN⟩, fun x H3 hyl => ?_⟩
    obtain ⟨Hk3, d, hd, e3, r3, mv⟩ := hy x H3 hyl
    refine hg.run.run d ρ2 _ Hk3 (T' ++ T) σ2 H3 x _ (turn i d ρ2 hd i2) r3 ⟨h2.len, mv _ h2.hl⟩ fun σ4 H4 Hk4 ρ4 e4 h4 k4 _ q4 => ?_
    refine hb.run ρ4 _ Hk4 (T' ++ T) σ4 H4 _ q4 h4 ⟨fun σ5 H5 Hk5 ρ5 e5 h5 k5 q5 => ?_, fun v σ5 H5 Hk5 ρ5 r e5 h5 k5 q5 => ?_, fun σ5 H5 Hk5 ρ5 e5 h5 k5 q5 => ?_, fun σ5 H5 Hk5 ρ5 e5 h5 k5 q5 => ?_⟩
    · exact ⟨Hk5, ρ5, e2.trans (e3.trans (e4.trans e5)), h5, k2.trans (k4.trans k5), q5⟩
    · exact o.rt v σ5 H5 Hk5 ρ5 r (e2.trans (e3.trans (e4.trans e5))) h5.dropMid (k2.trans (k4.trans k5)) q5
    · exact o.nx σ5 H5 Hk5 ρ5 (e2.trans (e3.trans (e4.trans e5))) h5.drop (k2.trans (k4.trans k5)) q5
    · exact ⟨Hk5, ρ5, e2.trans (e3.trans (e4.trans e5)), h5, k2.trans (k4.trans k5), q5⟩
  · have he : i = ds.length := by omega
    subst he
    exact .inl ⟨iok.stop _ Hk2 H2 _ e2 hL (Nat.le_refl _), o.nx σ2 H2 Hk2 ρ2 e2 h2.drop k2 (fin ρ2 i2)⟩
theorem pws_for (hp : PS X st (tFor (tSemI X tg iter) (tSemG X tg) (tSemSs X body))) (hi : PWI X tg iter it) (hg : PWG X tg is g) (hb : PWSs X body tb) : PWS X st (vFor it g tb) := ⟨fun ρ R Hk T σ H D q hh o => tSemS_of hp
  (hi.run ρ _ Hk T σ H _ q hh fun J H1 Hk1 ρ1 ds T' e1 h1 k1 iok ⟨I, i0, turn, fin⟩ => for_core hg hb iok h1 (o.step e1 k1) I i0 turn fin)⟩
def vWhile (t : VT) (tb : VS) : VS := fun R ρ => ∃ I : Nat → Rho → Prop, (∃ m, I m ρ) ∧ ∀ m ρ', I m ρ' → t ρ' fun k ρ1 =>
  (k = true → tb { R with nx := fun ρ2 => ∃ m', m' < m ∧ I m' ρ2, ct := fun ρ2 => ∃ m', m' < m ∧ I m' ρ2, bk := R.nx } ρ1) ∧ (k = false → R.nx ρ1)
theorem pws_while (hp : PS X st (tWhile (tSemT X c) (tSemSs X body))) (hc : PWT X c tc) (hb : PWSs X body tb) : PWS X st (vWhile tc tb) := ⟨fun ρ R Hk T σ H D ⟨I, ⟨m0, i0⟩, turn⟩ hh o => tSemS_of hp (by
  refine ⟨fun m σ' H' => ∃ Hk' ρ', Same Hk Hk' ∧ Holds X.K Hk' ρ' T σ' H' ∧ Kp σ ρ σ' ρ' ∧ I m ρ', ⟨m0, Hk, ρ, .refl _, hh, .refl _ _, i0⟩, ?_⟩
  rintro m σ2 H2 ⟨Hk2, ρ2, e2, h2, k2, i2⟩
  refine hc.run ρ2 _ Hk2 T σ2 H2 _ (turn m ρ2 i2) h2 fun k H3 Hk3 ρ3 e3 h3 k3 q3 => ?_
  cases k with
  | true =>
    rw [if_pos rfl]
    refine ⟨fun σ' H' => ∃ Hk' ρ', Same Hk Hk' ∧ Holds X.K Hk' ρ' T σ' H' ∧ Kp σ ρ σ' ρ' ∧ ∃ m', m' < m ∧ I m' ρ', fun σ' H' ⟨Hk', ρ', e, h, k, m', l, i⟩ => ⟨m', l, Hk', ρ', e, h, k, i⟩, ?_⟩
    refine hb.run ρ3 _ Hk3 T σ2 H3 _ (q3.1 rfl) h3 ⟨fun σ5 H5 Hk5 ρ5 e5 h5 k5 q5 => ?_, fun v σ5 H5 Hk5 ρ5 r e5 h5 k5 q5 => ?_, fun σ5 H5 Hk5 ρ5 e5 h5 k5 q5 => ?_, fun σ5 H5 Hk5 ρ5 e5 h5 k5 q5 => ?_⟩
    · exact ⟨Hk5, ρ5, e2.trans (e3.trans e5), h5, k2.trans (k3.trans k5), q5⟩
    · exact o.rt v σ5 H5 Hk5 ρ5 r (e2.trans (e3.trans e5)) h5 (k2.trans (k3.trans k5)) q5
    · exact o.nx σ5 H5 Hk5 ρ5 (e2.trans (e3.trans e5)) h5 (k2.trans (k3.trans k5)) q5
    · exact ⟨Hk5, ρ5, e2.trans (e3.trans e5), h5, k2.trans (k3.trans k5), q5⟩
  | false => rw [if_neg Bool.false_ne_true]; exact o.nx σ2 H3 Hk3 ρ3 (e2.trans e3) h3 (k2.trans k3) (q3.2 rfl))⟩
end
end WL

set_option Elab.async false
set_option linter.all false
set_option maxRecDepth 100000
set_option maxHeartbeats 4000000
/-! W3: comprehensions, calls, a def's promise. -/
namespace WL
open PySem PySem.Spec PyProof.Rows L2

/-! ### comprehensions -/
def wipeR (ρ : Rho) : List Nat → Rho
  | [] => ρ
  | v :: vs => (wipeR ρ vs).set v .un
section
variable {K : PySem.W.Frag} {Hk Hk' H H' : Hp} {ρ ρ' : Rho} {T : List Cell} {σ : L2.St} {i : Nat}
theorem set_ge {α : Type} {l : List α} {i : Nat} {x : α} (h : l.length ≤ i) : l.set i x = l := by
  apply List.ext_getElem?
  intro j
  rw [List.getElem?_set]
  split
  · rename_i e; subst e
    rw [if_neg (by omega), List.getElem?_eq_none h]
  · rfl
theorem Holds.unset {x : Option V} (h : Holds K Hk (ρ.set i .un) T (σ.set i x) H) : Holds K Hk (ρ.set i .un) T σ H := by
  have hl : ρ.length = σ.length := by have := h.len; simpa using this
  by_cases hi : i < σ.length
  · obtain ⟨R, h1, h2⟩ := zip_at (List.getElem?_eq_getElem hi) (List.getElem?_eq_getElem (hl ▸ hi))
    refine ⟨by simp [hl], ?_⟩
    have e : σ.set i σ[i] = σ := set_self (List.getElem?_eq_getElem hi)
    have h3 := h2 σ[i] .un
    rw [e] at h3
    have h4 := (h.hl.perm ((h2 x .un).append_right T)).tail
    exact (h4.un (x := σ[i])).perm (h3.append_right T).symm
  · rw [set_ge (l := σ) (by omega)] at h; exact h
theorem Holds.set_un {x : Option V} (h : Holds K Hk ρ T σ H) : Holds K Hk (ρ.set i .un) T (σ.set i x) H := by
  by_cases hi : i < ρ.length
  · obtain ⟨v, R, _, h1, h2⟩ := h.at (List.getElem?_eq_getElem hi)
    exact h2 Hk H x .un h1.tail.un
  · rw [set_ge (l := ρ) (by omega), set_ge (l := σ) (by rw [← h.len]; omega)]; exact h
theorem wipeR_comm {v : Nat} : ∀ {vs : List Nat} {ρ : Rho}, (wipeR ρ vs).set v .un = wipeR (ρ.set v .un) vs
  | [], _ => rfl
  | w :: vs, ρ => by
    show ((wipeR ρ vs).set w .un).set v .un = (wipeR (ρ.set v .un) vs).set w .un
    rw [← wipeR_comm (vs := vs)]
    by_cases e : w = v
    · subst e; rfl
    · rw [List.set_comm _ _ e]
theorem Holds.wipe : ∀ {vs : List Nat}, Holds K Hk ρ T σ H → Holds K Hk (wipeR ρ vs) T (L2.wipe σ vs) H
  | [], h => h
  | _ :: vs, h => (Holds.wipe (vs := vs) h).set_un
theorem Holds.unwipe : ∀ {vs : List Nat} {ρ : Rho}, Holds K Hk (wipeR ρ vs) T (L2.wipe σ vs) H → Holds K Hk (wipeR ρ vs) T σ H
  | [], _, h => h
  | v :: vs, ρ, h => by
    have h' : Holds K Hk ((wipeR ρ vs).set v .un) T ((L2.wipe σ vs).set v none) H := h
    have h2 := h'.unset
    show Holds K Hk ((wipeR ρ vs).set v .un) T σ H
    rw [wipeR_comm] at h2 ⊢
    exact Holds.unwipe h2
theorem wipeR_out {i : Nat} : ∀ {vs : List Nat}, i ∉ vs → (wipeR ρ vs)[i]? = ρ[i]?
  | [], _ => rfl
  | v :: vs, h => by
    show ((wipeR ρ vs).set v .un)[i]? = _
    rw [List.getElem?_set_ne (fun z => h (by simp [z]))]
    exact wipeR_out fun z => h (List.mem_cons_of_mem _ z)
theorem wipe_in {i : Nat} : ∀ {vs : List Nat}, i ∈ vs → i < σ.length → (L2.wipe σ vs)[i]? = some none
  | v :: vs, h, hl => by
    show ((L2.wipe σ vs).set v none)[i]? = _
    by_cases e : v = i
    · subst e; rw [List.getElem?_set_self (by rw [wipe_length]; exact hl)]
    · rw [List.getElem?_set_ne e]
      exact wipe_in (by rcases List.mem_cons.mp h with z | z; exact absurd z.symm e; exact z) hl
theorem wipe_eq {σ2 : L2.St} {vs : List Nat} (h : ∀ j, j ∉ vs → σ2[j]? = (L2.wipe σ vs)[j]?) (hl : σ2.length = σ.length) : L2.wipe σ2 vs = L2.wipe σ vs := by
  apply List.ext_getElem?
  intro j
  by_cases hj : j ∈ vs
  · by_cases hlt : j < σ.length
    · rw [wipe_in hj hlt, wipe_in hj (by omega)]
    · rw [List.getElem?_eq_none (by rw [wipe_length]; omega), List.getElem?_eq_none (by rw [wipe_length]; omega)]
  · rw [wipe_out hj]; exact h j hj
end
structure RunT (K : PySem.W.Frag) (t : TT) (tt : VT) : Prop where
  run : ∀ ρ Q Hk T σ H P, tt ρ Q → Holds K Hk ρ T σ H → PostT K Hk T σ ρ Q P → t σ H P
def vYes : VT := fun ρ Q => Q true ρ
theorem runt_yes {K : PySem.W.Frag} : RunT K tYes vYes := ⟨fun ρ Q Hk T σ H P q hh p => p true H Hk ρ (.refl _) hh (.refl _ _) q⟩
def vLc (it : VI) (g : VG) (tt : VT) (te : VE) (vs : List Nat) : VE := fun ρ Q => it ρ fun ds ρ1 => (∀ v ∈ vs, ∃ s, ρ1[v]? = some s ∧ s.free = true) ∧ ∃ I : Nat → List D → Rho → Prop, I 0 [] (wipeR ρ1 vs) ∧
  (∀ j acc d ρ', ds[j]? = some d → I j acc ρ' → g d ρ' fun ρ2 => tt ρ2 fun b ρ3 =>
    (b = true → te ρ3 fun s ρ4 => ∃ dy, slotD s = some dy ∧ acc.length < sizeLine ∧ I (j + 1) (acc ++ [dy]) (wipeR ρ4 vs)) ∧ (b = false → I (j + 1) acc (wipeR ρ3 vs))) ∧
  ∀ acc ρ', I ds.length acc ρ' → Q (.ow false (.lst acc)) ρ'
/-- a temporary made known -/
theorem Holds.know_top {K : PySem.W.Frag} {Hk H : Hp} {ρ : Rho} {T : List Cell} {σ : L2.St} {v : V} {s : Slot} {d : D} (h : Holds K Hk ρ ((some v, s) :: T) σ H) (e : slotD s = some d) : ∃ Hk', Same Hk Hk' ∧ Rep K Hk' v d ∧ Holds K Hk' ρ T σ H := by
  cases s with
  | un => cases e
  | sh d' =>
    cases e
    obtain ⟨v', ev, r⟩ := h.top
    cases ev
    exact ⟨Hk, .refl _, r, h.pop⟩
  | ow b o =>
    cases e
    obtain ⟨Hk', v', ev, e1, r, h2⟩ := HL.share h.front
    cases ev
    exact ⟨Hk', e1, r, .back h.len h2.tail⟩
theorem Holds.app {K : PySem.W.Frag} {Hk H : Hp} {ρ : Rho} {T : List Cell} {σ : L2.St} {x : Option V} {b : Bool} {ds : List D} (h : Holds K Hk ρ ((x, .ow b (.lst ds)) :: T) σ H) :
    ∃ p vs, x = some (.ref p) ∧ H p = some (.lst vs) ∧ Reps K Hk vs ds ∧ ∀ vs' ds', Reps K Hk vs' ds' → Holds K Hk ρ ((x, .ow b (.lst ds')) :: T) σ (upd H p (.lst vs')) := by
  obtain ⟨p, vs, e, h1, r, k⟩ := HL.lst h.front
  exact ⟨p, vs, e, h1, r, fun vs' ds' r' => .back h.len (k vs' ds' r')⟩
/-- the loop, its iterator made -/
theorem lc_core1 {X : Cx} {J : It} {ds : List D} {T T' : List Cell} {Hk1 H1 : _} {σ : L2.St} {ρ1 : Rho} {Q : VK0} {P : VK} {g' : TG} {is : List Nat} {g : VG} {tt' : TT} {tt : VT} {te' : TE} {te : VE} {vs : List Nat} (hg : RunG X.K g' is g) (ht : RunT X.K tt' tt) (he : RunE X.K te' te) (his : ∀ j ∈ is, j ∈ vs)
    (iok : ItOk X.K Hk1 T' J ds) (h1 : Holds X.K Hk1 ρ1 (T' ++ T) σ H1) (p : Post X.K Hk1 T σ ρ1 Q P) (fr : ∀ v ∈ vs, ∃ s, ρ1[v]? = some s ∧ s.free = true) (I : Nat → List D → Rho → Prop) (i0 : I 0 [] (wipeR ρ1 vs))
    (turn : ∀ j acc d ρ', ds[j]? = some d → I j acc ρ' → g d ρ' fun ρ2 => tt ρ2 fun b ρ3 =>
      (b = true → te ρ3 fun s ρ4 => ∃ dy, slotD s = some dy ∧ acc.length < sizeLine ∧ I (j + 1) (acc ++ [dy]) (wipeR ρ4 vs)) ∧ (b = false → I (j + 1) acc (wipeR ρ3 vs)))
    (fin : ∀ acc ρ', I ds.length acc ρ' → Q (.ow false (.lst acc)) ρ') :
    ∀ D, H1 D = none → ∃ W : Nat → Nat → Hp → Prop, (∃ m, W 0 m (upd H1 D (.lst []))) ∧ ∀ i m H, W i m H →
      (J.stop i H ∧ P (.ref D) H) ∨ (J.go i H ∧ ∃ Nx : Hp → Prop, (∀ H', Nx H' → ∃ m', m' < m ∧ W (i + 1) m' H') ∧ ∀ x H', J.yld i H x H' → g' x (L2.wipe σ vs) H' fun σ2 H2 => L2.wipe σ2 vs = L2.wipe σ vs ∧ tt' σ2 H2 fun b H3 =>
        if b = true then te' σ2 H3 fun y H4 => ∃ acc, H4 D = some (.lst acc) ∧ acc.length < sizeLine ∧ Nx (upd H4 D (.lst (acc ++ [y]))) else Nx H3) := by
    intro Dl hD
    have lent : ∀ i o, ρ1[i]? = some (Slot.ow true o) → i ∉ vs := fun i o e z => by
      obtain ⟨s, es, hf⟩ := fr i z
      rw [e] at es; cases es; cases hf
    refine ⟨fun i m H' => m = ds.length - i ∧ i ≤ ds.length ∧ ∃ Hk' ρ' acc, Same Hk1 Hk' ∧ Holds X.K Hk' (wipeR ρ' vs) ((some (.ref Dl), Slot.ow false (Own.lst acc)) :: (T' ++ T)) (L2.wipe σ vs) H' ∧ (∀ j o, ρ1[j]? = some (Slot.ow true o) → ∃ o', (wipeR ρ' vs)[j]? = some (Slot.ow true o')) ∧ I i acc (wipeR ρ' vs),
      ⟨_, rfl, Nat.zero_le _, Hk1, ρ1, [], .refl _, ?_, fun j o e => ⟨o, by rw [wipeR_out (lent j o e)]; exact e⟩, i0⟩, ?_⟩
    · exact Holds.wipe (h1.own hD (.lst upd_same .nil))
    · rintro i m H2 ⟨rfl, hle, Hk2, ρ2, acc, e2, h2, k2, i2⟩
      have hL : HL X.K Hk2 H2 (T' ++ (T ++ (L2.wipe σ vs).zip (wipeR ρ2 vs))) := by rw [← List.append_assoc]; exact h2.pop.front
      by_cases hlt : i < ds.length
      · obtain ⟨hgo, hy⟩ := iok.go i Hk2 H2 _ e2 hL hlt
        refine .inr ⟨hgo, fun H' => ∃ Hk' ρ' acc, Same Hk1 Hk' ∧ Holds X.K Hk' (wipeR ρ' vs) ((some (.ref Dl), Slot.ow false (Own.lst acc)) :: (T' ++ T)) (L2.wipe σ vs) H' ∧ (∀ j o, ρ1[j]? = some (Slot.ow true o) → ∃ o', (wipeR ρ' vs)[j]? = some (Slot.ow true o')) ∧ I (i + 1) acc (wipeR ρ' vs),
          fun H' hN => ⟨ds.length - (i + 1), by omega, rfl, hlt, hN⟩, fun x H3 hyl => ?_⟩
        obtain ⟨Hk3, d, hd, e3, r3, mv⟩ := hy x H3 hyl
        refine hg.run d _ _ Hk3 _ (L2.wipe σ vs) H3 x _ (turn i acc d _ hd i2) r3 ⟨h2.len, mv _ h2.hl⟩ fun σ4 H4 Hk4 ρ4 e4 h4 k4 s4 q4 => ?_
        have ws : L2.wipe σ4 vs = L2.wipe σ vs := wipe_eq (fun j hj => s4.1 j fun z => hj (his j z)) (s4.2.trans (wipe_length σ vs))
        have hσ : ∀ j o, ρ1[j]? = some (Slot.ow true o) → ∃ v, (L2.wipe σ vs)[j]? = some v ∧ σ4[j]? = some v ∧ ∃ o', ρ4[j]? = some (Slot.ow true o') := fun j o e => by
          obtain ⟨o', eo⟩ := k2 j o e
          have hj : j < (L2.wipe σ vs).length := by rw [← h2.len]; exact (List.getElem?_eq_some_iff.mp eo).1
          obtain ⟨e5, o5, eo5⟩ := k4 j o' _ eo (List.getElem?_eq_getElem hj)
          exact ⟨_, List.getElem?_eq_getElem hj, e5, o5, eo5⟩
        refine ⟨ws, ht.run ρ4 _ Hk4 _ σ4 H4 _ q4 h4 fun b H5 Hk5 ρ5 e5 h5 k5 q5 => ?_⟩
        cases b with
        | false =>
          rw [if_neg Bool.false_ne_true]
          refine ⟨Hk5, ρ5, acc, e2.trans (e3.trans (e4.trans e5)), by have := Holds.wipe (vs := vs) h5; rw [ws] at this; exact this, fun j o e => ?_, q5.2 rfl⟩
          obtain ⟨v, _, e6, o6, eo6⟩ := hσ j o e
          obtain ⟨_, o7, eo7⟩ := k5 j o6 v eo6 e6
          exact ⟨o7, by rw [wipeR_out (lent j o e)]; exact eo7⟩
        | true =>
          rw [if_pos rfl]
          refine he.run ρ5 _ Hk5 _ σ4 H5 _ (q5.1 rfl) h5 fun y H6 Hk6 ρ6 s e6 h6 k6 ⟨dy, hs, hz, q6⟩ => ?_
          obtain ⟨Hk7, e7, r7, h7⟩ := h6.know_top hs
          obtain ⟨p', vs', ep, hp, rp, mu⟩ := h7.app
          cases ep
          refine ⟨vs', hp, by rw [rp.length]; exact hz, Hk7, ρ6, acc ++ [dy], e2.trans (e3.trans (e4.trans (e5.trans (e6.trans e7)))), ?_, fun j o e => ?_, q6⟩
          · have := Holds.wipe (vs := vs) (mu _ _ (rp.append (.one r7))); rw [ws] at this; exact this
          · obtain ⟨v, _, e6', o6, eo6⟩ := hσ j o e
            obtain ⟨_, o7, eo7⟩ := k5 j o6 v eo6 e6'
            obtain ⟨_, o8, eo8⟩ := k6 j o7 v eo7 e6'
            exact ⟨o8, by rw [wipeR_out (lent j o e)]; exact eo8⟩
      · have hie : i = ds.length := by omega
        subst hie
        refine .inl ⟨iok.stop _ Hk2 H2 _ e2 hL (Nat.le_refl _), ?_⟩
        refine p (.ref Dl) H2 Hk2 (wipeR ρ2 vs) (.ow false (.lst acc)) (e2) h2.dropMid.unwipe (fun j o v e ev => ⟨ev, k2 j o e⟩) (fin acc _ i2)
theorem run_lc {X : Cx} {tg iter : Expr} {it : VI} {g' : TG} {is : List Nat} {g : VG} {tt' : TT} {tt : VT} {te' : TE} {te : VE} {vs : List Nat} (hi : PWI X tg iter it) (hg : RunG X.K g' is g) (ht : RunT X.K tt' tt) (he : RunE X.K te' te) (his : ∀ j ∈ is, j ∈ vs) :
    RunE X.K (tLc (tSemI X tg iter) g' tt' te' vs) (vLc it g tt te vs) := ⟨fun ρ Q Hk T σ H P q hh p =>
  hi.run ρ _ Hk T σ H _ q hh fun J H1 Hk1 ρ1 ds T' e1 h1 k1 iok ⟨fr, I, i0, turn, fin⟩ => lc_core1 hg ht he his iok h1 (p.step e1 k1) fr I i0 turn fin⟩

/-! the blocks' readings, the same for every block -/
section
variable {X : Cx} {scope : Scope} {elt tg iter c : Expr} {own : List (Str × Nat)} {pos : Pos}
def gU (X : Cx) (scope : Scope) (tg : Expr) : TG := fun v σ H P => ∀ s0 H0 C cl fp, tSemG (X.blk s0 H0 scope (compEnvC scope cl C X.env) fp) tg v σ H P
def eU (X : Cx) (scope : Scope) (e : Expr) : TE := fun σ H P => ∀ s0 H0 C cl fp, tSem (X.blk s0 H0 scope (compEnvC scope cl C X.env) fp) e σ H P
def cU (X : Cx) (scope : Scope) (e : Expr) : TT := fun σ H P => ∀ s0 H0 C cl fp, tSemT (X.blk s0 H0 scope (compEnvC scope cl C X.env) fp) e σ H P
theorem pg_U {s0 H0 C cl fp} : PG (X.blk s0 H0 scope (compEnvC scope cl C X.env) fp) tg (gU X scope tg) := ⟨fun pins s _ _ _ u _ I r h => h s0 H0 C cl fp pins s u I r⟩
theorem pe_U {s0 H0 C cl fp} : PE (X.blk s0 H0 scope (compEnvC scope cl C X.env) fp) elt (eU X scope elt) := ⟨fun pins s _ _ _ I h => h s0 H0 C cl fp pins s I⟩
theorem pt_U {s0 H0 C cl fp} : PT (X.blk s0 H0 scope (compEnvC scope cl C X.env) fp) c (cU X scope c) := ⟨fun pins s _ _ _ I h => h s0 H0 C cl fp pins s I⟩
theorem rung_U {is : List Nat} {g : VG} (h : ∀ s0 H0 C cl fp, PWG (X.blk s0 H0 scope (compEnvC scope cl C X.env) fp) tg is g) : RunG X.K (gU X scope tg) is g := ⟨fun d ρ Q Hk T σ H v P q r hh p s0 H0 C cl fp => (h s0 H0 C cl fp).run.run d ρ Q Hk T σ H v P q r hh p⟩
theorem rune_U {te : VE} (h : ∀ s0 H0 C cl fp, PWE (X.blk s0 H0 scope (compEnvC scope cl C X.env) fp) elt te) : RunE X.K (eU X scope elt) te := ⟨fun ρ Q Hk T σ H P q hh p s0 H0 C cl fp => (h s0 H0 C cl fp).run ρ Q Hk T σ H P q hh p⟩
theorem runt_U {tt : VT} (h : ∀ s0 H0 C cl fp, PWT (X.blk s0 H0 scope (compEnvC scope cl C X.env) fp) c tt) : RunT X.K (cU X scope c) tt := ⟨fun ρ Q Hk T σ H P q hh p s0 H0 C cl fp => (h s0 H0 C cl fp).run ρ Q Hk T σ H P q hh p⟩
variable {it : VI} {is : List Nat} {g : VG} {te : VE} {tt : VT}
theorem pe_lc0 (hc : X.calm = true) (hN : X.N.Nodup) (ok : BlkOk X.N X.env.scope scope own) (hs : ∀ x, foldedSetIterable iter X.env x = pure x := by intro _; rfl) :
    PE X (.ListComp elt [⟨tg, iter, [], 0⟩] scope pos) (tLc (tSemI X tg iter) (gU X scope tg) tYes (eU X scope elt) (own.map (·.2))) :=
  pe_lc hc hN pi_sem ok (fun _ _ _ _ _ => pg_U) (fun _ _ _ _ _ => pts_nil) (fun _ _ _ _ _ => pe_U) hs
theorem pe_lc1 (hc : X.calm = true) (hN : X.N.Nodup) (ok : BlkOk X.N X.env.scope scope own) (hs : ∀ x, foldedSetIterable iter X.env x = pure x := by intro _; rfl) :
    PE X (.ListComp elt [⟨tg, iter, [c], 0⟩] scope pos) (tLc (tSemI X tg iter) (gU X scope tg) (cU X scope c) (eU X scope elt) (own.map (·.2))) :=
  pe_lc hc hN pi_sem ok (fun _ _ _ _ _ => pg_U) (fun _ _ _ _ _ => pts_one pt_U) (fun _ _ _ _ _ => pe_U) hs
theorem run_lc0 (hi : PWI X tg iter it) (hg : ∀ s0 H0 C cl fp, PWG (X.blk s0 H0 scope (compEnvC scope cl C X.env) fp) tg is g) (he : ∀ s0 H0 C cl fp, PWE (X.blk s0 H0 scope (compEnvC scope cl C X.env) fp) elt te) (his : ∀ j ∈ is, j ∈ own.map (·.2) := by decide) :
    RunE X.K (tLc (tSemI X tg iter) (gU X scope tg) tYes (eU X scope elt) (own.map (·.2))) (vLc it g vYes te (own.map (·.2))) := run_lc hi (rung_U hg) runt_yes (rune_U he) his
theorem run_lc1 (hi : PWI X tg iter it) (hg : ∀ s0 H0 C cl fp, PWG (X.blk s0 H0 scope (compEnvC scope cl C X.env) fp) tg is g) (ht : ∀ s0 H0 C cl fp, PWT (X.blk s0 H0 scope (compEnvC scope cl C X.env) fp) c tt) (he : ∀ s0 H0 C cl fp, PWE (X.blk s0 H0 scope (compEnvC scope cl C X.env) fp) elt te) (his : ∀ j ∈ is, j ∈ own.map (·.2) := by decide) :
    RunE X.K (tLc (tSemI X tg iter) (gU X scope tg) (cU X scope c) (eU X scope elt) (own.map (·.2))) (vLc it g tt te (own.map (·.2))) := run_lc hi (rung_U hg) (runt_U ht) (rune_U he) his
end
end WL

set_option Elab.async false
set_option linter.all false
set_option maxRecDepth 100000
set_option maxHeartbeats 4000000
/-! W4: calls, a def's promise. -/
namespace WL
open PySem PySem.Spec PyProof.Rows L2

/-- arguments behind a call: what was shared is as it was, what was lent may have changed -/
inductive KpA : List Slot → List Slot → Prop
  | nil : KpA [] []
  | sh {d as bs} (t : KpA as bs) : KpA (.sh d :: as) (.sh d :: bs)
  | ow {o o' as bs} (t : KpA as bs) : KpA (.ow true o :: as) (.ow true o' :: bs)
/-- a def's promise over values: its arguments, what is wanted of the result and the arguments behind -/
abbrev VSp := List Slot → (Slot → List Slot → Prop) → Prop
def spV (K : PySem.W.Frag) (SS : VSp) : Sp := fun vs H Q _ => ∃ Hk ρs T R, ρs.length = vs.length ∧ KpA ρs ρs ∧ HL K Hk H ((vs.map some).zip ρs ++ T) ∧ SS ρs R ∧
  ∀ v H' Hk' ρs' r, Same Hk Hk' → KpA ρs ρs' → HL K Hk' H' ((some v, r) :: ((vs.map some).zip ρs' ++ T)) → R r ρs' → Q v H'

def lendS : Rho → List Arg → Option (List Slot)
  | _, [] => some []
  | ρ, .val (.sh d) :: as => (lendS ρ as).map (Slot.sh d :: ·)
  | ρ, .val (.ow _ o) :: as => (lendS ρ as).map (Slot.ow true o :: ·)
  | _, .val .un :: _ => none
  | ρ, .pk i :: as => match ρ[i]? with
    | some (.sh d) => (lendS ρ as).map (Slot.sh d :: ·)
    | some (.ow _ o) => (lendS (ρ.set i .un) as).map (Slot.ow true o :: ·)
    | _ => none
def lendR : Rho → List Arg → Rho
  | ρ, [] => ρ
  | ρ, .val _ :: as => lendR ρ as
  | ρ, .pk i :: as => match ρ[i]? with
    | some (.ow _ _) => lendR (ρ.set i .un) as
    | _ => lendR ρ as
def backS (b : Bool) : Slot → Slot
  | .ow _ o => .ow b o
  | s => s
def takeBack : Rho → List Arg → List Slot → Rho
  | ρ, .val _ :: as, _ :: ss => takeBack ρ as ss
  | ρ, .pk i :: as, s' :: ss => match ρ[i]? with
    | some (.ow b _) => (takeBack (ρ.set i .un) as ss).set i (backS b s')
    | _ => takeBack ρ as ss
  | ρ, _, _ => ρ

section
variable {K : PySem.W.Frag} {Hk Hk' H H' : Hp} {σ : L2.St}
theorem HL.relab {x : Option V} {b b' : Bool} {o : Own} {L : List Cell} (h : HL K Hk H ((x, .ow b o) :: L)) : HL K Hk H ((x, .ow b' o) :: L) := by
  obtain ⟨F, hc, hn, hk⟩ := h.cells
  cases hc with
  | cons h1 t =>
    cases h1 with
    | ow r => exact ⟨h.ex, _, .cons (.ow r) t, hn, hk⟩
theorem HL.drop {L : List Cell} : ∀ {C : List Cell}, HL K Hk H (C ++ L) → HL K Hk H L
  | [], h => h
  | _ :: C, h => HL.drop (C := C) h.tail
theorem HL.mid {c : Cell} {C L : List Cell} (h : HL K Hk H (C ++ c :: L)) : HL K Hk H (c :: (C ++ L)) := h.perm List.perm_middle
theorem HL.unmid {c : Cell} {C L : List Cell} (h : HL K Hk H (c :: (C ++ L))) : HL K Hk H (C ++ c :: L) := h.perm List.perm_middle.symm
theorem argsAt_ok {as : List Arg} {vs : List V} {ts : List Cell} (ha : ArgsAt σ as vs ts) : ∀ {ρ : Rho} {T C : List Cell} {ρs : List Slot}, ρ.length = σ.length → HL K Hk H (C ++ (σ.zip ρ ++ (ts ++ T))) → lendS ρ as = some ρs →
    HL K Hk H (C ++ ((vs.map some).zip ρs ++ (σ.zip (lendR ρ as) ++ T))) ∧ ρs.length = vs.length ∧ KpA ρs ρs := by
  induction ha with
  | nil =>
    intro ρ T C ρs hl h e
    cases e
    exact ⟨h, rfl, .nil⟩
  | cons hd t ih =>
    rename_i a v ta as vs us
    intro ρ T C ρs hl h e
    cases hd with
    | val =>
      rename_i s
      have h1 : HL K Hk H (((some v, s) :: C) ++ (σ.zip ρ ++ (us ++ T))) := by
        have h2 : HL K Hk H ((C ++ (σ.zip ρ ++ us)) ++ (some v, s) :: T) := by simpa [List.append_assoc] using h
        simpa [List.append_assoc] using h2.mid
      cases s with
      | un => cases e
      | sh d =>
        have e' : (lendS ρ as).map (Slot.sh d :: ·) = some ρs := e
        obtain ⟨r, hr, er⟩ := Option.map_eq_some_iff.mp e'
        subst er
        obtain ⟨g1, g2, g3⟩ := ih hl h1 hr
        exact ⟨HL.unmid g1, by simp [g2], .sh g3⟩
      | ow b o =>
        have e' : (lendS ρ as).map (Slot.ow true o :: ·) = some ρs := e
        obtain ⟨r, hr, er⟩ := Option.map_eq_some_iff.mp e'
        subst er
        obtain ⟨g1, g2, g3⟩ := ih (C := (some v, .ow true o) :: C) hl (HL.relab h1) hr
        exact ⟨HL.unmid g1, by simp [g2], .ow g3⟩
    | pk hv =>
      rename_i i
      have h0 : HL K Hk H (C ++ (σ.zip ρ ++ (us ++ T))) := by simpa using h
      cases hs : ρ[i]? with
      | none =>
        have e' : (match ρ[i]? with | some (.sh d) => (lendS ρ as).map (Slot.sh d :: ·) | some (.ow _ o) => (lendS (ρ.set i .un) as).map (Slot.ow true o :: ·) | _ => none) = some ρs := e
        rw [hs] at e'; cases e'
      | some s =>
        have e' : (match ρ[i]? with | some (.sh d) => (lendS ρ as).map (Slot.sh d :: ·) | some (.ow _ o) => (lendS (ρ.set i .un) as).map (Slot.ow true o :: ·) | _ => none) = some ρs := e
        rw [hs] at e'
        obtain ⟨R, z1, z2⟩ := zip_at hv hs
        cases s with
        | un => cases e'
        | sh d =>
          obtain ⟨r, hr, er⟩ := Option.map_eq_some_iff.mp e'
          subst er
          have hR : lendR ρ (.pk i :: as) = lendR ρ as := by
            show (match ρ[i]? with | some (.ow _ _) => lendR (ρ.set i .un) as | _ => lendR ρ as) = _
            rw [hs]
          have rep : Rep K Hk v d := by
            have q := (h0.perm (((z1.append_right (us ++ T)).append_left C))).mid
            obtain ⟨v', ev, r⟩ := HL.get_sh q
            cases ev; exact r
          obtain ⟨g1, g2, g3⟩ := ih (C := (some v, .sh d) :: C) hl (h0.sh rep) hr
          rw [hR]
          exact ⟨HL.unmid g1, by simp [g2], .sh g3⟩
        | ow b o =>
          obtain ⟨r, hr, er⟩ := Option.map_eq_some_iff.mp e'
          subst er
          have hR : lendR ρ (.pk i :: as) = lendR (ρ.set i .un) as := by
            show (match ρ[i]? with | some (.ow _ _) => lendR (ρ.set i .un) as | _ => lendR ρ as) = _
            rw [hs]
          have z3 := z2 (some v) .un
          rw [set_self hv] at z3
          have q : HL K Hk H ((some v, .ow b o) :: (C ++ (R ++ (us ++ T)))) := (h0.perm ((z1.append_right (us ++ T)).append_left C)).mid
          have q2 : HL K Hk H (((some v, .ow true o) :: C) ++ (σ.zip (ρ.set i .un) ++ (us ++ T))) := by
            have q3 : HL K Hk H ((some v, .un) :: ((some v, .ow true o) :: (C ++ (R ++ (us ++ T))))) := q.relab.un
            have q4 : HL K Hk H ((((some v, .ow true o) :: C)) ++ ((some v, .un) :: (R ++ (us ++ T)))) := HL.unmid (C := (some v, .ow true o) :: C) (by simpa using q3)
            exact q4.perm ((z3.append_right (us ++ T)).symm.append_left _)
          obtain ⟨g1, g2, g3⟩ := ih (by simpa using hl) q2 hr
          rw [hR]
          exact ⟨HL.unmid g1, by simp [g2], .ow g3⟩
theorem takeBack_len : ∀ (as : List Arg) (ρ : Rho) (ss : List Slot), (takeBack ρ as ss).length = ρ.length
  | [], ρ, ss => by cases ss <;> rfl
  | .val _ :: as, ρ, [] => rfl
  | .val _ :: as, ρ, _ :: ss => takeBack_len as ρ ss
  | .pk _ :: as, ρ, [] => rfl
  | .pk i :: as, ρ, s :: ss => by
    show (match ρ[i]? with | some (.ow b _) => (takeBack (ρ.set i .un) as ss).set i (backS b s) | _ => takeBack ρ as ss).length = ρ.length
    split
    · rw [List.length_set, takeBack_len as, List.length_set]
    · exact takeBack_len as ρ ss
theorem takeBack_un {i : Nat} : ∀ (as : List Arg) (ρ : Rho) (ss ρs : List Slot), ρ[i]? = some Slot.un → lendS ρ as = some ρs → (takeBack ρ as ss)[i]? = some Slot.un
  | [], ρ, ss, ρs, h, e => by cases ss <;> exact h
  | .val _ :: as, ρ, [], ρs, h, e => h
  | .val s :: as, ρ, _ :: ss, ρs, h, e => by
    cases s with
    | un => cases e
    | sh d => obtain ⟨r, hr, _⟩ := Option.map_eq_some_iff.mp (show (lendS ρ as).map (Slot.sh d :: ·) = some ρs from e); exact takeBack_un as ρ ss r h hr
    | ow b o => obtain ⟨r, hr, _⟩ := Option.map_eq_some_iff.mp (show (lendS ρ as).map (Slot.ow true o :: ·) = some ρs from e); exact takeBack_un as ρ ss r h hr
  | .pk _ :: as, ρ, [], ρs, h, e => h
  | .pk j :: as, ρ, s :: ss, ρs, h, e => by
    have e' : (match ρ[j]? with | some (.sh d) => (lendS ρ as).map (Slot.sh d :: ·) | some (.ow _ o) => (lendS (ρ.set j .un) as).map (Slot.ow true o :: ·) | _ => none) = some ρs := e
    show (match ρ[j]? with | some (.ow b _) => (takeBack (ρ.set j .un) as ss).set j (backS b s) | _ => takeBack ρ as ss)[i]? = _
    cases hs : ρ[j]? with
    | none => rw [hs] at e'; cases e'
    | some t =>
      rw [hs] at e'
      cases t with
      | un => cases e'
      | sh d => obtain ⟨r, hr, _⟩ := Option.map_eq_some_iff.mp e'; exact takeBack_un as ρ ss r h hr
      | ow b o =>
        obtain ⟨r, hr, _⟩ := Option.map_eq_some_iff.mp e'
        have hji : j ≠ i := fun z => by subst z; rw [h] at hs; cases hs
        show ((takeBack (ρ.set j .un) as ss).set j (backS b s))[i]? = _
        rw [List.getElem?_set_ne hji]
        exact takeBack_un as _ ss r (by rw [List.getElem?_set_ne hji]; exact h) hr
theorem takeBack_kp {j : Nat} {o : Own} : ∀ (as : List Arg) (ρ : Rho) (ρs ss : List Slot), ρ[j]? = some (Slot.ow true o) → lendS ρ as = some ρs → KpA ρs ss → ∃ o', (takeBack ρ as ss)[j]? = some (Slot.ow true o')
  | [], ρ, ρs, ss, h, e, k => by cases ss <;> exact ⟨o, h⟩
  | .val s :: as, ρ, ρs, ss, h, e, k => by
    cases s with
    | un => cases e
    | sh d =>
      obtain ⟨r, hr, er⟩ := Option.map_eq_some_iff.mp (show (lendS ρ as).map (Slot.sh d :: ·) = some ρs from e)
      subst er
      cases k with | sh k => exact takeBack_kp as ρ r _ h hr k
    | ow b o =>
      obtain ⟨r, hr, er⟩ := Option.map_eq_some_iff.mp (show (lendS ρ as).map (Slot.ow true o :: ·) = some ρs from e)
      subst er
      cases k with | ow k => exact takeBack_kp as ρ r _ h hr k
  | .pk i :: as, ρ, ρs, ss, h, e, k => by
    have e' : (match ρ[i]? with | some (.sh d) => (lendS ρ as).map (Slot.sh d :: ·) | some (.ow _ o) => (lendS (ρ.set i .un) as).map (Slot.ow true o :: ·) | _ => none) = some ρs := e
    cases hs : ρ[i]? with
    | none => rw [hs] at e'; cases e'
    | some t =>
      rw [hs] at e'
      cases t with
      | un => cases e'
      | sh d =>
        obtain ⟨r, hr, er⟩ := Option.map_eq_some_iff.mp e'
        subst er
        cases k with
        | sh k =>
          rename_i bs
          show ∃ o', (match ρ[i]? with | some (.ow b _) => (takeBack (ρ.set i .un) as bs).set i (backS b (.sh d)) | _ => takeBack ρ as bs)[j]? = some (Slot.ow true o')
          rw [hs]
          exact takeBack_kp as ρ r _ h hr k
      | ow b o1 =>
        obtain ⟨r, hr, er⟩ := Option.map_eq_some_iff.mp e'
        subst er
        cases k with
        | ow k =>
          rename_i o' bs
          show ∃ o2, (match ρ[i]? with | some (.ow b _) => (takeBack (ρ.set i .un) as bs).set i (backS b (.ow true o')) | _ => takeBack ρ as bs)[j]? = some (Slot.ow true o2)
          rw [hs]
          by_cases hij : i = j
          · subst hij
            rw [h] at hs; cases hs
            refine ⟨o', ?_⟩
            show ((takeBack (ρ.set i .un) as bs).set i (Slot.ow true o'))[i]? = _
            rw [List.getElem?_set_self]
            rw [takeBack_len, List.length_set]
            exact (List.getElem?_eq_some_iff.mp h).1
          · obtain ⟨o2, h2⟩ := takeBack_kp as (ρ.set i .un) r bs (by rw [List.getElem?_set_ne hij]; exact h) hr k
            refine ⟨o2, ?_⟩
            show ((takeBack (ρ.set i .un) as bs).set i (backS b _))[j]? = _
            rw [List.getElem?_set_ne hij]
            exact h2
theorem argsAt_back {as : List Arg} {vs : List V} {ts : List Cell} (ha : ArgsAt σ as vs ts) : ∀ {ρ : Rho} {T C : List Cell} {ρs ss : List Slot}, ρ.length = σ.length → lendS ρ as = some ρs → KpA ρs ss →
    HL K Hk' H' (C ++ ((vs.map some).zip ss ++ (σ.zip (lendR ρ as) ++ T))) → HL K Hk' H' (C ++ (σ.zip (takeBack ρ as ss) ++ T)) := by
  induction ha with
  | nil =>
    intro ρ T C ρs ss hl e k h
    cases e
    cases k
    exact h
  | cons hd t ih =>
    rename_i a v ta as vs us
    intro ρ T C ρs ss hl e k h
    cases hd with
    | val =>
      rename_i s
      cases s with
      | un => cases e
      | sh d =>
        obtain ⟨r, hr, er⟩ := Option.map_eq_some_iff.mp (show (lendS ρ as).map (Slot.sh d :: ·) = some ρs from e)
        subst er
        cases k with
        | sh k =>
          have h1 : HL K Hk' H' (C ++ ((some v, .sh d) :: ((vs.map some).zip _ ++ (σ.zip (lendR ρ as) ++ T)))) := h
          exact ih hl hr k h1.mid.tail
      | ow b o =>
        obtain ⟨r, hr, er⟩ := Option.map_eq_some_iff.mp (show (lendS ρ as).map (Slot.ow true o :: ·) = some ρs from e)
        subst er
        cases k with
        | ow k =>
          have h1 : HL K Hk' H' (C ++ ((some v, .ow true _) :: ((vs.map some).zip _ ++ (σ.zip (lendR ρ as) ++ T)))) := h
          exact ih hl hr k h1.mid.tail
    | pk hv =>
      rename_i i
      have e' : (match ρ[i]? with | some (.sh d) => (lendS ρ as).map (Slot.sh d :: ·) | some (.ow _ o) => (lendS (ρ.set i .un) as).map (Slot.ow true o :: ·) | _ => none) = some ρs := e
      cases hs : ρ[i]? with
      | none => rw [hs] at e'; cases e'
      | some s =>
        rw [hs] at e'
        cases s with
        | un => cases e'
        | sh d =>
          obtain ⟨r, hr, er⟩ := Option.map_eq_some_iff.mp e'
          subst er
          have hR : lendR ρ (.pk i :: as) = lendR ρ as := by
            show (match ρ[i]? with | some (.ow _ _) => lendR (ρ.set i .un) as | _ => lendR ρ as) = _
            rw [hs]
          cases k with
          | sh k =>
            rename_i bs
            rw [hR] at h
            have hB : takeBack ρ (.pk i :: as) (.sh d :: bs) = takeBack ρ as bs := by
              show (match ρ[i]? with | some (.ow b _) => (takeBack (ρ.set i .un) as bs).set i (backS b _) | _ => takeBack ρ as bs) = _
              rw [hs]
            rw [hB]
            have h1 : HL K Hk' H' (C ++ ((some v, .sh d) :: ((vs.map some).zip bs ++ (σ.zip (lendR ρ as) ++ T)))) := h
            exact ih hl hr k h1.mid.tail
        | ow b o =>
          obtain ⟨r, hr, er⟩ := Option.map_eq_some_iff.mp e'
          subst er
          have hR : lendR ρ (.pk i :: as) = lendR (ρ.set i .un) as := by
            show (match ρ[i]? with | some (.ow _ _) => lendR (ρ.set i .un) as | _ => lendR ρ as) = _
            rw [hs]
          cases k with
          | ow k =>
            rename_i o' bs
            rw [hR] at h
            have hB : takeBack ρ (.pk i :: as) (.ow true o' :: bs) = (takeBack (ρ.set i .un) as bs).set i (.ow b o') := by
              show (match ρ[i]? with | some (.ow b _) => (takeBack (ρ.set i .un) as bs).set i (backS b _) | _ => takeBack ρ as bs) = _
              rw [hs]; rfl
            rw [hB]
            have h1 : HL K Hk' H' (C ++ ((some v, .ow true o') :: ((vs.map some).zip bs ++ (σ.zip (lendR (ρ.set i .un) as) ++ T)))) := h
            have h2 := ih (C := (some v, .ow b o') :: C) (by simpa using hl) hr k h1.mid.relab
            have hi : i < ρ.length := (List.getElem?_eq_some_iff.mp hs).1
            have u : (takeBack (ρ.set i .un) as bs)[i]? = some Slot.un := takeBack_un as _ bs r (by rw [List.getElem?_set_self hi]) hr
            obtain ⟨R, z1, z2⟩ := zip_at hv u
            have z3 := z2 (some v) (.ow b o')
            rw [set_self hv] at z3
            have q : HL K Hk' H' ((some v, .un) :: (((some v, .ow b o') :: C) ++ (R ++ T))) := (h2.perm ((z1.append_right T).append_left _)).mid
            have q1 : HL K Hk' H' (C ++ ((some v, .ow b o') :: (R ++ T))) := HL.unmid (by simpa using q.tail)
            exact q1.perm ((z3.append_right T).symm.append_left C)
end

/-- a call -/
def vCall (SS : VSp) (ta : VA) : VE := fun ρ Q => ta ρ fun as ρ1 => ∃ ρs, lendS ρ1 as = some ρs ∧ SS ρs fun r ss => Q r (takeBack ρ1 as ss)
theorem run_call {X : Cx} {SS : VSp} {es : List Expr} {tas : VA} {E : XK} (ha : PWA X es tas) : RunE X.K (tCall (spV X.K SS) [] E (tSemA X es)) (vCall SS tas) := ⟨fun ρ Q Hk T σ H P q hh p =>
  ha.run ρ _ Hk T σ H _ q hh fun vs H1 Hk1 ρ1 as ts e1 has h1 k1 ⟨ρs, hl, q1⟩ => by
    obtain ⟨g1, g2, g3⟩ := argsAt_ok (C := []) has h1.len (by simpa using h1.hl) hl
    show spV X.K SS (vs ++ []) H1 P E
    rw [List.append_nil]
    refine ⟨Hk1, ρs, _, _, g2, g3, g1, q1, fun v H' Hk' ρs' r e2 k2 h2 q2 => ?_⟩
    refine p v H' Hk' (takeBack ρ1 as ρs') r (e1.trans e2) ?_ (k1.trans fun j o x ej ex => ⟨ex, takeBack_kp as ρ1 ρs ρs' ej hl k2⟩) q2
    have b := argsAt_back (C := [(some v, r)]) has h1.len hl k2 h2
    exact ⟨by rw [takeBack_len]; exact h1.len, HL.unmid (C := σ.zip (takeBack ρ1 as ρs')) (by simpa using b)⟩⟩

/-! ### a def keeps its promise -/
/-- the arguments as they are at the end -/
def fin : List Slot → Rho → List Slot
  | [], _ => []
  | .ow true _ :: as, b :: bs => b :: fin as bs
  | a :: as, _ :: bs => a :: fin as bs
  | as, [] => as
section
variable {K : PySem.W.Frag} {Hk Hk' H H' : Hp}
theorem fin_kp : ∀ {ρs ρs' : List Slot} {ρ' : Rho}, KpA ρs ρs' → (∀ (i : Nat) (o : Own), ρs[i]? = some (Slot.ow true o) → ∃ o', ρ'[i]? = some (Slot.ow true o')) → KpA ρs (fin ρs ρ')
  | _, _, ρ', .nil, _ => by cases ρ' <;> exact .nil
  | .sh d :: as, .sh _ :: bs, [], .sh t, h => by
    show KpA _ (.sh d :: as)
    have : ∀ {as bs : List Slot}, KpA as bs → (∀ (i : Nat) (o : Own), as[i]? = some (Slot.ow true o) → ∃ o', ([] : Rho)[i]? = some (Slot.ow true o')) → KpA as as := by
      intro as bs k
      induction k with
      | nil => intro _; exact .nil
      | sh t ih => intro h; exact .sh (ih fun i o e => h (i + 1) o (by simpa using e))
      | ow t ih => intro h; obtain ⟨_, z⟩ := h 0 _ rfl; simp at z
    exact .sh (this t fun i o e => h (i + 1) o (by simpa using e))
  | .sh d :: as, .sh _ :: bs, b :: ρ', .sh t, h => .sh (fin_kp t fun i o e => by simpa using h (i + 1) o (by simpa using e))
  | .ow true o :: as, .ow true _ :: bs, [], .ow t, h => by obtain ⟨_, z⟩ := h 0 o (by simp); simp at z
  | .ow true o :: as, .ow true _ :: bs, b :: ρ', .ow t, h => by
    obtain ⟨o', z⟩ := h 0 o (by simp)
    have z' : b = .ow true o' := by simpa using z
    subst z'
    exact .ow (fin_kp t fun i o e => by simpa using h (i + 1) o (by simpa using e))
theorem fin_hl : ∀ {ρs : List Slot} {vs : List V} {σ' : L2.St} {ρ' : Rho} {L C : List Cell}, KpA ρs ρs → ρs.length = vs.length → ρ'.length = σ'.length →
    (∀ (i : Nat) (o : Own) (v : V), ρs[i]? = some (Slot.ow true o) → vs[i]? = some v → σ'[i]? = some (some v) ∧ ∃ o', ρ'[i]? = some (Slot.ow true o')) → (∀ (i : Nat) (d : D) (v : V), ρs[i]? = some (Slot.sh d) → vs[i]? = some v → Rep K Hk v d) →
    HL K Hk H (C ++ (σ'.zip ρ' ++ L)) → HL K Hk H (C ++ ((vs.map some).zip (fin ρs ρ') ++ L))
  | [], [], σ', ρ', L, C, _, _, _, _, _, h => by
    have : fin [] ρ' = [] := by cases ρ' <;> rfl
    rw [this]
    show HL K Hk H (C ++ L)
    have h1 : HL K Hk H (σ'.zip ρ' ++ (C ++ L)) := h.perm (by
      rw [← List.append_assoc, ← List.append_assoc]
      exact List.perm_append_comm.append_right L)
    exact h1.drop
  | .sh d :: as, v :: vs, σ', ρ', L, C, .sh k, hl, hlen, ho, hs, h => by
    have r := hs 0 d v (by simp) (by simp)
    cases ρ' with
    | nil =>
      have hσ : σ' = [] := List.length_eq_zero_iff.mp (by rw [← hlen]; rfl)
      subst hσ
      have noow : ∀ (i : Nat) (o : Own), as[i]? ≠ some (Slot.ow true o) := fun i o e => by
        have hi : i < vs.length := by have := (List.getElem?_eq_some_iff.mp e).1; simp at hl; omega
        obtain ⟨z, _⟩ := ho (i + 1) o vs[i] (by simpa using e) (by simp [hi])
        simp at z
      have ih := fin_hl (ρs := as) (vs := vs) (σ' := []) (ρ' := []) (L := L) (C := (some v, .sh d) :: C) k (by simpa using hl) rfl (fun i o x e _ => absurd e (noow i o)) (fun i d x e e2 => hs (i + 1) d x (by simpa using e) (by simpa using e2)) (h.sh r)
      have hf : fin as [] = as := by cases as with
        | nil => rfl
        | cons a t => cases k with
          | sh _ => rfl
          | ow _ => exact absurd rfl (noow 0 _)
      rw [hf] at ih
      show HL K Hk H (C ++ (((v :: vs).map some).zip (.sh d :: as) ++ L))
      exact HL.unmid ih
    | cons b ρ' =>
      cases σ' with
      | nil => simp at hlen
      | cons x σ' =>
        have h1 : HL K Hk H (C ++ ((x, b) :: (σ'.zip ρ' ++ L))) := h
        have ih := fin_hl (ρs := as) (vs := vs) (σ' := σ') (ρ' := ρ') (L := L) (C := (some v, .sh d) :: C) k (by simpa using hl) (by simpa using hlen)
          (fun i o y e e2 => by simpa using ho (i + 1) o y (by simpa using e) (by simpa using e2)) (fun i d y e e2 => hs (i + 1) d y (by simpa using e) (by simpa using e2)) (h1.mid.tail.sh r)
        exact HL.unmid ih
  | .ow true o :: as, v :: vs, σ', ρ', L, C, .ow k, hl, hlen, ho, hs, h => by
    obtain ⟨e1, o', e2⟩ := ho 0 o v (by simp) (by simp)
    cases ρ' with
    | nil => simp at e2
    | cons b ρ' =>
      cases σ' with
      | nil => simp at e1
      | cons x σ' =>
        have eb : b = .ow true o' := by simpa using e2
        have ex : x = some v := by simpa using e1
        subst eb; subst ex
        have h1 : HL K Hk H (C ++ ((some v, .ow true o') :: (σ'.zip ρ' ++ L))) := h
        have ih := fin_hl (ρs := as) (vs := vs) (σ' := σ') (ρ' := ρ') (L := L) (C := (some v, .ow true o') :: C) k (by simpa using hl) (by simpa using hlen)
          (fun i o y e e2 => by simpa using ho (i + 1) o y (by simpa using e) (by simpa using e2)) (fun i d y e e2 => hs (i + 1) d y (by simpa using e) (by simpa using e2)) h1.mid
        exact HL.unmid ih
end
def uns : Nat → Rho
  | 0 => []
  | n + 1 => .un :: uns n
theorem uns_len : ∀ n, (uns n).length = n
  | 0 => rfl
  | n + 1 => by simp [uns, uns_len n]
section
variable {P : Program} {w : World} {K : PySem.W.Frag} {mg : Str → Option Value} {base : Heap}
theorem uns_hl {Hk H : Hp} {L : List Cell} : ∀ (n : Nat), HL K Hk H L → HL K Hk H ((List.replicate n (none : Option V)).zip (uns n) ++ L)
  | 0, h => h
  | n + 1, h => (uns_hl n h).un
/-- a def by the values' reading of its body -/
theorem fn_w {x qual : Str} {st : Stmt} {f : Addr} {fd : FuncData} {N ps : List Str} {k : Nat} {SS : VSp} {t : VS} (F : Fun K x qual st f fd) (S : FnScope N ps (defScope st)) (hps : ps.length ≤ N.length) (len : ∀ ρs R, SS ρs R → ρs.length = ps.length)
    (syn : ∀ (cdv : Value) (A : Around) (outer : List Env) (s : Shared) (H : Hp) (E : XK), Room k (A.deeper (envOfC qual (defScope st) s.heap.objs.size f cdv)) → PWSs (cxOf CX0 P w K mg base N qual (defScope st) f cdv A outer s H E).nox (defBody st) t)
    (rd : ∀ ρs R, SS ρs R → t { nx := fun ρ' => R (.sh .non) (fin ρs ρ'), rt := fun r ρ' => R r (fin ρs ρ') } (ρs ++ uns (N.length - ps.length))) : FnOk P w K mg base CX0 (k + 1) f fd ps (spV K SS) := by
  refine F.ok S (fun vs H Q E h => ?_) (fun cdv A outer s H vs Q E hr h => ?_)
  · obtain ⟨Hk, ρs, T, R, hl, _, _, hs, _⟩ := h
    rw [← hl]; exact len ρs R hs
  · obtain ⟨Hk, ρs, T, R, hl, hk, hh, hs, fin'⟩ := h
    have hn : ρs.length = ps.length := len ρs R hs
    refine ⟨_, pss_sem, ?_⟩
    have e0 : L2.start N vs = vs.map some ++ List.replicate (N.length - ps.length) none := by unfold L2.start; rw [← hl, hn]
    have h0 : Holds K Hk (ρs ++ uns (N.length - ps.length)) T (L2.start N vs) H := by
      refine ⟨by rw [e0]; simp [uns_len, hl], ?_⟩
      rw [e0, List.zip_append (by simp [hl])]
      rw [List.append_assoc]
      have h1 : HL K Hk H ((List.replicate (N.length - ps.length) (none : Option V)).zip (uns (N.length - ps.length)) ++ ((vs.map some).zip ρs ++ T)) := uns_hl _ hh
      refine h1.perm ?_
      rw [← List.append_assoc, ← List.append_assoc]
      exact List.perm_append_comm.append_right T
    have shs : ∀ (i : Nat) (d : D) (v : V), ρs[i]? = some (Slot.sh d) → vs[i]? = some v → Rep K Hk v d := fun i d v e1 e2 => by
      have hi : i < ρs.length := (List.getElem?_eq_some_iff.mp e1).1
      have e3 : (ρs ++ uns (N.length - ps.length))[i]? = some (Slot.sh d) := by rw [List.getElem?_append_left hi]; exact e1
      obtain ⟨v', e4, r⟩ := h0.get_sh e3
      have e5 : (L2.start N vs)[i]? = some (some v) := by rw [e0, List.getElem?_append_left (by simp; omega), List.getElem?_map, e2]; rfl
      rw [e5] at e4; cases e4; exact r
    have ends : ∀ v σ' H' Hk' ρ' r, Same Hk Hk' → Holds K Hk' ρ' ((some v, r) :: T) σ' H' → Kp (L2.start N vs) (ρs ++ uns (N.length - ps.length)) σ' ρ' → R r (fin ρs ρ') → Q v H' := fun v σ' H' Hk' ρ' r e1 h1 k1 q1 => by
      have ows : ∀ (i : Nat) (o : Own) (v : V), ρs[i]? = some (Slot.ow true o) → vs[i]? = some v → σ'[i]? = some (some v) ∧ ∃ o', ρ'[i]? = some (Slot.ow true o') := fun i o v e1 e2 => by
        have hi : i < ρs.length := (List.getElem?_eq_some_iff.mp e1).1
        exact k1 i o (some v) (by rw [List.getElem?_append_left hi]; exact e1) (by rw [e0, List.getElem?_append_left (by simp; omega), List.getElem?_map, e2]; rfl)
      refine fin' v H' Hk' (fin ρs ρ') r e1 (fin_kp hk fun i o e => ?_) ?_ q1
      · have hi : i < vs.length := by rw [← hl]; exact (List.getElem?_eq_some_iff.mp e).1
        exact (ows i o vs[i] e (List.getElem?_eq_getElem hi)).2
      · have h2 : HL K Hk' H' ([(some v, r)] ++ (σ'.zip ρ' ++ T)) := h1.hl.mid
        exact fin_hl hk hl h1.len ows (fun i d v e3 e4 => (shs i d v e3 e4).mono e1) h2
    refine (syn cdv A outer s H E hr).run _ _ Hk T _ H _ (rd ρs R hs) h0 ⟨fun σ' H' Hk' ρ' e h1 k1 q1 => ?_, fun v σ' H' Hk' ρ' r e h1 k1 q1 => ends v σ' H' Hk' ρ' r e h1 k1 q1, fun _ _ _ _ _ _ _ z => z.elim, fun _ _ _ _ _ _ _ z => z.elim⟩
    exact ends .non σ' H' Hk' ρ' _ e (h1.sh .non) k1 q1
end
end WL

set_option Elab.async false
set_option linter.all false
set_option maxRecDepth 100000
set_option maxHeartbeats 4000000
/-! W5: operators and built-ins over data. -/
namespace WL
open PySem PySem.Spec PyProof.Rows L2

section
variable {X : Cx}
theorem CallR.or {f : Value} {r r' : List V → Hp → VK → Prop} (h : CallR X f r) (h' : CallR X f r') : CallR X f (fun x H Q => r x H Q ∨ r' x H Q) := by
  intro pins s σ H vs us Q I rv q
  rcases q with q | q
  · exact h pins s σ H vs us Q I rv q
  · exact h' pins s σ H vs us Q I rv q

/-! ### + - * // % ** -/
def rCatS : R2 := fun x y H Q => ∃ i j, x = .str i ∧ y = .str j ∧ i.length + j.length ≤ sizeLine ∧ Q (.str (i ++ j)) H
def rAddA (K : PySem.W.Frag) : R2 := fun x y H Q => rI0 (fun i j => .int (i + j)) x y H Q ∨ (rCatS x y H Q ∨ (rCat x y H Q ∨ rCatA K x y H Q))
theorem op_addA : OpR X (binaryOp .Add) (rAddA X.K) := op_add.or (OpR.or op_add_str (op_cat.or op_catA))
def addP : Prim := fun ds R => match ds with
  | [.int i, .int j] => R (.val (.int (i + j)))
  | [.str x, .str y] => x.length + y.length ≤ sizeLine ∧ R (.val (.str (x ++ y)))
  | [.lst a, .lst b] => a.length + b.length ≤ sizeLine ∧ R (.newL (a ++ b))
  | [.tup a, .tup b] => a.length + b.length ≤ sizeLine ∧ R (.newT (a ++ b)) ∧ R (.val (.tup (a ++ b)))
  | _ => False
theorem ok_add : PrimOk2 X (rAddA X.K) addP := by
  intro Hk H x y dx dy P R ex vx vy q k
  unfold addP at q
  split at q
  · rename_i e; cases e
    exact .inl ⟨_, _, vx.int, vy.int, k _ q _ .int⟩
  · rename_i e; cases e
    exact .inr (.inl ⟨_, _, vx.str, vy.str, q.1, k _ q.2 _ .str⟩)
  · rename_i e; cases e
    obtain ⟨p, vs, rfl, hp, rp⟩ := vx.lst ex
    obtain ⟨p', vs', rfl, hp', rp'⟩ := vy.lst ex
    exact .inr (.inr (.inl ⟨_, _, _, _, rfl, rfl, hp, hp', by rw [rp.length, rp'.length]; exact q.1, fun a ha => k _ q.2 a _ ha (rp.append rp')⟩))
  · rename_i e; cases e
    obtain ⟨p, vs, rfl, hp, rp⟩ := vx.tup ex
    obtain ⟨p', vs', rfl, hp', rp'⟩ := vy.tup ex
    have kx : ∀ {d : List D} {a : Addr}, View X.K Hk H (.ref a) (.tup d) → Rep X.K Hk (.ref a) (.tup d) := fun {d a} h => by
      generalize e : D.tup d = z at h
      cases h with
      | known r => exact r
      | own r => cases r <;> cases e
    refine .inr (.inr (.inr ⟨_, _, _, _, rfl, rfl, .of hp, .of hp', by rw [rp.length, rp'.length]; exact q.1, fun e0 => ?_, fun _ e1 => ?_, fun _ _ a ha => k _ q.2.1 a _ ha (rp.append rp')⟩))
    · have := k _ q.2.2 (.ref p')
      subst e0; cases rp
      exact this (kx vy)
    · have := k _ q.2.2 (.ref p)
      subst e1; cases rp'
      rw [List.append_nil] at this
      exact this (kx vx)
  · exact q.elim
def subP : Prim := fun ds R => match ds with
  | [.int i, .int j] => R (.val (.int (i - j)))
  | _ => False
theorem ok_sub : PrimOk2 X (rI0 fun i j => .int (i - j)) subP := by
  intro Hk H x y dx dy P R ex vx vy q k
  unfold subP at q
  split at q
  · rename_i e; cases e
    exact ⟨_, _, vx.int, vy.int, k _ q _ .int⟩
  · exact q.elim
def mulP : Prim := fun ds R => match ds with
  | [.int i, .int j] => (CMul i j ∨ CMulW i j) ∧ R (.val (.int (i * j)))
  | [.lst a, .int n] => (-(2 ^ 63) ≤ n ∧ n < 2 ^ 63 ∧ a.length * n.toNat ≤ sizeLine) ∧ R (.newL (List.replicate n.toNat a).flatten)
  | _ => False
theorem Reps.rep {K : PySem.W.Frag} {H : Hp} {vs : List V} {ds : List D} (r : Reps K H vs ds) : ∀ n : Nat, Reps K H (List.replicate n vs).flatten (List.replicate n ds).flatten
  | 0 => .nil
  | n + 1 => by rw [List.replicate_succ, List.replicate_succ]; exact r.append (Reps.rep r n)
def rMulA : R2 := fun x y H Q => rI CMul (fun i j => .int (i * j)) x y H Q ∨ (rI CMulW (fun i j => .int (i * j)) x y H Q ∨ rRep x y H Q)
theorem ok_mul : PrimOk2 X rMulA mulP := by
  intro Hk H x y dx dy P R ex vx vy q k
  unfold mulP at q
  split at q
  · rename_i e; cases e
    rcases q.1 with q1 | q1
    · exact .inl ⟨_, _, vx.int, vy.int, q1, k _ q.2 _ .int⟩
    · exact .inr (.inl ⟨_, _, vx.int, vy.int, q1, k _ q.2 _ .int⟩)
  · rename_i e; cases e
    obtain ⟨p, vs, rfl, hp, rp⟩ := vx.lst ex
    exact .inr (.inr ⟨_, _, _, rfl, vy.int, hp, q.1.1, q.1.2.1, by rw [rp.length]; exact q.1.2.2, fun a ha => k _ q.2 a _ ha (rp.rep _)⟩)
  · exact q.elim
theorem op_mulA : OpR X (binaryOp .Mult) rMulA := op_mul.or (OpR.or op_mulW op_rep)
def modP : Prim := fun ds R => match ds with
  | [.int i, .int j] => 0 < j ∧ R (.val (.int (i % j)))
  | _ => False
theorem ok_mod : PrimOk2 X (rI (fun _ j => 0 < j) fun i j => .int (i % j)) modP := by
  intro Hk H x y dx dy P R ex vx vy q k
  unfold modP at q
  split at q
  · rename_i e; cases e
    exact ⟨_, _, vx.int, vy.int, q.1, k _ q.2 _ .int⟩
  · exact q.elim
def divP : Prim := fun ds R => match ds with
  | [.int i, .int j] => (CDiv i j ∨ CDivW i j) ∧ R (.val (.int (i / j)))
  | _ => False
def rDivA : R2 := fun x y H Q => rI CDiv (fun i j => .int (i / j)) x y H Q ∨ rI CDivW (fun i j => .int (i / j)) x y H Q
theorem op_divA : OpR X (binaryOp .FloorDiv) rDivA := op_fdiv.or op_fdivW
theorem ok_div : PrimOk2 X rDivA divP := by
  intro Hk H x y dx dy P R ex vx vy q k
  unfold divP at q
  split at q
  · rename_i e; cases e
    rcases q.1 with q1 | q1
    · exact .inl ⟨_, _, vx.int, vy.int, q1, k _ q.2 _ .int⟩
    · exact .inr ⟨_, _, vx.int, vy.int, q1, k _ q.2 _ .int⟩
  · exact q.elim
def powP : Prim := fun ds R => match ds with
  | [.int i, .int j] => CPow i j ∧ R (.val (.int (i ^ j.toNat)))
  | _ => False
theorem ok_pow : PrimOk2 X (rI CPow fun i j => .int (i ^ j.toNat)) powP := by
  intro Hk H x y dx dy P R ex vx vy q k
  unfold powP at q
  split at q
  · rename_i e; cases e
    exact ⟨_, _, vx.int, vy.int, q.1, k _ q.2 _ .int⟩
  · exact q.elim
def negP : Prim := fun ds R => match ds with
  | [.int i] => R (.val (.int (-i)))
  | _ => False
theorem ok_neg : PrimOk1 X (rU fun i => .int (-i)) negP := by
  intro Hk H x dx P R ex vx q k
  unfold negP at q
  split at q
  · rename_i e; cases e
    exact ⟨_, vx.int, k _ q _ .int⟩
  · exact q.elim

/-! ### order -/
def rLtA : R2 := fun x y H Q => rI0 (fun i j => .bl (decide (i < j))) x y H Q ∨ ∃ i j, x = .str i ∧ y = .str j ∧ Q (.bl (decide (i.cps.toList < j.cps.toList))) H
theorem op_ltA : OpR X (compareOp .Lt) rLtA := op_lt.or op_lt_str
def ltP : Prim := fun ds R => match ds with
  | [.int i, .int j] => R (.val (.bl (decide (i < j))))
  | [.str x, .str y] => R (.val (.bl (decide (x.cps.toList < y.cps.toList))))
  | _ => False
theorem ok_lt : PrimOk2 X rLtA ltP := by
  intro Hk H x y dx dy P R ex vx vy q k
  unfold ltP at q
  split at q
  · rename_i e; cases e
    exact .inl ⟨_, _, vx.int, vy.int, k _ q _ .bl⟩
  · rename_i e; cases e
    exact .inr ⟨_, _, vx.str, vy.str, k _ q _ .bl⟩
  · exact q.elim
def leP : Prim := fun ds R => match ds with
  | [.int i, .int j] => R (.val (.bl (decide (i ≤ j))))
  | _ => False
theorem ok_le : PrimOk2 X (rI0 fun i j => .bl (decide (i ≤ j))) leP := by
  intro Hk H x y dx dy P R ex vx vy q k
  unfold leP at q
  split at q
  · rename_i e; cases e
    exact ⟨_, _, vx.int, vy.int, k _ q _ .bl⟩
  · exact q.elim
def geP : Prim := fun ds R => match ds with
  | [.int i, .int j] => R (.val (.bl (decide (j ≤ i))))
  | _ => False
theorem ok_ge : PrimOk2 X (rI0 fun i j => .bl (decide (j ≤ i))) geP := by
  intro Hk H x y dx dy P R ex vx vy q k
  unfold geP at q
  split at q
  · rename_i e; cases e
    exact ⟨_, _, vx.int, vy.int, k _ q _ .bl⟩
  · exact q.elim
theorem op_gt_strW : OpR X (compareOp .Gt) (fun x y H Q => ∃ i j, x = .str i ∧ y = .str j ∧ Q (.bl (decide (j.cps.toList < i.cps.toList))) H) := op_gt_str
def rGtA : R2 := fun x y H Q => rI0 (fun i j => .bl (decide (j < i))) x y H Q ∨ ∃ i j, x = .str i ∧ y = .str j ∧ Q (.bl (decide (j.cps.toList < i.cps.toList))) H
theorem op_gtA : OpR X (compareOp .Gt) rGtA := op_gt.or op_gt_str
def gtP : Prim := fun ds R => match ds with
  | [.int i, .int j] => R (.val (.bl (decide (j < i))))
  | [.str x, .str y] => R (.val (.bl (decide (y.cps.toList < x.cps.toList))))
  | _ => False
theorem ok_gt : PrimOk2 X rGtA gtP := by
  intro Hk H x y dx dy P R ex vx vy q k
  unfold gtP at q
  split at q
  · rename_i e; cases e
    exact .inl ⟨_, _, vx.int, vy.int, k _ q _ .bl⟩
  · rename_i e; cases e
    exact .inr ⟨_, _, vx.str, vy.str, k _ q _ .bl⟩
  · exact q.elim

/-! ### == != -/
mutual
def toPy : D → Option PyData
  | .non => some .none
  | .bl b => some (.bool b)
  | .int i => some (.int i)
  | .str x => some (.str x)
  | .lst ds => (toPys ds).map .list
  | .tup ds => (toPys ds).map .tuple
  | .fls ds => (toPys ds).map .list
  | .ftp ds => (toPys ds).map .tuple
  | _ => none
def toPys : List D → Option (List PyData)
  | [] => some []
  | d :: ds => match toPy d, toPys ds with
    | some p, some ps => some (p :: ps)
    | _, _ => none
end
mutual
theorem Rep.dp {K : PySem.W.Frag} {H : Hp} : ∀ {v : V} {d : D} {p : PyData}, Rep K H v d → toPy d = some p → Dp K H v p
  | _, _, p, .non, e => by unfold toPy at e; cases e; exact .non
  | _, _, p, .bl, e => by unfold toPy at e; cases e; exact .bl _
  | _, _, p, .int, e => by unfold toPy at e; cases e; exact .int _
  | _, _, p, .str, e => by unfold toPy at e; cases e; exact .str _
  | _, _, p, .lst h r, e => by
    unfold toPy at e
    obtain ⟨ps, hp, ep⟩ := Option.map_eq_some_iff.mp e
    subst ep
    exact .lst (.of h) (Reps.dp r hp)
  | _, _, p, .tup h r, e => by
    unfold toPy at e
    obtain ⟨ps, hp, ep⟩ := Option.map_eq_some_iff.mp e
    subst ep
    exact .tup (.of h) (Reps.dp r hp)
  | _, _, p, .fls h r, e => by
    unfold toPy at e
    obtain ⟨ps, hp, ep⟩ := Option.map_eq_some_iff.mp e
    subst ep
    exact .lst h (Reps.dp r hp)
  | _, _, p, .ftp h r, e => by
    unfold toPy at e
    obtain ⟨ps, hp, ep⟩ := Option.map_eq_some_iff.mp e
    subst ep
    exact .tup h (Reps.dp r hp)
  | _, _, p, .dct _ _, e => by unfold toPy at e; cases e
  | _, _, p, .dcT _ _, e => by unfold toPy at e; cases e
  | _, _, p, .opq, e => by unfold toPy at e; cases e
theorem Reps.dp {K : PySem.W.Frag} {H : Hp} : ∀ {vs : List V} {ds : List D} {ps : List PyData}, Reps K H vs ds → toPys ds = some ps → DpAll K H vs ps
  | _, _, ps, .nil, e => by unfold toPys at e; cases e; exact .nil
  | _, _, ps, .cons h t, e => by
    unfold toPys at e
    split at e
    · rename_i p ps' h1 h2
      cases e
      exact .cons (Rep.dp h h1) (Reps.dp t h2)
    · cases e
end
theorem View.dp {K : PySem.W.Frag} {Hk H : Hp} {v : V} {d : D} {p : PyData} (ex : Same Hk H) (h : View K Hk H v d) (e : toPy d = some p) : Dp K H v p := by
  cases h with
  | known r => exact (r.mono ex).dp e
  | own r =>
    cases r with
    | lst h r =>
      have e' : toPy (.lst _) = some p := e
      unfold toPy at e'
      obtain ⟨ps, hp, ep⟩ := Option.map_eq_some_iff.mp e'
      subst ep
      exact .lst (.of h) ((r.mono ex).dp hp)
    | dct h r => have e' : toPy (.dct _) = some p := e; unfold toPy at e'; cases e'
    | dcT h r => have e' : toPy (.dcT _) = some p := e; unfold toPy at e'; cases e'
/-! dicts compared -/
def lookK {κ α : Type} [DecidableEq κ] (kvs : List (κ × α)) (k : κ) : Option α := (kvs.find? fun kv => decide (kv.1 = k)).map (·.2)
section
variable {K : PySem.W.Frag} {H : Hp}
theorem RepK.look : ∀ {vs : List (Key × V)} {ds : List (Key × D)} {k : Key}, RepK K H vs ds → (valV vs k = none ∧ lookK ds k = none) ∨ ∃ v d, valV vs k = some v ∧ lookK ds k = some d ∧ Rep K H v d
  | _, _, k, .nil => .inl ⟨rfl, rfl⟩
  | _, _, k, .cons (k := j) (vs := vs) (ds := ds) h t => by
    by_cases e : j = k
    · subst e
      exact .inr ⟨_, _, by simp [valV], by simp [lookK], h⟩
    · rcases t.look (k := k) with ⟨h1, h2⟩ | ⟨v, d, h1, h2, r⟩
      · exact .inl ⟨by simpa [valV, e] using h1, by simpa [lookK, e] using h2⟩
      · exact .inr ⟨v, d, by simpa [valV, e] using h1, by simpa [lookK, e] using h2, r⟩
theorem RepK.len : ∀ {vs : List (Key × V)} {ds : List (Key × D)}, RepK K H vs ds → vs.length = ds.length
  | _, _, .nil => rfl
  | _, _, .cons _ t => by simp [RepK.len t]
end
/-- what the walk over the first dict's entries says -/
inductive HitsE (ls : List (Key × D)) : List (Key × D) → Bool → Prop
  | nil : HitsE ls [] true
  | miss {k v r} (h : lookK ls k = none) : HitsE ls ((k, v) :: r) false
  | hit {k v u d e r b} (h : lookK ls k = some u) (hd : toPy v = some d) (he : toPy u = some e) (sd : SeqAt.shaped d = true) (se : SeqAt.shaped e = true) (dd : d.depth ≤ 60) (t : HitsE ls r b) : HitsE ls ((k, v) :: r) (PyData.eqv d e && b)
inductive HitsV (K : PySem.W.Frag) (H : Hp) (ls : List (Key × V)) : List (Key × V) → Bool → Prop
  | nil : HitsV K H ls [] true
  | miss {k v r} (h : valV ls k = none) : HitsV K H ls ((k, v) :: r) false
  | hit {k v u d e r b} (h : valV ls k = some u) (hd : Dp K H v d) (he : Dp K H u e) (sd : SeqAt.shaped d = true) (se : SeqAt.shaped e = true) (dd : d.depth ≤ 60) (t : HitsV K H ls r b) : HitsV K H ls ((k, v) :: r) (PyData.eqv d e && b)
theorem hitsV_of {K : PySem.W.Frag} {H : Hp} {lv : List (Key × V)} {ls : List (Key × D)} (rl : RepK K H lv ls) {ks : List (Key × D)} {r : Bool} (h : HitsE ls ks r) : ∀ {kv : List (Key × V)}, RepK K H kv ks → HitsV K H lv kv r := by
  induction h with
  | nil => intro kv rk; cases rk; exact .nil
  | miss h =>
    intro kv rk
    cases rk with
    | cons rv rt =>
      rename_i k v r v' vs
      rcases rl.look (k := k) with ⟨h1, _⟩ | ⟨_, _, _, h2, _⟩
      · exact .miss h1
      · rw [h] at h2; cases h2
  | hit h hd he sd se dd t ih =>
    intro kv rk
    cases rk with
    | cons rv rt =>
      rcases rl.look (k := _) with ⟨_, h2⟩ | ⟨u', d', h1, h2, ru⟩
      · rw [h] at h2; cases h2
      · rw [h] at h2
        cases h2
        exact .hit h1 (rv.dp hd) (ru.dp he) sd se dd (ih rt)
theorem hits_vals {X : Cx} {pins : List (Addr × Obj)} {σ : L2.St} {H : Hp} {s : Shared} (I : Inv X pins σ H s) {A : Around} (hu : A.units + 60 < cLine) {ls : List (Key × V)} {vb : List (Key × Value)} (rb : KV ls vb) {ks : List (Key × V)} {r : Bool} (h : HitsV X.K H ls ks r) :
    ∀ {va : List (Key × Value)}, KV ks va → PySem.W.KeqHits A s vb va r := by
  induction h with
  | nil => intro va ra; cases ra; exact .nil
  | miss h =>
    intro va ra
    cases ra with
    | cons z t =>
      rename_i q _
      obtain ⟨k, w⟩ := q
      obtain ⟨e, _⟩ := z
      have e' : _ = k := e
      have hv := rb.val k
      rw [← e', h] at hv
      exact .miss (by rw [← e']; cases hq : valueAt vb _ with
        | none => rfl
        | some y => rw [hq] at hv; cases hv)
  | hit h hd he sd se dd t ih =>
    intro va ra
    cases ra with
    | cons z t =>
      rename_i q _
      obtain ⟨k, w⟩ := q
      obtain ⟨e, rw'⟩ := z
      have e' : _ = k := e
      have hv := rb.val k
      rw [← e', h] at hv
      obtain ⟨y, hy, ry⟩ := hv.some_of
      rw [e'] at hy
      obtain ⟨as, r1⟩ := Dp.reads I _ _ w hd rw'
      obtain ⟨bs, r2⟩ := Dp.reads I _ _ y he ry
      refine .hit hy (SeqAt.eqAt_reads _ _ A s w y as bs r1 r2 (SeqAt.canLay_of_shaped sd) (SeqAt.canLay_of_shaped se) ?_) (ih t)
      exact Nat.lt_of_le_of_lt (Nat.add_le_add_left (Nat.le_trans (Nat.min_le_left _ _) dd) _) hu
def rEqK (K : PySem.W.Frag) : R2 := fun x y H Q => ∃ a b ks ls r, x = .ref a ∧ y = .ref b ∧ Rd H a (.dK ks) ∧ Rd H b (.dK ls) ∧ HitsV K H ls ks r ∧ Q (.bl (ks.length == ls.length && r)) H
def rNeK (K : PySem.W.Frag) : R2 := fun x y H Q => ∃ a b ks ls r, x = .ref a ∧ y = .ref b ∧ Rd H a (.dK ks) ∧ Rd H b (.dK ls) ∧ HitsV K H ls ks r ∧ Q (.bl (!(ks.length == ls.length && r))) H
section
variable {X : Cx}
theorem op_eqK (hu : X.A.units + 64 < cLine) : OpR X (compareOp .Eq) (rEqK X.K) := by
  intro pins s σ H x y v u Q I rx ry ⟨a, b, ks, ls, r, ex, ey, ha, hb, hh, q⟩
  subst ex; subst ey
  cases rx; cases ry
  obtain ⟨_, na, va, ra, da⟩ := dk_rd I.hok ha
  obtain ⟨_, nb, vb, rb, db⟩ := dk_rd I.hok hb
  refine PySem.W.keq_eq (knd := mixKind X.prog X.w) (r := r) na nb da db (by omega) (fun _ => hits_vals I (by show X.A.units + 1 + 60 < cLine; omega) rb hh ra) ⟨.bl _, H, I, ?_, q⟩
  rw [ra.length, rb.length]; rfl
theorem op_neK (hu : X.A.units + 64 < cLine) : OpR X (compareOp .NotEq) (rNeK X.K) := by
  intro pins s σ H x y v u Q I rx ry ⟨a, b, ks, ls, r, ex, ey, ha, hb, hh, q⟩
  subst ex; subst ey
  cases rx; cases ry
  obtain ⟨_, na, va, ra, da⟩ := dk_rd I.hok ha
  obtain ⟨_, nb, vb, rb, db⟩ := dk_rd I.hok hb
  refine PySem.W.keq_ne (knd := mixKind X.prog X.w) (r := r) na nb da db (by omega) (fun _ => hits_vals I (by show X.A.units + 1 + 60 < cLine; omega) rb hh ra) ⟨.bl _, H, I, ?_, q⟩
  rw [ra.length, rb.length]; rfl
end
def eqP : Prim := fun ds R => match ds with
  | [.int i, .int j] => R (.val (.bl (decide (i = j))))
  | [.str x, .str y] => R (.val (.bl (decide (x = y))))
  | [.bl x, .bl y] => R (.val (.bl (decide (x = y))))
  | [.non, .non] => R (.val (.bl true))
  | [.dct ks, .dct ls] => ∃ r, HitsE ls ks r ∧ R (.val (.bl (ks.length == ls.length && r)))
  | [a, b] => ∃ d e, toPy a = some d ∧ toPy b = some e ∧ SeqAt.shaped d = true ∧ SeqAt.shaped e = true ∧ R (.val (.bl (PyData.eqv d e)))
  | _ => False
def rEqA (K : PySem.W.Frag) : R2 := fun x y H Q => (rEq x y H Q ∨ rEqD K x y H Q) ∨ rEqK K x y H Q
theorem op_eqA (hu : X.A.units + 64 < cLine) : OpR X (compareOp .Eq) (rEqA X.K) := (op_eq.or (op_eqD hu)).or (op_eqK hu)
theorem dec_inj {α β : Type} [DecidableEq α] [DecidableEq β] {f : α → β} (h : ∀ a b, f a = f b → a = b) (a b : α) : decide (f a = f b) = decide (a = b) := by
  by_cases e : a = b
  · subst e; simp
  · rw [decide_eq_false e, decide_eq_false fun z => e (h a b z)]
theorem ok_eq : PrimOk2 X (rEqA X.K) eqP := by
  intro Hk H x y dx dy P R ex vx vy q k
  unfold eqP at q
  split at q
  · rename_i e; cases e
    rw [vx.int, vy.int]
    exact .inl (.inl ⟨rfl, by rw [dec_inj (f := V.int) fun _ _ z => by injection z]; exact k _ q _ .bl⟩)
  · rename_i e; cases e
    rw [vx.str, vy.str]
    exact .inl (.inl ⟨rfl, by rw [dec_inj (f := V.str) fun _ _ z => by injection z]; exact k _ q _ .bl⟩)
  · rename_i e; cases e
    rw [vx.bl, vy.bl]
    exact .inl (.inl ⟨rfl, by rw [dec_inj (f := V.bl) fun _ _ z => by injection z]; exact k _ q _ .bl⟩)
  · rename_i e; cases e
    rw [vx.non, vy.non]
    exact .inl (.inl ⟨rfl, k _ q _ .bl⟩)
  · rename_i e; cases e
    obtain ⟨r, hr, q⟩ := q
    obtain ⟨a, ks, rfl, ha, ra⟩ := vx.dct ex
    obtain ⟨b, ls, rfl, hb, rb⟩ := vy.dct ex
    refine .inr ⟨a, b, ks, ls, r, rfl, rfl, ha, hb, hitsV_of (rb.mono ex) hr (ra.mono ex), ?_⟩
    rw [ra.len, rb.len]
    exact k _ q _ .bl
  · rename_i e; cases e
    obtain ⟨d, e, hd, he, sd, se, q⟩ := q
    exact .inl (.inr ⟨d, e, vx.dp ex hd, vy.dp ex he, sd, se, k _ q _ .bl⟩)
  · exact q.elim
def neP : Prim := fun ds R => match ds with
  | [.int i, .int j] => R (.val (.bl (!decide (i = j))))
  | [.str x, .str y] => R (.val (.bl (!decide (x = y))))
  | [.bl x, .bl y] => R (.val (.bl (!decide (x = y))))
  | [.non, .non] => R (.val (.bl false))
  | [.dct ks, .dct ls] => ∃ r, HitsE ls ks r ∧ R (.val (.bl (!(ks.length == ls.length && r))))
  | [a, b] => ∃ d e, toPy a = some d ∧ toPy b = some e ∧ SeqAt.shaped d = true ∧ SeqAt.shaped e = true ∧ R (.val (.bl (!PyData.eqv d e)))
  | _ => False
def rNeA (K : PySem.W.Frag) : R2 := fun x y H Q => (rNe x y H Q ∨ rNeD K x y H Q) ∨ rNeK K x y H Q
theorem op_neA (hu : X.A.units + 64 < cLine) : OpR X (compareOp .NotEq) (rNeA X.K) := (op_ne.or (op_neD hu)).or (op_neK hu)
theorem ok_ne : PrimOk2 X (rNeA X.K) neP := by
  intro Hk H x y dx dy P R ex vx vy q k
  unfold neP at q
  split at q
  · rename_i e; cases e
    rw [vx.int, vy.int]
    exact .inl (.inl ⟨rfl, by rw [dec_inj (f := V.int) fun _ _ z => by injection z]; exact k _ q _ .bl⟩)
  · rename_i e; cases e
    rw [vx.str, vy.str]
    exact .inl (.inl ⟨rfl, by rw [dec_inj (f := V.str) fun _ _ z => by injection z]; exact k _ q _ .bl⟩)
  · rename_i e; cases e
    rw [vx.bl, vy.bl]
    exact .inl (.inl ⟨rfl, by rw [dec_inj (f := V.bl) fun _ _ z => by injection z]; exact k _ q _ .bl⟩)
  · rename_i e; cases e
    rw [vx.non, vy.non]
    exact .inl (.inl ⟨rfl, k _ q _ .bl⟩)
  · rename_i e; cases e
    obtain ⟨r, hr, q⟩ := q
    obtain ⟨a, ks, rfl, ha, ra⟩ := vx.dct ex
    obtain ⟨b, ls, rfl, hb, rb⟩ := vy.dct ex
    refine .inr ⟨a, b, ks, ls, r, rfl, rfl, ha, hb, hitsV_of (rb.mono ex) hr (ra.mono ex), ?_⟩
    rw [ra.len, rb.len]
    exact k _ q _ .bl
  · rename_i e; cases e
    obtain ⟨d, e, hd, he, sd, se, q⟩ := q
    exact .inl (.inr ⟨d, e, vx.dp ex hd, vy.dp ex he, sd, se, k _ q _ .bl⟩)
  · exact q.elim
/-- is None -/
def isNP : Prim := fun ds R => match ds with
  | [.non, .non] => R (.val (.bl true))
  | [.int _, .non] => R (.val (.bl false))
  | [.str _, .non] => R (.val (.bl false))
  | [.bl _, .non] => R (.val (.bl false))
  | [.lst _, .non] => R (.val (.bl false))
  | [.tup _, .non] => R (.val (.bl false))
  | [.dct _, .non] => R (.val (.bl false))
  | _ => False
def notNP : Prim := fun ds R => isNP ds fun r => match r with | .val (.bl b) => R (.val (.bl (!b))) | _ => False
theorem ok_isN : PrimOk2 X (fun x y H Q => y = .non ∧ Q (.bl (decide (x = .non))) H) isNP := by
  intro Hk H x y dx dy P R ex vx vy q k
  unfold isNP at q
  split at q <;> first
    | (rename_i e; cases e; refine ⟨vy.non, ?_⟩; first
        | (rw [vx.non]; exact k _ q _ .bl)
        | (rw [vx.int]; exact k _ q _ .bl)
        | (rw [vx.str]; exact k _ q _ .bl)
        | (rw [vx.bl]; exact k _ q _ .bl)
        | (obtain ⟨p, vs, rfl, hp, rp⟩ := vx.lst ex; exact k _ q _ .bl)
        | (obtain ⟨p, vs, rfl, hp, rp⟩ := vx.tup ex; exact k _ q _ .bl)
        | (obtain ⟨p, vs, rfl, hp, rp⟩ := vx.dct ex; exact k _ q _ .bl))
    | exact q.elim
theorem ok_notN : PrimOk2 X (fun x y H Q => y = .non ∧ Q (.bl (!decide (x = .non))) H) notNP := by
  intro Hk H x y dx dy P R ex vx vy q k
  unfold notNP isNP at q
  split at q <;> first
    | (rename_i e; cases e; refine ⟨vy.non, ?_⟩; first
        | (rw [vx.non]; exact k _ q _ .bl)
        | (rw [vx.int]; exact k _ q _ .bl)
        | (rw [vx.str]; exact k _ q _ .bl)
        | (rw [vx.bl]; exact k _ q _ .bl)
        | (obtain ⟨p, vs, rfl, hp, rp⟩ := vx.lst ex; exact k _ q _ .bl)
        | (obtain ⟨p, vs, rfl, hp, rp⟩ := vx.tup ex; exact k _ q _ .bl)
        | (obtain ⟨p, vs, rfl, hp, rp⟩ := vx.dct ex; exact k _ q _ .bl))
    | exact q.elim
/-- x += y, x -= y by values: ints, texts -/
def rIAdd : R2 := fun x y H Q => rI0 (fun i j => .int (i + j)) x y H Q ∨ rCatS x y H Q
theorem ip_addA : PIp X .Add rIAdd := by
  intro pins s σ H x y v u Q I rx ry q
  rcases q with q | q
  · exact iop_add pins s σ H x y v u Q I rx ry q
  · exact iop_add_str pins s σ H x y v u Q I rx ry q
theorem ip_subA : PIp X .Sub (rI0 fun i j => .int (i - j)) := fun pins s σ H x y v u Q I rx ry q => iop_sub pins s σ H x y v u Q I rx ry q
def iaddP : Prim := fun ds R => match ds with
  | [.int i, .int j] => R (.val (.int (i + j)))
  | [.str x, .str y] => x.length + y.length ≤ sizeLine ∧ R (.val (.str (x ++ y)))
  | _ => False
theorem ok_iadd : PrimOk2 X rIAdd iaddP := by
  intro Hk H x y dx dy P R ex vx vy q k
  unfold iaddP at q
  split at q
  · rename_i e; cases e
    exact .inl ⟨_, _, vx.int, vy.int, k _ q _ .int⟩
  · rename_i e; cases e
    exact .inr ⟨_, _, vx.str, vy.str, q.1, k _ q.2 _ .str⟩
  · exact q.elim
end
end WL

set_option Elab.async false
set_option linter.all false
set_option maxRecDepth 100000
set_option maxHeartbeats 4000000
/-! W6: in, subscripts, slices, len and other built-ins, changes of own lists and dicts. -/
namespace WL
open PySem PySem.Spec PyProof.Rows L2

/-! ### keys, flat data -/
def flat1 : D → Option V
  | .non => some .non
  | .bl b => some (.bl b)
  | .int i => some (.int i)
  | .str x => some (.str x)
  | _ => none
def flatL : List D → Option (List V)
  | [] => some []
  | d :: ds => match flat1 d, flatL ds with
    | some v, some vs => some (v :: vs)
    | _, _ => none
def keyD : D → Option Key
  | .int i => some (.inl i)
  | .str x => some (.inr x)
  | _ => none
def dK : Key → D
  | .inl i => .int i
  | .inr x => .str x
def keyL : List D → Option (List Key)
  | [] => some []
  | d :: ds => match keyD d, keyL ds with
    | some v, some vs => some (v :: vs)
    | _, _ => none
section
variable {K : PySem.W.Frag} {H : Hp}
theorem Rep.flat {v w : V} {d : D} (h : Rep K H v d) (e : flat1 d = some w) : v = w ∧ flatV w = true := by
  cases h <;> simp [flat1] at e <;> subst e <;> exact ⟨rfl, rfl⟩
theorem Reps.flat : ∀ {vs ws : List V} {ds : List D}, Reps K H vs ds → flatL ds = some ws → vs = ws ∧ ws.all flatV = true
  | _, _, _, .nil, e => by cases e; exact ⟨rfl, rfl⟩
  | _, _, _, .cons h t, e => by
    unfold flatL at e
    split at e
    · rename_i v vs h1 h2
      cases e
      obtain ⟨e1, f1⟩ := h.flat h1
      obtain ⟨e2, f2⟩ := t.flat h2
      subst e1; subst e2
      exact ⟨rfl, by rw [List.all_cons, f1, f2]; rfl⟩
    · cases e
theorem View.flat {Hk : Hp} {v w : V} {d : D} (h : View K Hk H v d) (e : flat1 d = some w) : v = w ∧ flatV w = true := by
  cases h with
  | known r => exact r.flat e
  | own r => cases r <;> cases e
theorem Rep.key {v : V} {d : D} {k : Key} (h : Rep K H v d) (e : keyD d = some k) : v = kV k := by
  cases h <;> simp [keyD] at e <;> subst e <;> rfl
theorem View.key {Hk : Hp} {v : V} {d : D} {k : Key} (h : View K Hk H v d) (e : keyD d = some k) : v = kV k := by
  cases h with
  | known r => exact r.key e
  | own r => cases r <;> cases e
theorem Reps.keys : ∀ {vs : List V} {ds : List D} {ks : List Key}, Reps K H vs ds → keyL ds = some ks → vs = ks.map kV
  | _, _, _, .nil, e => by cases e; rfl
  | _, _, _, .cons h t, e => by
    unfold keyL at e
    split at e
    · rename_i v vs h1 h2
      cases e
      rw [h.key h1, t.keys h2]; rfl
    · cases e
theorem RepT.look : ∀ {vs : List (List Key × V)} {ds : List (List Key × D)} {k : List Key}, RepT K H vs ds → (valV vs k = none ∧ lookK ds k = none) ∨ ∃ v d, valV vs k = some v ∧ lookK ds k = some d ∧ Rep K H v d
  | _, _, k, .nil => .inl ⟨rfl, rfl⟩
  | _, _, k, .cons (k := j) (vs := vs) (ds := ds) h t => by
    by_cases e : j = k
    · subst e
      exact .inr ⟨_, _, by simp [valV], by simp [lookK], h⟩
    · rcases t.look (k := k) with ⟨h1, h2⟩ | ⟨v, d, h1, h2, r⟩
      · exact .inl ⟨by simpa [valV, e] using h1, by simpa [lookK, e] using h2⟩
      · exact .inr ⟨v, d, by simpa [valV, e] using h1, by simpa [lookK, e] using h2, r⟩
theorem RepK.isSome {vs : List (Key × V)} {ds : List (Key × D)} {k : Key} (r : RepK K H vs ds) : (valV vs k).isSome = (lookK ds k).isSome := by
  rcases r.look (k := k) with ⟨h1, h2⟩ | ⟨v, d, h1, h2, r⟩ <;> rw [h1, h2] <;> rfl
theorem RepT.isSome {vs : List (List Key × V)} {ds : List (List Key × D)} {k : List Key} (r : RepT K H vs ds) : (valV vs k).isSome = (lookK ds k).isSome := by
  rcases r.look (k := k) with ⟨h1, h2⟩ | ⟨v, d, h1, h2, r⟩ <;> rw [h1, h2] <;> rfl
theorem RepK.length : ∀ {vs : List (Key × V)} {ds : List (Key × D)}, RepK K H vs ds → vs.length = ds.length
  | _, _, .nil => rfl
  | _, _, .cons _ t => by simp [RepK.length t]
theorem RepT.length : ∀ {vs : List (List Key × V)} {ds : List (List Key × D)}, RepT K H vs ds → vs.length = ds.length
  | _, _, .nil => rfl
  | _, _, .cons _ t => by simp [RepT.length t]
theorem RepK.keys : ∀ {vs : List (Key × V)} {ds : List (Key × D)}, RepK K H vs ds → vs.map (·.1) = ds.map (·.1)
  | _, _, .nil => rfl
  | _, _, .cons _ t => by simp [RepK.keys t]
end

/-! ### in -/
section
variable {X : Cx}
def rDIn (b : Bool) : R2 := fun y x H Q => ∃ a o, x = .ref a ∧ DGet H a y o ∧ Q (.bl (if b then !o.isSome else o.isSome)) H
theorem op_din (hu : X.A.units + 1 < cLine) : OpR X (compareOp .In) (rDIn false) := by
  intro pins s σ H y x u v Q I ry rx h
  obtain ⟨a, o, e, g, q⟩ := h
  subst e
  cases rx
  exact d_in hu I g ry fun s3 I3 => ⟨.bl o.isSome, H, I3, rfl, q⟩
theorem op_dnotin (hu : X.A.units + 1 < cLine) : OpR X (compareOp .NotIn) (rDIn true) := by
  intro pins s σ H y x u v Q I ry rx h
  obtain ⟨a, o, e, g, q⟩ := h
  subst e
  cases rx
  exact d_notIn hu I g ry fun s3 I3 => ⟨.bl (!o.isSome), H, I3, rfl, q⟩
def rInA (K : PySem.W.Frag) (b : Bool) : R2 := fun x y H Q => rIn K b x y H Q ∨ rDIn b x y H Q
theorem op_inA (hu : X.A.units + 1 < cLine) : OpR X (compareOp .In) (rInA X.K false) := op_in_seq.or (op_din hu)
theorem op_notinA (hu : X.A.units + 1 < cLine) : OpR X (compareOp .NotIn) (rInA X.K true) := op_notIn_seq.or (op_dnotin hu)
def ifN (b k : Bool) : Bool := if b then !k else k
def inP (b : Bool) : Prim := fun ds R => match ds with
  | [x, .dct kvs] => ∃ k, keyD x = some k ∧ R (.val (.bl (ifN b (lookK kvs k).isSome)))
  | [.tup ks, .dcT kvs] => ∃ k, keyL ks = some k ∧ R (.val (.bl (ifN b (lookK kvs k).isSome)))
  | [x, d] => ∃ ds vx vs, (seqLD d = some ds ∨ seqTD d = some ds) ∧ flat1 x = some vx ∧ flatL ds = some vs ∧ R (.val (.bl (ifN b (inV vx vs))))
  | _ => False
theorem ok_in {b : Bool} : PrimOk2 X (rInA X.K b) (inP b) := by
  intro Hk H x y dx dy P R ex vx vy q k
  unfold inP at q
  split at q
  · rename_i e; cases e
    obtain ⟨key, hk, q⟩ := q
    obtain ⟨a, vs, rfl, hr, rr⟩ := vy.dct ex
    refine .inr ⟨a, valV vs key, rfl, .inl ⟨vs, key, hr, vx.key hk, rfl⟩, ?_⟩
    have e := rr.isSome (k := key)
    show P (.bl (ifN b (valV vs key).isSome)) H
    rw [e]; exact k _ q _ .bl
  · rename_i e; cases e
    obtain ⟨key, hk, q⟩ := q
    obtain ⟨a, vs, rfl, hr, rr⟩ := vy.dcT ex
    obtain ⟨a2, ws, rfl, hr2, rr2⟩ := vx.tup ex
    refine .inr ⟨a, valV vs key, rfl, .inr ⟨vs, key, a2, hr, rfl, by rw [hr2, rr2.keys hk], rfl⟩, ?_⟩
    have e := rr.isSome (k := key)
    show P (.bl (ifN b (valV vs key).isSome)) H
    rw [e]; exact k _ q _ .bl
  · rename_i e; cases e
    obtain ⟨ds, wx, ws, hd, hx, hs, q⟩ := q
    obtain ⟨rfl, fx⟩ := vx.flat hx
    rcases hd with hd | hd
    · obtain ⟨a, vs, rfl, hr, rr⟩ := vy.seqL ex (seqLD_eq hd)
      obtain ⟨rfl, fs⟩ := rr.flat hs
      exact .inl ⟨a, _, rfl, .inl hr, fx, fs, k _ q _ .bl⟩
    · obtain ⟨a, vs, rfl, hr, rr⟩ := vy.seqT ex (seqTD_eq hd)
      obtain ⟨rfl, fs⟩ := rr.flat hs
      exact .inl ⟨a, _, rfl, .inr hr, fx, fs, k _ q _ .bl⟩
  · exact q.elim

/-! ### a[i] -/
def rIxDc : R2 := fun x y H Q => ∃ a v, x = .ref a ∧ DGet H a y (some v) ∧ Q v H
theorem ix_dict (hu : X.A.units + 1 < cLine) : IxR X rIxDc := by
  intro value slice pins s σ H x y v u Q I rx ry h hs
  obtain ⟨a, w, e, g, q⟩ := h
  subst e
  cases rx
  exact tail_any (dict_typeIs I g) PySem.F.slot_dict_getitem.lookup (d_getItem hu I g ry fun w' s3 I3 rw' => ⟨w, H, I3, rw', q⟩) hs
theorem Reps.atI {K : PySem.W.Frag} {H : Hp} {vs : List V} {ds : List D} {i : Int} {d : D} (r : Reps K H vs ds) (h : L2.atI ds i = some d) : ∃ v, L2.atI vs i = some v ∧ Rep K H v d := by
  unfold L2.atI at h ⊢
  rw [r.length]
  obtain ⟨j, hj, hd⟩ := Option.bind_eq_some_iff.mp h
  obtain ⟨v, hv, rv⟩ := r.getD hd
  exact ⟨v, by rw [hj]; exact hv, rv⟩
def rIxA (K : PySem.W.Frag) : R2 := fun x y H Q => rIxL K x y H Q ∨ (rIxT K x y H Q ∨ (rIxS x y H Q ∨ rIxDc x y H Q))
theorem ix_all (hu : X.A.units + 1 < cLine) : IxR X (rIxA X.K) := ix_list.or (IxR.or ix_tup (IxR.or ix_str (ix_dict hu)))
def ixP : Prim := fun ds R => match ds with
  | [.str x, .int i] => x.length ≤ sizeLine ∧ ∃ c, L2.atI x.cps.toList i = some c ∧ R (.val (.str ⟨#[c]⟩))
  | [.dct kvs, y] => ∃ k d, keyD y = some k ∧ lookK kvs k = some d ∧ R (.val d)
  | [.dcT kvs, .tup ks] => ∃ k d, keyL ks = some k ∧ lookK kvs k = some d ∧ R (.val d)
  | [x, .int i] => ∃ ds d, (seqLD x = some ds ∨ seqTD x = some ds) ∧ L2.atI ds i = some d ∧ R (.val d)
  | _ => False
theorem ok_ix : PrimOk2 X (rIxA X.K) ixP := by
  intro Hk H x y dx dy P R ex vx vy q k
  unfold ixP at q
  split at q
  · rename_i e; cases e
    obtain ⟨hz, c, hc, q⟩ := q
    exact .inr (.inr (.inl ⟨_, _, c, vx.str, vy.int, hz, hc, k _ q _ .str⟩))
  · rename_i e; cases e
    obtain ⟨key, d, hk, hl, q⟩ := q
    obtain ⟨a, vs, rfl, hr, rr⟩ := vx.dct ex
    rcases rr.look (k := key) with ⟨h1, h2⟩ | ⟨v, d', h1, h2, r⟩
    · rw [hl] at h2; cases h2
    · rw [hl] at h2; cases h2
      exact .inr (.inr (.inr ⟨a, v, rfl, .inl ⟨vs, key, hr, vy.key hk, h1.symm⟩, k _ q _ r⟩))
  · rename_i e; cases e
    obtain ⟨key, d, hk, hl, q⟩ := q
    obtain ⟨a, vs, rfl, hr, rr⟩ := vx.dcT ex
    obtain ⟨a2, ws, rfl, hr2, rr2⟩ := vy.tup ex
    rcases rr.look (k := key) with ⟨h1, h2⟩ | ⟨v, d', h1, h2, r⟩
    · rw [hl] at h2; cases h2
    · rw [hl] at h2; cases h2
      exact .inr (.inr (.inr ⟨a, v, rfl, .inr ⟨vs, key, a2, hr, rfl, by rw [hr2, rr2.keys hk], h1.symm⟩, k _ q _ r⟩))
  · rename_i e; cases e
    obtain ⟨ds, d, hd, ha, q⟩ := q
    rcases hd with hd | hd
    · obtain ⟨a, vs, rfl, hr, rr⟩ := vx.seqL ex (seqLD_eq hd)
      obtain ⟨v, hv, rv⟩ := rr.atI ha
      exact .inl ⟨a, vs, _, v, rfl, vy.int, hr, hv, k _ q _ rv⟩
    · obtain ⟨a, vs, rfl, hr, rr⟩ := vx.seqT ex (seqTD_eq hd)
      obtain ⟨v, hv, rv⟩ := rr.atI ha
      exact .inr (.inl ⟨a, vs, _, v, rfl, vy.int, hr, hv, k _ q _ rv⟩)
  · exact q.elim

/-! ### slices -/
def cutL {α : Type} (xs : List α) (lo hi : Option Int) : List α := (xs.drop (HT.sIx xs.length 0 lo)).take (HT.sIx xs.length xs.length hi - HT.sIx xs.length 0 lo)
theorem Reps.cut {K : PySem.W.Frag} {H : Hp} {vs : List V} {ds : List D} {lo hi : Option Int} (r : Reps K H vs ds) : Reps K H (cutV vs lo hi) (cutL ds lo hi) := by
  unfold cutV cutL
  rw [r.length]
  exact (r.drop _).take _
abbrev VPo := Rho → (Option Int → Rho → Prop) → Prop
structure RunO (K : PySem.W.Frag) (t : TO) (to : VPo) : Prop where
  run : ∀ ρ (Q : Option Int → Rho → Prop) Hk T σ H (P : Option Int → Hp → Prop), to ρ Q → Holds K Hk ρ T σ H → (∀ i H' Hk' ρ', Same Hk Hk' → Holds K Hk' ρ' T σ H' → Kp σ ρ σ ρ' → Q i ρ' → P i H') → t σ H P
def vNoPart : VPo := fun ρ Q => Q none ρ
def vPart (te : VE) : VPo := fun ρ Q => te ρ fun s ρ1 => ∃ i, s = .sh (.int i) ∧ Q (some i) ρ1
theorem runo_none {K : PySem.W.Frag} : RunO K tNoPart vNoPart := ⟨fun ρ Q Hk T σ H P q hh p => p none H Hk ρ (.refl _) hh (.refl _ _) q⟩
theorem runo_some {e : Expr} {te : VE} (h : PWE X e te) : RunO X.K (tPart (tSem X e)) (vPart te) := ⟨fun ρ Q Hk T σ H P q hh p =>
  h.run ρ _ Hk T σ H _ q hh fun v H1 Hk1 ρ1 s e1 h1 k1 ⟨i, hs, q1⟩ => by
    subst hs
    obtain ⟨v', ev, r⟩ := h1.top
    cases ev; cases r
    exact ⟨i, rfl, p _ H1 Hk1 ρ1 e1 h1.pop k1 q1⟩⟩
def slP (lo hi : Option Int) : Prim := fun ds R => match ds with
  | [.str x] => x.length ≤ sizeLine ∧ R (.val (.str (cutS x lo hi)))
  | [.lst ds] => R (.newL (cutL ds lo hi))
  | [.fls ds] => R (.newL (cutL ds lo hi))
  | _ => False
def rSlA (K : PySem.W.Frag) : V → Option Int → Option Int → Hp → VK → Prop := fun x lo hi H Q => rSlS x lo hi H Q ∨ rSlL K x lo hi H Q
theorem sl_all : SlR X (rSlA X.K) := sl_str.or sl_list
theorem ok_sl {lo hi : Option Int} : PrimOk1 X (fun x H Q => rSlA X.K x lo hi H Q) (slP lo hi) := by
  intro Hk H x dx P R ex vx q k
  unfold slP at q
  split at q
  · rename_i e; cases e
    exact .inl ⟨_, vx.str, q.1, k _ q.2 _ .str⟩
  · rename_i e; cases e
    obtain ⟨a, vs, rfl, hr, rr⟩ := vx.lst ex
    exact .inr ⟨a, vs, rfl, .of hr, fun p hp => k _ q p _ hp rr.cut⟩
  · rename_i e; cases e
    obtain ⟨a, vs, rfl, hr, rr⟩ := vx.fls ex
    exact .inr ⟨a, vs, rfl, hr, fun p hp => k _ q p _ hp rr.cut⟩
  · exact q.elim
def vSl (to : VO) (tl th : VPo) : VE := fun ρ Q => to ρ fun a ρ1 => tl ρ1 fun lo ρ2 => th ρ2 fun hi ρ3 => ∃ d, argD ρ3 a = some d ∧ slP lo hi [d] fun ret => Q ret.slot ρ3
theorem run_sl {e : Expr} {to : VO} {t1 t2 : TO} {tl th : VPo} (ha : PWO X e to) (hl : RunO X.K t1 tl) (hh : RunO X.K t2 th) : RunE X.K (tSl (rSlA X.K) (tSem X e) t1 t2) (vSl to tl th) := ⟨fun ρ Q Hk T σ H P q h0 p =>
  ha.run ρ _ Hk T σ H _ q h0 fun v H1 Hk1 ρ1 a ts e1 g1 h1 k1 q1 => hl.run ρ1 _ Hk1 (ts ++ T) σ H1 _ q1 h1 fun lo H2 Hk2 ρ2 e2 h2 k2 q2 => hh.run ρ2 _ Hk2 (ts ++ T) σ H2 _ q2 h2 fun hi H3 Hk3 ρ3 e3 h3 k3 ⟨d, hd, q3⟩ =>
    ok_sl Hk3 H3 v d P _ h3.ex (ArgAt.view h3 g1 hd) q3 fun ret hr => ret_post h3.drop (p.step (e1.trans (e2.trans e3)) (k1.trans (k2.trans k3))) hr⟩

/-! ### built-ins by name -/
def lenP : Prim := fun ds R => match ds with
  | [.str x] => x.length ≤ sizeLine ∧ R (.val (.int x.length))
  | [.lst ds] => R (.val (.int ds.length))
  | [.fls ds] => R (.val (.int ds.length))
  | [.tup ds] => R (.val (.int ds.length))
  | [.ftp ds] => R (.val (.int ds.length))
  | [.dct ds] => R (.val (.int ds.length))
  | _ => False
def rLenA (K : PySem.W.Frag) : List V → Hp → VK → Prop := fun xs H Q => (∃ x n, xs = [x] ∧ LenV K x H n ∧ Q (.int n) H) ∨ ∃ d kvs, xs = [.ref d] ∧ Rd H d (.dK kvs) ∧ Q (.int kvs.length) H
end
end WL

set_option Elab.async false
set_option linter.all false
set_option maxRecDepth 100000
set_option maxHeartbeats 4000000
/-! W7: built-ins by name, methods of texts, changes of own lists and dicts. -/
namespace WL
open PySem PySem.Spec PyProof.Rows L2
section
variable {X : Cx}
theorem vs1 {K : PySem.W.Frag} {Hk H : Hp} {vs : List V} {d : D} (h : Views K Hk H vs [d]) : ∃ v, vs = [v] ∧ View K Hk H v d := by
  cases h with
  | cons h t => cases t; exact ⟨_, rfl, h⟩
theorem vs2 {K : PySem.W.Frag} {Hk H : Hp} {vs : List V} {d e : D} (h : Views K Hk H vs [d, e]) : ∃ v w, vs = [v, w] ∧ View K Hk H v d ∧ View K Hk H w e := by
  cases h with
  | cons h t =>
    cases t with
    | cons h2 t => cases t; exact ⟨_, _, rfl, h, h2⟩
theorem call_lenA : CallR X (.builtin "len") (rLenA X.K) := by
  intro pins s σ H vs us Q I rv q
  rcases q with q | q
  · exact call_len pins s σ H vs us Q I rv q
  · obtain ⟨a, kvs, rfl, ha, q⟩ := q
    obtain ⟨u, rfl, ru⟩ := vals1 rv
    cases ru
    exact d_len I ha fun t s' I' => ⟨.int kvs.length, H, I', ⟨t, rfl⟩, q⟩
theorem ok_len : PrimOk X (rLenA X.K) lenP := by
  intro Hk H vs ds P R ex vv q k
  unfold lenP at q
  split at q
  · obtain ⟨v, rfl, h⟩ := vs1 vv
    rename_i z
    have e := h.str
    subst e
    exact .inl ⟨.str z, z.length, rfl, ⟨q.1, rfl⟩, k _ q.2 _ .int⟩
  · obtain ⟨v, rfl, h⟩ := vs1 vv
    obtain ⟨a, vs, rfl, hr, rr⟩ := h.lst ex
    exact .inl ⟨_, vs.length, rfl, .inl ⟨_, .of hr, rfl⟩, by rw [rr.length]; exact k _ q _ .int⟩
  · obtain ⟨v, rfl, h⟩ := vs1 vv
    obtain ⟨a, vs, rfl, hr, rr⟩ := h.fls ex
    exact .inl ⟨_, vs.length, rfl, .inl ⟨_, hr, rfl⟩, by rw [rr.length]; exact k _ q _ .int⟩
  · obtain ⟨v, rfl, h⟩ := vs1 vv
    obtain ⟨a, vs, rfl, hr, rr⟩ := h.tup ex
    exact .inl ⟨_, vs.length, rfl, .inr ⟨_, .of hr, rfl⟩, by rw [rr.length]; exact k _ q _ .int⟩
  · obtain ⟨v, rfl, h⟩ := vs1 vv
    obtain ⟨a, vs, rfl, hr, rr⟩ := h.ftp ex
    exact .inl ⟨_, vs.length, rfl, .inr ⟨_, hr, rfl⟩, by rw [rr.length]; exact k _ q _ .int⟩
  · obtain ⟨v, rfl, h⟩ := vs1 vv
    obtain ⟨a, vs, rfl, hr, rr⟩ := h.dct ex
    exact .inr ⟨_, vs, rfl, hr, by rw [rr.length]; exact k _ q _ .int⟩
  · exact q.elim

/-! ints, bools -/
def absP : Prim := fun ds R => match ds with
  | [.int i] => R (.val (.int (if i < 0 then -i else i)))
  | _ => False
theorem ok_abs : PrimOk X (fun xs H Q => ∃ i, xs = [.int i] ∧ Q (.int (if i < 0 then -i else i)) H) absP := by
  intro Hk H vs ds P R ex vv q k
  unfold absP at q
  split at q
  · obtain ⟨v, rfl, h⟩ := vs1 vv
    exact ⟨_, by rw [h.int], k _ q _ .int⟩
  · exact q.elim
def intP : Prim := fun ds R => match ds with
  | [.int i] => R (.val (.int i))
  | [.bl b] => R (.val (.int (if b then 1 else 0)))
  | _ => False
theorem ok_int : PrimOk X (fun xs H Q => (∃ i, xs = [.int i] ∧ Q (.int i) H) ∨ ∃ k, xs = [.bl k] ∧ Q (.int (if k then 1 else 0)) H) intP := by
  intro Hk H vs ds P R ex vv q k
  unfold intP at q
  split at q
  · obtain ⟨v, rfl, h⟩ := vs1 vv
    exact .inl ⟨_, by rw [h.int], k _ q _ .int⟩
  · obtain ⟨v, rfl, h⟩ := vs1 vv
    exact .inr ⟨_, by rw [h.bl], k _ q _ .int⟩
  · exact q.elim
def strP : Prim := fun ds R => match ds with
  | [.int i] => i.natAbs.log2 < 1920 ∧ R (.val (.str (toString i)))
  | [.str x] => R (.val (.str x))
  | _ => False
def rStrA : List V → Hp → VK → Prop := fun xs H Q => (∃ i, xs = [.int i] ∧ i.natAbs.log2 < 1920 ∧ Q (.str (toString i)) H) ∨ ∃ a, xs = [.str a] ∧ Q (.str a) H
theorem call_strA : CallR X (.type "str") rStrA := CallR.or call_str_int SkE.call_str_str
theorem ok_str : PrimOk X rStrA strP := by
  intro Hk H vs ds P R ex vv q k
  unfold strP at q
  split at q
  · obtain ⟨v, rfl, h⟩ := vs1 vv
    exact .inl ⟨_, by rw [h.int], q.1, k _ q.2 _ .str⟩
  · obtain ⟨v, rfl, h⟩ := vs1 vv
    exact .inr ⟨_, by rw [h.str], k _ q _ .str⟩
  · exact q.elim
def reprP : Prim := fun ds R => match ds with
  | [.int i] => i.natAbs.log2 < 1920 ∧ R (.val (.str (toString i)))
  | [.str x] => (reprText x).length ≤ sizeLine ∧ R (.val (.str (reprText x)))
  | [.bl b] => R (.val (.str (if b then "True" else "False")))
  | [.non] => R (.val (.str "None"))
  | _ => False
def rReprA : List V → Hp → VK → Prop := fun xs H Q => ((∃ i, xs = [.int i] ∧ i.natAbs.log2 < 1920 ∧ Q (.str (toString i)) H) ∨ ∃ a, xs = [.str a] ∧ (reprText a).length ≤ sizeLine ∧ Q (.str (reprText a)) H) ∨
  ((∃ b : Bool, xs = [.bl b] ∧ Q (.str (if b then "True" else "False")) H) ∨ (xs = [.non] ∧ Q (.str "None") H))
theorem call_repr_bl : CallR X (.builtin "repr") (fun xs H Q => ∃ b : Bool, xs = [.bl b] ∧ Q (.str (if b then "True" else "False")) H) := by
  intro pins s σ H xs us Q I r h
  obtain ⟨a, rfl, q⟩ := h
  obtain ⟨u, rfl, rv⟩ := vals1 r
  cases rv
  refine PySem.P.repr_of_bool ⟨.str _, H, I.tok _, ?_, q⟩
  cases a <;> exact ⟨_, rfl⟩
theorem call_repr_non : CallR X (.builtin "repr") (fun xs H Q => xs = [.non] ∧ Q (.str "None") H) := by
  intro pins s σ H xs us Q I r h
  obtain ⟨rfl, q⟩ := h
  obtain ⟨u, rfl, rv⟩ := vals1 r
  cases rv
  exact PySem.P.repr_of_none ⟨.str _, H, I.tok _, ⟨_, rfl⟩, q⟩
theorem call_repr_str : CallR X (.builtin "repr") (fun xs H Q => ∃ a, xs = [.str a] ∧ (reprText a).length ≤ sizeLine ∧ Q (.str (reprText a)) H) := by
  intro pins s σ H xs us Q I r h
  obtain ⟨a, rfl, hz, q⟩ := h
  obtain ⟨u, rfl, t, rfl⟩ := vals1 r
  exact PySem.P.repr_of_str ⟨.str _, H, I.tok _, ⟨_, rfl⟩, q⟩ hz
theorem call_reprA : CallR X (.builtin "repr") rReprA := CallR.or (CallR.or SkE.call_repr_int call_repr_str) (CallR.or call_repr_bl call_repr_non)
theorem ok_repr : PrimOk X rReprA reprP := by
  intro Hk H vs ds P R ex vv q k
  unfold reprP at q
  split at q
  · obtain ⟨v, rfl, h⟩ := vs1 vv
    exact .inl (.inl ⟨_, by rw [h.int], q.1, k _ q.2 _ .str⟩)
  · obtain ⟨v, rfl, h⟩ := vs1 vv
    exact .inl (.inr ⟨_, by rw [h.str], q.1, k _ q.2 _ .str⟩)
  · obtain ⟨v, rfl, h⟩ := vs1 vv
    exact .inr (.inl ⟨_, by rw [h.bl], k _ q _ .str⟩)
  · obtain ⟨v, rfl, h⟩ := vs1 vv
    exact .inr (.inr ⟨by rw [h.non], k _ q _ .str⟩)
  · exact q.elim
/-! lists -/
def listP : Prim := fun ds R => match ds with
  | [.dct kvs] => R (.newL (kvs.map fun kv => dK kv.1))
  | [d] => ∃ ds, (seqLD d = some ds ∨ seqTD d = some ds) ∧ R (.newL ds)
  | _ => False
def rListK : List V → Hp → VK → Prop := fun xs H Q => ∃ d kvs, xs = [.ref d] ∧ Rd H d (.dK kvs) ∧ ∀ q, H q = none → Q (.ref q) (upd H q (.lst (kvs.map fun kv => kV kv.1)))
theorem call_list_rd (hc : X.calm = true) : CallR X (.type "list") rListK := by
  intro pins s σ H xs us Q I r ⟨d, kvs, e, hk, q⟩
  subst e
  obtain ⟨u, rfl, rx⟩ := vals1 r
  cases rx
  obtain ⟨z, lo, vs, rk, hd⟩ := dk_rd I.hok hk
  obtain ⟨ep, hat⟩ := hd.dictAt
  have hl : kvs.length = vs.length := rk.length
  refine PySem.W.kdl_call (PySem.W.kdl_dict (knd := mixKind X.prog X.w) (kvs := vs) (ep := ep) lo) (I.ok.hd hc) hat (hl ▸ z) fun h' tk acc' c' hkeep hS hacc => ?_
  have hz : (kvs.map fun kv => kV kv.1).length ≤ sizeLine := by simpa using z
  have hvals : Vals (kvs.map fun kv => kV kv.1) acc'.toList := by
    refine vals_of_at (by simp [hacc.1, hl]) fun j x w h1 h2 => ?_
    obtain ⟨k, y, hky, hi⟩ := hacc.2 j w (by simpa using h2)
    have hj : (kvs.map (·.1))[j]? = some k := by rw [KV.keys rk]; simp [hky]
    have hx : x = kV k := by
      have h3 : ((kvs.map (·.1)).map kV)[j]? = some x := by simpa using h1
      rw [List.getElem?_map, hj] at h3
      exact (Option.some.inj h3).symm
    subst hx
    exact relV_key hi
  have ob : ObjOk X.prog X.w (upd H s.heap.objs.size (.lst (kvs.map fun kv => kV kv.1))) h' s.heap.objs.size (.lst (kvs.map fun kv => kV kv.1)) := ⟨hz, acc'.toList, c', hvals, by simpa using hS⟩
  exact ⟨.ref _, _, I.laid hkeep (Nat.le_refl _) ob, rfl, q _ (I.hok.fresh (Nat.le_refl _))⟩
def rListA (K : PySem.W.Frag) : List V → Hp → VK → Prop := fun xs H Q => (∃ p ys, xs = [.ref p] ∧ (SqL K H p ys ∨ SqT K H p ys) ∧ ∀ l, H l = none → Q (.ref l) (upd H l (.lst ys))) ∨ rListK xs H Q
theorem call_listA (hc : X.calm = true) : CallR X (.type "list") (rListA X.K) := CallR.or call_list_of (call_list_rd hc)
theorem Reps.ofKeys {K : PySem.W.Frag} {H : Hp} : ∀ (ks : List Key), Reps K H (ks.map kV) (ks.map dK)
  | [] => .nil
  | .inl _ :: r => .cons .int (Reps.ofKeys r)
  | .inr _ :: r => .cons .str (Reps.ofKeys r)
theorem ok_list : PrimOk X (rListA X.K) listP := by
  intro Hk H vs ds P R ex vv q k
  unfold listP at q
  split at q
  · obtain ⟨v, rfl, h⟩ := vs1 vv
    obtain ⟨a, ws, rfl, hr, rr⟩ := h.dct ex
    refine .inr ⟨a, ws, rfl, hr, fun p hp => k _ q p _ hp ?_⟩
    rename_i kvs
    have e2 : (ws.map fun kv => kV kv.1) = (ws.map (·.1)).map kV := by simp
    have e3 : (kvs.map fun kv => dK kv.1) = (kvs.map (·.1)).map dK := by simp
    rw [e2, e3, rr.keys]
    exact Reps.ofKeys _
  · obtain ⟨v, rfl, h⟩ := vs1 vv
    obtain ⟨ds, hd, q⟩ := q
    rcases hd with hd | hd
    · obtain ⟨a, ws, rfl, hr, rr⟩ := h.seqL ex (seqLD_eq hd)
      exact .inl ⟨a, ws, rfl, .inl hr, fun p hp => k _ q p _ hp rr⟩
    · obtain ⟨a, ws, rfl, hr, rr⟩ := h.seqT ex (seqTD_eq hd)
      exact .inl ⟨a, ws, rfl, .inr hr, fun p hp => k _ q p _ hp rr⟩
  · exact q.elim

def sumP : Prim := fun ds R => ∃ (d : D) (l : List D) (ns : List Int), ds = [d] ∧ seqLD d = some l ∧ l = ns.map D.int ∧ R (.val (.int ns.sum))
theorem ok_sum : PrimOk X (rSum X.K) sumP := by
  intro Hk H vs ds P R ex vv ⟨d, l, ns, e, hd, hl, q⟩ k
  subst e; subst hl
  obtain ⟨v, rfl, h⟩ := vs1 vv
  obtain ⟨a, ws, rfl, hr, rr⟩ := h.seqL ex (seqLD_eq hd)
  rw [rr.ints] at hr
  exact ⟨a, ns, rfl, hr, k _ q _ .int⟩
def maxP : Prim := fun ds R => match ds with
  | [.int i, .int j] => R (.val (.int (if j > i then j else i)))
  | [d] => ∃ (l : List D) (ns : List Int), seqLD d = some l ∧ l = ns.map D.int ∧ ns ≠ [] ∧ ∀ m, m ∈ ns → (∀ y ∈ ns, y ≤ m) → R (.val (.int m))
  | _ => False
def rMaxA (K : PySem.W.Frag) : List V → Hp → VK → Prop := fun xs H Q => (∃ i j, xs = [.int i, .int j] ∧ Q (.int (if j > i then j else i)) H) ∨ rMax K xs H Q
theorem call_maxA (hc : X.calm = true) : CallR X (.builtin "max") (rMaxA X.K) := CallR.or (call_max2 hc) (cr_max hc)
theorem ok_max : PrimOk X (rMaxA X.K) maxP := by
  intro Hk H vs ds P R ex vv q k
  unfold maxP at q
  split at q
  · obtain ⟨v, w, rfl, h, h2⟩ := vs2 vv
    exact .inl ⟨_, _, by rw [h.int, h2.int], k _ q _ .int⟩
  · obtain ⟨l, ns, hd, hl, hn, q⟩ := q
    subst hl
    obtain ⟨v, rfl, h⟩ := vs1 vv
    obtain ⟨a, ws, rfl, hr, rr⟩ := h.seqL ex (seqLD_eq hd)
    rw [rr.ints] at hr
    exact .inr ⟨a, ns, rfl, hr, List.length_pos_iff.mpr hn, fun m h1 h2 => k _ (q m h1 h2) _ .int⟩
  · exact q.elim
def minP : Prim := fun ds R => match ds with
  | [.int i, .int j] => R (.val (.int (if j < i then j else i)))
  | [d] => ∃ (l : List D) (ns : List Int), seqLD d = some l ∧ l = ns.map D.int ∧ ns ≠ [] ∧ ∀ m, m ∈ ns → (∀ y ∈ ns, m ≤ y) → R (.val (.int m))
  | _ => False
def rMinA (K : PySem.W.Frag) : List V → Hp → VK → Prop := fun xs H Q => (∃ i j, xs = [.int i, .int j] ∧ Q (.int (if j < i then j else i)) H) ∨ rMin K xs H Q
theorem call_minA (hc : X.calm = true) : CallR X (.builtin "min") (rMinA X.K) := CallR.or (call_min2 hc) (cr_min hc)
theorem ok_min : PrimOk X (rMinA X.K) minP := by
  intro Hk H vs ds P R ex vv q k
  unfold minP at q
  split at q
  · obtain ⟨v, w, rfl, h, h2⟩ := vs2 vv
    exact .inl ⟨_, _, by rw [h.int, h2.int], k _ q _ .int⟩
  · obtain ⟨l, ns, hd, hl, hn, q⟩ := q
    subst hl
    obtain ⟨v, rfl, h⟩ := vs1 vv
    obtain ⟨a, ws, rfl, hr, rr⟩ := h.seqL ex (seqLD_eq hd)
    rw [rr.ints] at hr
    exact .inr ⟨a, ns, rfl, hr, List.length_pos_iff.mpr hn, fun m h1 h2 => k _ (q m h1 h2) _ .int⟩
  · exact q.elim
/-- all, any of truths -/
def allP : Prim := fun ds R => ∃ (d : D) (l : List D) (bs : List Bool), ds = [d] ∧ seqLD d = some l ∧ l = bs.map D.bl ∧ R (.val (.bl (bs.all id)))
theorem ok_all : PrimOk X (rAll X.K) allP := by
  intro Hk H vs ds P R ex vv ⟨d, l, bs, e, hd, hl, q⟩ k
  subst e; subst hl
  obtain ⟨v, rfl, h⟩ := vs1 vv
  obtain ⟨a, ws, rfl, hr, rr⟩ := h.seqL ex (seqLD_eq hd)
  rw [rr.bls] at hr
  exact ⟨a, bs, rfl, hr, k _ q _ .bl⟩
def anyP : Prim := fun ds R => ∃ (d : D) (l : List D) (bs : List Bool), ds = [d] ∧ seqLD d = some l ∧ l = bs.map D.bl ∧ R (.val (.bl (bs.any id)))
theorem ok_any : PrimOk X (rAny X.K) anyP := by
  intro Hk H vs ds P R ex vv ⟨d, l, bs, e, hd, hl, q⟩ k
  subst e; subst hl
  obtain ⟨v, rfl, h⟩ := vs1 vv
  obtain ⟨a, ws, rfl, hr, rr⟩ := h.seqL ex (seqLD_eq hd)
  rw [rr.bls] at hr
  exact ⟨a, bs, rfl, hr, k _ q _ .bl⟩
/-- sorted: ints, texts below 64 -/
def sortedP : Prim := fun ds R => ∃ (d : D) (l : List D), ds = [d] ∧ seqLD d = some l ∧ ((∃ (ns : List Int), l = ns.map D.int ∧ ∀ ms : List Int, ms.Perm ns → ms.Pairwise (· ≤ ·) → R (.newL (ms.map D.int))) ∨
  ∃ (xs : List Str), l = xs.map D.str ∧ xs.length < 64 ∧ ∀ ys : List Str, ys.Perm xs → sortedS ys = true → R (.newL (ys.map D.str)))
def rSortedA (K : PySem.W.Frag) : List V → Hp → VK → Prop := fun xs H Q => rSortedI K xs H Q ∨ rSortedS K xs H Q
theorem call_sortedA : CallR X (.builtin "sorted") (rSortedA X.K) := CallR.or cr_sortedI cr_sortedS
theorem ok_sorted : PrimOk X (rSortedA X.K) sortedP := by
  intro Hk H vs ds P R ex vv ⟨d, l, e, hd, q⟩ k
  subst e
  obtain ⟨v, rfl, h⟩ := vs1 vv
  obtain ⟨a, ws, rfl, hr, rr⟩ := h.seqL ex (seqLD_eq hd)
  rcases q with ⟨ns, hl, q⟩ | ⟨xs, hl, hz, q⟩
  · subst hl
    rw [rr.ints] at hr
    exact .inl ⟨a, ns, rfl, hr, fun ms p h1 h2 hp => k _ (q ms h1 h2) p _ hp (Reps.of_ints ms)⟩
  · subst hl
    rw [rr.strs] at hr
    exact .inr ⟨a, xs, rfl, hr, hz, fun ms p h1 h2 hp => k _ (q ms h1 h2) p _ hp (Reps.of_strs ms)⟩
def tupleP : Prim := fun ds R => match ds with
  | [.lst l] => R (.newT l)
  | _ => False
theorem ok_tuple : PrimOk X (fun xs H Q => ∃ p ys, xs = [.ref p] ∧ ((SqL X.K H p ys ∧ ∀ l, H l = none → Q (.ref l) (upd H l (.tup ys))) ∨ (SqT X.K H p ys ∧ Q (.ref p) H))) tupleP := by
  intro Hk H vs ds P R ex vv q k
  unfold tupleP at q
  split at q
  · obtain ⟨v, rfl, h⟩ := vs1 vv
    obtain ⟨a, ws, rfl, hr, rr⟩ := h.lst ex
    exact ⟨a, ws, rfl, .inl ⟨.of hr, fun p hp => k _ q p _ hp rr⟩⟩
  · exact q.elim
/-- dict of pairs -/
def pairsD : List D → Option (List (Key × D))
  | [] => some []
  | .tup [k, d] :: r => match keyD k, pairsD r with
    | some k, some r => some ((k, d) :: r)
    | _, _ => none
  | _ => none
def putD {κ α : Type} [DecidableEq κ] (kvs : List (κ × α)) (k : κ) (v : α) : List (κ × α) :=
  if (kvs.any fun kv => decide (kv.1 = k)) = true then kvs.map (fun kv => if kv.1 = k then (kv.1, v) else kv) else kvs ++ [(k, v)]
def mergeD {α : Type} (kvs more : List (Key × α)) : List (Key × α) := more.foldl (fun acc kv => putD acc kv.1 kv.2) kvs
section
variable {K : PySem.W.Frag} {H : Hp}
theorem RepK.any : ∀ {vs : List (Key × V)} {ds : List (Key × D)} {k : Key}, RepK K H vs ds → (vs.any fun kv => decide (kv.1 = k)) = (ds.any fun kv => decide (kv.1 = k))
  | _, _, _, .nil => rfl
  | _, _, k, .cons (vs := vs) (ds := ds) _ t => by rw [List.any_cons, List.any_cons, RepK.any t]
theorem RepK.repl {v : V} {d : D} (r : Rep K H v d) : ∀ {vs : List (Key × V)} {ds : List (Key × D)} {k : Key}, RepK K H vs ds → RepK K H (vs.map fun kv => if kv.1 = k then (kv.1, v) else kv) (ds.map fun kv => if kv.1 = k then (kv.1, d) else kv)
  | _, _, _, .nil => .nil
  | _, _, k, .cons (k := j) (vs := vs) (ds := ds) h t => by
    rw [List.map_cons, List.map_cons]
    by_cases e : j = k
    · rw [if_pos e, if_pos e]; exact .cons r (RepK.repl r t)
    · rw [if_neg e, if_neg e]; exact .cons h (RepK.repl r t)
theorem RepK.append : ∀ {vs ws : List (Key × V)} {ds es : List (Key × D)}, RepK K H vs ds → RepK K H ws es → RepK K H (vs ++ ws) (ds ++ es)
  | _, _, _, _, .nil, h => h
  | _, _, _, _, .cons h t, h2 => .cons h (RepK.append t h2)
theorem RepK.put {v : V} {d : D} {vs : List (Key × V)} {ds : List (Key × D)} {k : Key} (h : RepK K H vs ds) (r : Rep K H v d) : RepK K H (putK vs k v) (putD ds k d) := by
  unfold putK putD
  rw [h.any]
  split
  · exact h.repl r
  · exact h.append (.cons r .nil)
theorem RepK.merge : ∀ {ws vs : List (Key × V)} {es ds : List (Key × D)}, RepK K H vs ds → RepK K H ws es → RepK K H (mergeK vs ws) (mergeD ds es)
  | [], _, [], _, h, .nil => h
  | (k, v) :: ws, vs, (_, d) :: es, ds, h, .cons r t => RepK.merge (ws := ws) (es := es) (vs := putK vs k v) (ds := putD ds k d) (h.put r) t
theorem RepT.any : ∀ {vs : List (List Key × V)} {ds : List (List Key × D)} {k : List Key}, RepT K H vs ds → (vs.any fun kv => decide (kv.1 = k)) = (ds.any fun kv => decide (kv.1 = k))
  | _, _, _, .nil => rfl
  | _, _, k, .cons (vs := vs) (ds := ds) _ t => by rw [List.any_cons, List.any_cons, RepT.any t]
theorem RepT.repl {v : V} {d : D} (r : Rep K H v d) : ∀ {vs : List (List Key × V)} {ds : List (List Key × D)} {k : List Key}, RepT K H vs ds → RepT K H (vs.map fun kv => if kv.1 = k then (kv.1, v) else kv) (ds.map fun kv => if kv.1 = k then (kv.1, d) else kv)
  | _, _, _, .nil => .nil
  | _, _, k, .cons (k := j) (vs := vs) (ds := ds) h t => by
    rw [List.map_cons, List.map_cons]
    by_cases e : j = k
    · rw [if_pos e, if_pos e]; exact .cons r (RepT.repl r t)
    · rw [if_neg e, if_neg e]; exact .cons h (RepT.repl r t)
theorem RepT.append : ∀ {vs ws : List (List Key × V)} {ds es : List (List Key × D)}, RepT K H vs ds → RepT K H ws es → RepT K H (vs ++ ws) (ds ++ es)
  | _, _, _, _, .nil, h => h
  | _, _, _, _, .cons h t, h2 => .cons h (RepT.append t h2)
theorem RepT.put {v : V} {d : D} {vs : List (List Key × V)} {ds : List (List Key × D)} {k : List Key} (h : RepT K H vs ds) (r : Rep K H v d) : RepT K H (putK vs k v) (putD ds k d) := by
  unfold putK putD
  rw [h.any]
  split
  · exact h.repl r
  · exact h.append (.cons r .nil)
theorem Reps.pairs : ∀ {vs : List V} {ds : List D} {kds : List (Key × D)}, Reps K H vs ds → pairsD ds = some kds → ∃ (ps : List Addr) (kvs : List (Key × V)), vs = ps.map V.ref ∧ Paired (fun p kv => SqT K H p [kV kv.1, kv.2]) ps kvs ∧ RepK K H kvs kds
  | _, _, _, .nil, e => by cases e; exact ⟨[], [], rfl, .nil, .nil⟩
  | _, _, kds, .cons (d := d) h t, e => by
    unfold pairsD at e
    split at e
    · rename_i heq; cases heq
    · rename_i ds k d r heq
      cases heq
      split at e
      · rename_i k' r' h1 h2
        cases e
        obtain ⟨ps, kvs, e1, p1, r1⟩ := t.pairs h2
        cases h with
        | tup hh rr =>
          cases rr with
          | cons ra rt =>
            cases rt with
            | cons rb rt =>
              cases rt
              have ek := ra.key h1
              subst ek; subst e1
              exact ⟨_ :: ps, (k', _) :: kvs, rfl, .cons (.of hh) p1, .cons rb r1⟩
      · cases e
    · cases e
end
def dictP : Prim := fun ds R => ∃ (d : D) (l : List D) (kvs : List (Key × D)), ds = [d] ∧ seqLD d = some l ∧ pairsD l = some kvs ∧ R (.newD (mergeD [] kvs))
theorem ok_dict : PrimOk X (fun xs H Q => ∃ (a : Addr) (ps : List Addr) (kvs : List (Key × V)), xs = [.ref a] ∧ SqL X.K H a (ps.map V.ref) ∧ Paired (fun p kv => SqT X.K H p [kV kv.1, kv.2]) ps kvs ∧ ∀ p, H p = none → Q (.ref p) (upd H p (.dK (mergeK [] kvs)))) dictP := by
  intro Hk H vs ds P R ex vv ⟨d, l, kvs, e, hd, hp, q⟩ k
  subst e
  obtain ⟨v, rfl, h⟩ := vs1 vv
  obtain ⟨a, ws, rfl, hr, rr⟩ := h.seqL ex (seqLD_eq hd)
  obtain ⟨ps, kws, rfl, pp, rk⟩ := (rr.mono ex).pairs hp
  obtain ⟨ps', kws', e1, pp', rk'⟩ := rr.pairs hp
  have e2 : ps = ps' := by
    have inj : ∀ {a b : List Addr}, a.map V.ref = b.map V.ref → a = b := fun {a b} h => (List.map_inj_right (fun x y z => by injection z)).mp h
    exact inj e1
  subst e2
  refine ⟨a, ps, kws', rfl, hr, ?_, fun p hp => k _ q p _ hp (RepK.merge .nil rk')⟩
  exact Paired.mapP pp' fun p kv hq => Same.sqT ex hq
/-- isinstance -/
def tyD : D → Option String
  | .non => some "NoneType"
  | .bl _ => some "bool"
  | .int _ => some "int"
  | .str _ => some "str"
  | .lst _ => some "list"
  | .fls _ => some "list"
  | .tup _ => some "tuple"
  | .ftp _ => some "tuple"
  | .dct _ => some "dict"
  | _ => none
theorem View.tyx {K : PySem.W.Frag} {Hk H : Hp} {v : V} {d : D} {t : String} (ex : Same Hk H) (h : View K Hk H v d) (e : tyD d = some t) : TyX K H v (.type t) := by
  cases d with
  | non => rw [h.non]; cases e; exact .base .non
  | bl b => rw [h.bl]; cases e; exact .base (.bl b)
  | int b => rw [h.int]; cases e; exact .base (.int b)
  | str b => rw [h.str]; cases e; exact .base (.str b)
  | lst l => obtain ⟨a, vs, rfl, hr, _⟩ := h.lst ex; cases e; exact .base (.lst hr)
  | tup l => obtain ⟨a, vs, rfl, hr, _⟩ := h.tup ex; cases e; exact .base (.tup hr)
  | fls l =>
    obtain ⟨a, vs, rfl, hr, _⟩ := h.fls ex; cases e
    rcases hr with (hr | ⟨o, hr⟩) | ⟨o, its, n, hk, hc, _⟩
    · exact .base (.lst hr)
    · exact .base (.frz hr)
    · exact .kList hk hc
  | ftp l =>
    obtain ⟨a, vs, rfl, hr, _⟩ := h.ftp ex; cases e
    rcases hr with (hr | ⟨o, hr⟩) | ⟨o, its, n, hk, hc, _⟩
    · exact .base (.tup hr)
    · exact .fTuple hr
    · exact .kTuple hk hc
  | dct l =>
    obtain ⟨a, vs, rfl, hr, _⟩ := h.dct ex; cases e
    rcases hr with hr | ⟨o, hr⟩
    · exact .base (.dK hr)
    · exact .fDict hr
  | dcT l => cases e
  | opq v => cases e
def kitAnyB (t : String) : List String → Option Bool
  | [] => some false
  | c :: r => match kitB t c with
    | some true => some true
    | some false => kitAnyB t r
    | none => none
def isiP : Prim := fun ds R => ∃ (d : D) (T t : String) (b : Bool), ds = [d, .opq (.ty T)] ∧ tyD d = some t ∧ kitB t T = some b ∧ R (.val (.bl b))
def isiTP : Prim := fun ds R => ∃ (d : D) (Ts : List String) (t : String) (b : Bool), ds = [d, .tup (Ts.map fun n => .opq (.ty n))] ∧ tyD d = some t ∧ kitAnyB t Ts = some b ∧ R (.val (.bl b))
theorem View.opq {K : PySem.W.Frag} {Hk H : Hp} {v w : V} (h : View K Hk H v (.opq w)) : v = w := by
  generalize e : D.opq w = d at h
  cases h with
  | known r => subst e; cases r; rfl
  | own r => cases r <;> cases e
theorem ok_isi : PrimOk X (rIsi X.K) isiP := by
  intro Hk H vs ds P R ex vv ⟨d, T, t, b, e, ht, hk, q⟩ k
  subst e
  obtain ⟨v, w, rfl, h, h2⟩ := vs2 vv
  have := h2.opq
  subst this
  exact ⟨v, .ty T, .type t, .type T, b, rfl, .ty T, h.tyx ex ht, kit_ty hk, k _ q _ .bl⟩
theorem Reps.tys {K : PySem.W.Frag} {H : Hp} : ∀ {vs : List V} {Ts : List String}, Reps K H vs (Ts.map fun n => .opq (.ty n)) → Paired ClsV vs (Ts.map Value.type) ∧ vs = Ts.map V.ty
  | _, [], .nil => ⟨.nil, rfl⟩
  | _, T :: Ts, .cons h t => by
    cases h
    obtain ⟨h1, h2⟩ := t.tys
    exact ⟨.cons (.ty T) h1, by rw [h2]; rfl⟩
theorem kitAny_of {K : PySem.W.Frag} {t : String} : ∀ {Ts : List String} {b : Bool}, kitAnyB t Ts = some b → PySem.W.kitAny K (.type t) (Ts.map Value.type) = some b
  | [], b, e => by cases e; rfl
  | T :: Ts, b, e => by
    unfold kitAnyB at e
    split at e
    · rename_i h; cases e
      exact kitAny_cons (kit_ty h) (fun z => by cases z) fun _ => rfl
    · rename_i h
      exact kitAny_cons (kit_ty h) (fun _ => kitAny_of e) fun z => by cases z
    · cases e
theorem ok_isiT : PrimOk X (rIsiT X.K) isiTP := by
  intro Hk H vs ds P R ex vv ⟨d, Ts, t, b, e, ht, hk, q⟩ k
  subst e
  obtain ⟨v, w, rfl, h, h2⟩ := vs2 vv
  obtain ⟨a, us, rfl, hr, rr⟩ := h2.tup ex
  obtain ⟨h3, h4⟩ := rr.tys
  exact ⟨v, a, us, .type t, _, b, rfl, hr, h3, h.tyx ex ht, kitAny_of hk, k _ q _ .bl⟩
end
end WL

set_option Elab.async false
set_option linter.all false
set_option maxRecDepth 100000
set_option maxHeartbeats 4000000
/-! W8: changes of own lists and dicts, joins, gets, truth of data. -/
namespace WL
open PySem PySem.Spec PyProof.Rows L2

section
variable {K : PySem.W.Frag} {Hk H : Hp} {ρ : Rho} {T : List Cell} {σ : L2.St} {i : Nat} {b : Bool}
theorem Holds.mutL {ds : List D} (h : Holds K Hk ρ T σ H) (e : ρ[i]? = some (.ow b (.lst ds))) : ∃ p vs, σ[i]? = some (some (.ref p)) ∧ H p = some (.lst vs) ∧ Reps K Hk vs ds ∧
    ∀ vs' ds', Reps K Hk vs' ds' → Holds K Hk (ρ.set i (.ow b (.lst ds'))) T σ (upd H p (.lst vs')) := by
  obtain ⟨v, R, ev, h1, back⟩ := h.at' e
  obtain ⟨p, vs, ex, hp, r, k⟩ := h1.lst
  subst ex
  exact ⟨p, vs, ev, hp, r, fun vs' ds' r' => back _ _ _ (k vs' ds' r')⟩
theorem Holds.mutD {ds : List (Key × D)} (h : Holds K Hk ρ T σ H) (e : ρ[i]? = some (.ow b (.dct ds))) : ∃ p vs, σ[i]? = some (some (.ref p)) ∧ H p = some (.dK vs) ∧ RepK K Hk vs ds ∧
    ∀ vs' ds', RepK K Hk vs' ds' → Holds K Hk (ρ.set i (.ow b (.dct ds'))) T σ (upd H p (.dK vs')) := by
  obtain ⟨v, R, ev, h1, back⟩ := h.at' e
  obtain ⟨p, vs, ex, hp, r, k⟩ := h1.dct
  subst ex
  exact ⟨p, vs, ev, hp, r, fun vs' ds' r' => back _ _ _ (k vs' ds' r')⟩
theorem kp_ow {o o' : Own} (e : ρ[i]? = some (.ow b o)) : Kp σ ρ σ (ρ.set i (.ow b o')) := kp_set e fun o1 z => by cases z; exact ⟨o', rfl⟩
end

section
variable {X : Cx} {e k : Expr} {te tk : VE}
/-- x.append(e) -/
def vApp (i : Nat) (te : VE) : VE := fun ρ Q => (∃ b ds, ρ[i]? = some (.ow b (.lst ds))) ∧ te ρ fun s ρ1 => ∃ b ds d, ρ1[i]? = some (.ow b (.lst ds)) ∧ slotD s = some d ∧ ds.length < sizeLine ∧ Q (.sh .non) (ρ1.set i (.ow b (.lst (ds ++ [d]))))
theorem run_app (i : Nat) (h : PWE X e te) : RunE X.K (tBM X.K "list" rAppend (tVar i) (tCons (tSem X e) tNil)) (vApp i te) := ⟨fun ρ Q Hk T σ H P ⟨⟨b0, ds0, e0⟩, q⟩ hh p => by
  obtain ⟨p0, vs0, ev, hp0, _, _⟩ := hh.mutL e0
  refine ⟨.ref p0, ev, .inl ⟨rfl, vs0, .of hp0⟩, h.run ρ _ Hk T σ H _ q hh fun v H1 Hk1 ρ1 s e1 h1 k1 ⟨b, ds, d, e2, hs, hz, q1⟩ => ?_⟩
  obtain ⟨Hk2, e3, rd, h2⟩ := h1.know_top hs
  obtain ⟨p1, vs1, ev1, hp1, r1, mu⟩ := h2.mutL e2
  rw [ev] at ev1; cases ev1
  exact ⟨p0, vs1, v, rfl, rfl, hp1, by rw [r1.length]; exact hz, p _ _ Hk2 _ _ (e1.trans e3) ((mu _ _ (r1.append (.one rd))).sh .non) (k1.trans (kp_ow e2)) q1⟩⟩
/-- x.pop() -/
def vPop (i : Nat) : VE := fun ρ Q => ∃ b ds d, ρ[i]? = some (.ow b (.lst ds)) ∧ ds[ds.length - 1]? = some d ∧ Q (.sh d) (ρ.set i (.ow b (.lst ds.dropLast)))
theorem run_pop (i : Nat) : RunE X.K (tBM0 X.K "list" rPop (tVar i)) (vPop i) := ⟨fun ρ Q Hk T σ H P ⟨b, ds, d, e0, hd, q⟩ hh p => by
  obtain ⟨p0, vs0, ev, hp0, r0, mu⟩ := hh.mutL e0
  obtain ⟨v, hv, rv⟩ := r0.getD hd
  exact ⟨.ref p0, ev, .inl ⟨rfl, vs0, .of hp0⟩, p0, vs0, v, rfl, rfl, hp0, by rw [r0.length]; exact hv, p _ _ Hk _ _ (.refl _) ((mu _ _ r0.dropLast).sh rv) (kp_ow e0) q⟩⟩
/-- x.pop(k) -/
def vPopAt (i : Nat) (tk : VE) : VE := fun ρ Q => (∃ b ds, ρ[i]? = some (.ow b (.lst ds))) ∧ tk ρ fun s ρ1 => ∃ (k : Int) (j : Nat) (b : Bool) (ds : List D) (d : D), s = .sh (.int k) ∧ ρ1[i]? = some (.ow b (.lst ds)) ∧
  (-(2 ^ 63) ≤ k ∧ k < 2 ^ 63) ∧ seqIndex? k ds.length = some j ∧ ds[j]? = some d ∧ Q (.sh d) (ρ1.set i (.ow b (.lst (ds.eraseIdx j))))
theorem run_popAt (i : Nat) (h : PWE X e te) : RunE X.K (tBM X.K "list" rPopAt (tVar i) (tCons (tSem X e) tNil)) (vPopAt i te) := ⟨fun ρ Q Hk T σ H P ⟨⟨b0, ds0, e0⟩, q⟩ hh p => by
  obtain ⟨p0, vs0, ev, hp0, _, _⟩ := hh.mutL e0
  refine ⟨.ref p0, ev, .inl ⟨rfl, vs0, .of hp0⟩, h.run ρ _ Hk T σ H _ q hh fun v H1 Hk1 ρ1 s e1 h1 k1 ⟨k, j, b, ds, d, hs, e2, hz, hj, hd, q1⟩ => ?_⟩
  subst hs
  obtain ⟨v', ev', rv⟩ := h1.top
  cases ev'; cases rv
  obtain ⟨p1, vs1, ev1, hp1, r1, mu⟩ := h1.pop.mutL e2
  rw [ev] at ev1; cases ev1
  obtain ⟨w, hw, rw'⟩ := r1.getD hd
  exact ⟨p0, vs1, k, j, w, rfl, rfl, hp1, hz.1, hz.2, by rw [r1.length]; exact hj, hw, p _ _ Hk1 _ _ e1 ((mu _ _ (r1.eraseIdx j)).sh rw') (k1.trans (kp_ow e2)) q1⟩⟩
/-- x.extend(e) -/
def vExt (i : Nat) (te : VE) : VE := fun ρ Q => (∃ b ds, ρ[i]? = some (.ow b (.lst ds))) ∧ te ρ fun s ρ1 => ∃ b ds es, ρ1[i]? = some (.ow b (.lst ds)) ∧ slotD s = some (.lst es) ∧ ds.length + es.length ≤ sizeLine ∧ Q (.sh .non) (ρ1.set i (.ow b (.lst (ds ++ es))))
theorem run_ext (i : Nat) (h : PWE X e te) : RunE X.K (tBM X.K "list" rExtend (tVar i) (tCons (tSem X e) tNil)) (vExt i te) := ⟨fun ρ Q Hk T σ H P ⟨⟨b0, ds0, e0⟩, q⟩ hh p => by
  obtain ⟨p0, vs0, ev, hp0, _, _⟩ := hh.mutL e0
  refine ⟨.ref p0, ev, .inl ⟨rfl, vs0, .of hp0⟩, h.run ρ _ Hk T σ H _ q hh fun v H1 Hk1 ρ1 s e1 h1 k1 ⟨b, ds, es, e2, hs, hz, q1⟩ => ?_⟩
  obtain ⟨Hk2, e3, rd, h2⟩ := h1.know_top hs
  obtain ⟨p1, vs1, ev1, hp1, r1, mu⟩ := h2.mutL e2
  rw [ev] at ev1; cases ev1
  cases rd with
  | lst hq rq => exact ⟨p0, _, vs1, _, rfl, rfl, hp1, h2.ex _ _ hq, by rw [r1.length, rq.length]; exact hz, p _ _ Hk2 _ _ (e1.trans e3) ((mu _ _ (r1.append rq)).sh .non) (k1.trans (kp_ow e2)) q1⟩⟩

/-! ### statements -/
variable {st : Stmt}
/-- x[k] = e, a list -/
def vSetL (i : Nat) (tk te : VE) : VS := fun R ρ => te ρ fun s ρ1 => (∃ b ds, ρ1[i]? = some (.ow b (.lst ds))) ∧ tk ρ1 fun sk ρ2 => ∃ (k : Int) (j : Nat) (b : Bool) (ds : List D) (d : D), sk = .sh (.int k) ∧ ρ2[i]? = some (.ow b (.lst ds)) ∧ ixN ds.length k = some j ∧ slotD s = some d ∧
  R.nx (ρ2.set i (.ow b (.lst (ds.set j d))))
theorem pws_setL (i : Nat) (hp : PS X st (tAsg (tSem X e) (gSub (tVar i) (tSem X k) rSetL))) (hk : PWE X k tk) (h : PWE X e te) : PWS X st (vSetL i tk te) := ⟨fun ρ R Hk T σ H D q hh o => tSemS_of hp
  (h.run ρ _ Hk T σ H _ q hh fun v H1 Hk1 ρ1 s e1 h1 k1 ⟨⟨b0, ds0, e0⟩, q1⟩ => by
    obtain ⟨p0, vs0, ev, hp0, _, _⟩ := h1.mutL e0
    refine ⟨.ref p0, ev, hk.run ρ1 _ Hk1 ((some v, s) :: T) σ H1 _ q1 h1 fun u H2 Hk2 ρ2 sk e2 h2 k2 ⟨k, j, b, ds, d, hs, e3, hj, hd, q2⟩ => ?_⟩
    subst hs
    obtain ⟨v', ev', rv⟩ := h2.top
    cases ev'; cases rv
    obtain ⟨Hk3, e4, rd, h3⟩ := h2.pop.know_top hd
    obtain ⟨p1, vs1, ev1, hp1, r1, mu⟩ := h3.mutL e3
    rw [ev] at ev1; cases ev1
    exact ⟨p0, vs1, k, j, rfl, rfl, hp1, by rw [r1.length]; exact hj, o.nx σ _ Hk3 _ (e1.trans (e2.trans e4)) (mu _ _ (r1.set rd j)) (k1.trans (k2.trans (kp_ow e3))) q2⟩)⟩
/-- x[k] = e, a dict -/
def vPutD (i : Nat) (tk te : VE) : VS := fun R ρ => te ρ fun s ρ1 => (∃ b ds, ρ1[i]? = some (.ow b (.dct ds))) ∧ tk ρ1 fun sk ρ2 => ∃ (kd : D) (key : Key) (b : Bool) (ds : List (Key × D)) (d : D), sk = .sh kd ∧ keyD kd = some key ∧ ρ2[i]? = some (.ow b (.dct ds)) ∧ ds.length < sizeLine ∧ slotD s = some d ∧
  R.nx (ρ2.set i (.ow b (.dct (putD ds key d))))
theorem pws_putD (i : Nat) (hp : PS X st (sDPut (tVar i) (tSem X k) (tSem X e))) (hk : PWE X k tk) (h : PWE X e te) : PWS X st (vPutD i tk te) := ⟨fun ρ R Hk T σ H D q hh o => tSemS_of hp
  (h.run ρ _ Hk T σ H _ q hh fun v H1 Hk1 ρ1 s e1 h1 k1 ⟨⟨b0, ds0, e0⟩, q1⟩ => by
    obtain ⟨p0, vs0, ev, hp0, _, _⟩ := h1.mutD e0
    refine ⟨.ref p0, ev, hk.run ρ1 _ Hk1 ((some v, s) :: T) σ H1 _ q1 h1 fun u H2 Hk2 ρ2 sk e2 h2 k2 ⟨kd, key, b, ds, d, hs, hkey, e3, hz, hd, q2⟩ => ?_⟩
    subst hs
    obtain ⟨v', ev', rv⟩ := h2.top
    cases ev'
    have ek := rv.key hkey
    subst ek
    obtain ⟨Hk3, e4, rd, h3⟩ := h2.pop.know_top hd
    obtain ⟨p1, vs1, ev1, hp1, r1, mu⟩ := h3.mutD e3
    rw [ev] at ev1; cases ev1
    exact ⟨p0, _, rfl, .inl ⟨vs1, key, hp1, rfl, by rw [r1.length]; exact hz, rfl⟩, o.nx σ _ Hk3 _ (e1.trans (e2.trans e4)) (mu _ _ (r1.put rd)) (k1.trans (k2.trans (kp_ow e3))) q2⟩)⟩
/-- x[k], a list, by values -/
theorem pget_list : PGet X (fun o i H Q => ∃ p vs k v, o = .ref p ∧ i = .int k ∧ H p = some (.lst vs) ∧ 0 ≤ k ∧ vs[k.toNat]? = some v ∧ Q v H) := by
  intro pins s σ H o i ov iv Q I ro ri ⟨p, vs, k, v, e1, e2, hp, h0, hv, q⟩
  subst e1; subst e2
  cases ro
  obtain ⟨t, rfl⟩ := ri
  obtain ⟨its, r, pl, hz⟩ := I.list (.of hp)
  obtain ⟨w, ew, rw'⟩ := r.get hv
  have hl : k.toNat < vs.length := (List.getElem?_eq_some_iff.mp hv).1
  have hn := line63
  exact wpAny_getItem_list pl.isList h0 (by omega) (by simpa using ew) ⟨v, H, I, rw', q⟩
/-- x[k] op= e, a list -/
def vAugL (i : Nat) (op : Prim) (tk te : VE) : VS := fun R ρ => (∃ b ds, ρ[i]? = some (.ow b (.lst ds))) ∧ tk ρ fun sk ρ1 => ∃ (k : Int) (b : Bool) (ds : List D) (d : D), sk = .sh (.int k) ∧ ρ1[i]? = some (.ow b (.lst ds)) ∧ 0 ≤ k ∧ ds[k.toNat]? = some d ∧
  te ρ1 fun s ρ2 => ∃ (b' : Bool) (ds' : List D) (dy : D), slotD s = some dy ∧ ρ2[i]? = some (.ow b' (.lst ds')) ∧ k < ds'.length ∧ op [d, dy] fun ret => ∃ z, ret = .val z ∧ R.nx (ρ2.set i (.ow b' (.lst (ds'.set k.toNat z))))
theorem pws_augL {tip : TIp} {op : Prim} (i : Nat) (hp : PS X st (tAugS (tVar i) (tSem X k) (tSem X e) (fun o i H Q => ∃ p vs k v, o = .ref p ∧ i = .int k ∧ H p = some (.lst vs) ∧ 0 ≤ k ∧ vs[k.toNat]? = some v ∧ Q v H) tip rSetL)) (ho : PrimOk2 X tip op) (hk : PWE X k tk) (h : PWE X e te) :
    PWS X st (vAugL i op tk te) := ⟨fun ρ R Hk T σ H D ⟨⟨b0, ds0, e0⟩, q⟩ hh o => tSemS_of hp (by
  obtain ⟨p0, vs0, ev, hp0, _, _⟩ := hh.mutL e0
  refine ⟨.ref p0, ev, hk.run ρ _ Hk T σ H _ q hh fun u H1 Hk1 ρ1 sk e1 h1 k1 ⟨k, b, ds, d, hs, e2, h0, hd, q1⟩ => ?_⟩
  subst hs
  obtain ⟨v', ev', rv⟩ := h1.top
  cases ev'; cases rv
  obtain ⟨p1, vs1, ev1, hp1, r1, _⟩ := h1.pop.mutL e2
  rw [ev] at ev1; cases ev1
  obtain ⟨x, hx, rx⟩ := r1.getD hd
  refine ⟨p0, vs1, k, x, rfl, rfl, hp1, h0, hx, h.run ρ1 _ Hk1 T σ H1 _ q1 h1.pop fun y H2 Hk2 ρ2 s e3 h2 k2 ⟨b', ds', dy, hy, e4, hlt, q2⟩ => ?_⟩
  refine ho Hk2 H2 x y d dy _ _ h2.ex (.known (rx.mono e3)) (HL.view h2.front hy) q2 fun ret ⟨z, ez, q3⟩ => ?_
  subst ez
  intro w rw'
  obtain ⟨p2, vs2, ev2, hp2, r2, mu⟩ := h2.pop.mutL e4
  rw [ev] at ev2; cases ev2
  have hj : ixN vs2.length k = some k.toNat := by
    unfold ixN
    rw [if_pos h0, if_pos (by rw [r2.length]; exact hlt)]
  exact ⟨p0, vs2, k, k.toNat, rfl, rfl, hp2, hj, o.nx σ _ Hk2 _ (e1.trans e3) (mu _ _ (r2.set rw' k.toNat)) (k1.trans (k2.trans (kp_ow e4))) q3⟩)⟩

/-! ### {} -/
def vNewD : VE := fun ρ Q => Q (.ow false (.dct [])) ρ
theorem run_newD : RunE X.K tDNewK vNewD := ⟨fun ρ Q Hk T σ H P q hh p => fun a ha => p _ _ Hk ρ _ (.refl _) (hh.own ha (.dct upd_same .nil)) (.refl _ _) q⟩
end
end WL

set_option Elab.async false
set_option linter.all false
set_option maxRecDepth 100000
set_option maxHeartbeats 4000000
/-! W9: displays, truth, joins, gets, walks over dicts. -/
namespace WL
open PySem PySem.Spec PyProof.Rows L2

def argV : Arg → Option D
  | .val s => slotD s
  | .pk _ => none
def argVs : List Arg → Option (List D)
  | [] => some []
  | a :: as => match argV a, argVs as with
    | some d, some ds => some (d :: ds)
    | _, _ => none
section
variable {K : PySem.W.Frag} {H : Hp} {ρ : Rho} {σ : L2.St}
theorem ArgsAt.known {as : List Arg} {vs : List V} {ts : List Cell} (h : ArgsAt σ as vs ts) : ∀ {Hk : Hp} {T : List Cell} {ds : List D}, argVs as = some ds → Holds K Hk ρ (ts ++ T) σ H → ∃ Hk', Same Hk Hk' ∧ Reps K Hk' vs ds ∧ Holds K Hk' ρ T σ H := by
  induction h with
  | nil => intro Hk T ds e hh; cases e; exact ⟨Hk, .refl _, .nil, hh⟩
  | cons ha t ih =>
    rename_i a v ta as vs us
    intro Hk T ds e hh
    have e' : (match argV a, argVs as with | some d, some ds => some (d :: ds) | _, _ => none) = some ds := e
    cases h1 : argV a with
    | none => rw [h1] at e'; cases e'
    | some d =>
      cases h2 : argVs as with
      | none => rw [h1, h2] at e'; cases e'
      | some es =>
        rw [h1, h2] at e'
        cases e'
        cases ha with
        | pk hv => cases h1
        | val =>
          rename_i s
          rw [List.append_assoc] at hh
          obtain ⟨Hk1, e1, r1, hh1⟩ := ih h2 hh
          obtain ⟨Hk2, e2, r2, hh2⟩ := hh1.know_top h1
          exact ⟨Hk2, e1.trans e2, .cons r2 (r1.mono e2), hh2⟩
end
section
variable {X : Cx} {e k f : Expr} {es : List Expr} {te tk tx : VE} {to tu : VO} {tas : VA} {pos : Pos}
def vLst (ta : VA) : VE := fun ρ Q => ta ρ fun as ρ1 => ∃ ds, argVs as = some ds ∧ ds.length ≤ sizeLine ∧ Q (.ow false (.lst ds)) ρ1
def vTup (ta : VA) : VE := fun ρ Q => ta ρ fun as ρ1 => ∃ ds, argVs as = some ds ∧ ds.length ≤ sizeLine ∧ Q (.sh (.tup ds)) ρ1
theorem pwe_lst (h : PWA X es tas) : PWE X (.List es pos) (vLst tas) := ⟨fun ρ Q Hk T σ H P q hh p => tSem_of (pe_lst pa_sem)
  (h.run ρ _ Hk T σ H _ q hh fun vs H1 Hk1 ρ1 as ts e1 has h1 k1 ⟨ds, hd, hz, q1⟩ => by
    obtain ⟨Hk2, e2, r2, h2⟩ := has.known hd h1
    exact ⟨by rw [r2.length]; exact hz, fun a ha => p _ _ Hk2 ρ1 _ (e1.trans e2) (h2.own ha (.lst upd_same r2)) k1 q1⟩)⟩
theorem pwe_tup {n : Nat} (h : PWA X es tas) : PWE X (.Tuple es n pos) (vTup tas) := ⟨fun ρ Q Hk T σ H P q hh p => tSem_of (pe_tup pa_sem)
  (h.run ρ _ Hk T σ H _ q hh fun vs H1 Hk1 ρ1 as ts e1 has h1 k1 ⟨ds, hd, hz, q1⟩ => by
    obtain ⟨Hk2, e2, r2, h2⟩ := has.known hd h1
    exact ⟨by rw [r2.length]; exact hz, fun a ha => p _ _ _ ρ1 _ (e1.trans (e2.trans (h2.know_same ha))) ((h2.know ha).sh (.tup upd_same (r2.mono (h2.know_same ha)))) k1 q1⟩)⟩
/-- truth -/
def truD : D → Option Bool
  | .non => some false
  | .bl b => some b
  | .int i => some (i != 0)
  | .lst ds => some (!ds.isEmpty)
  | .fls ds => some (!ds.isEmpty)
  | .tup ds => some (!ds.isEmpty)
  | _ => none
theorem Reps.isEmpty {K : PySem.W.Frag} {H : Hp} {vs : List V} {ds : List D} (r : Reps K H vs ds) : vs.isEmpty = ds.isEmpty := by cases r <;> rfl
theorem View.tru {K : PySem.W.Frag} {Hk H : Hp} {v : V} {d : D} {b : Bool} (ex : Same Hk H) (h : View K Hk H v d) (e : truD d = some b) : TruV K v H b := by
  cases d with
  | non => rw [h.non]; cases e; rfl
  | bl b => rw [h.bl]; cases e; rfl
  | int b => rw [h.int]; cases e; rfl
  | lst l => obtain ⟨a, vs, rfl, hr, rr⟩ := h.lst ex; cases e; exact .inl ⟨vs, .of hr, by rw [rr.isEmpty]⟩
  | fls l => obtain ⟨a, vs, rfl, hr, rr⟩ := h.fls ex; cases e; exact .inl ⟨vs, hr, by rw [rr.isEmpty]⟩
  | tup l => obtain ⟨a, vs, rfl, hr, rr⟩ := h.tup ex; cases e; exact .inr (.inl ⟨vs, .of hr, by rw [rr.isEmpty]⟩)
  | _ => cases e
def vTru (to : VO) : VT := fun ρ Q => to ρ fun a ρ1 => ∃ d b, argD ρ1 a = some d ∧ truD d = some b ∧ Q b ρ1
theorem pwt_truth (h : PWO X e to) (he : ∀ whole, isTrue e X.env whole = (do let v ← whole; standAt e.pos; holding [v] (truthy v)) := by intro _; rfl) : PWT X e (vTru to) := ⟨fun ρ Q Hk T σ H P q hh p => tSemT_of (pt_truth pe_sem he)
  (h.run ρ _ Hk T σ H _ q hh fun v H1 Hk1 ρ1 a ts e1 ha h1 k1 ⟨d, b, hd, hb, q1⟩ => ⟨b, (ha.view h1 hd).tru h1.ex hb, p b H1 Hk1 ρ1 e1 h1.drop k1 q1⟩)⟩
/-- sep.join(xs) -/
def joinP : Prim := fun ds R => ∃ (a : Str) (d : D) (l : List D) (ys : List Str), ds = [.str a, d] ∧ seqLD d = some l ∧ l = ys.map D.str ∧ (ys.map (·.length)).sum + ys.length * a.length ≤ 16777216 ∧ R (.val (.str (Txt.join a ys)))
/-- a text's method with one argument -/
def vM1 (op : Prim) (to tu : VO) : VE := fun ρ Q => to ρ fun a ρ1 => (∃ z, argD ρ1 a = some (.str z)) ∧ tu ρ1 fun b ρ2 => ∃ da db, argD ρ2 a = some da ∧ argD ρ2 b = some db ∧ op [da, db] fun ret => Q ret.slot ρ2
def PrimOkM (X : Cx) (r : V → List V → Hp → VK → Prop) (op : Prim) : Prop :=
  ∀ Hk H x y dx dy P R, Same Hk H → View X.K Hk H x dx → View X.K Hk H y dy → op [dx, dy] R → (∀ ret, R ret → RetK X.K Hk H P ret) → r x [y] H P
theorem run_m1 {r : V → List V → Hp → VK → Prop} {op : Prim} (ho : PrimOkM X r op) (ha : PWO X e to) (hb : PWO X f tu) : RunE X.K (tM1 r (tSem X e) (tSem X f)) (vM1 op to tu) := ⟨fun ρ Q Hk T σ H P q hh p =>
  ha.run ρ _ Hk T σ H _ q hh fun v H1 Hk1 ρ1 a ts e1 h1 hh1 k1 ⟨⟨z, hz⟩, q1⟩ => ⟨⟨z, (ArgAt.view hh1 h1 hz).str⟩, hb.run ρ1 _ Hk1 (ts ++ T) σ H1 _ q1 hh1 fun u H2 Hk2 ρ2 b us e2 h2 hh2 k2 ⟨da, db, hda, hdb, q2⟩ =>
    ho Hk2 H2 v u da db P _ hh2.ex (ArgAt.view (ts := ts) (T := T) hh2.drop h1 hda) (ArgAt.view (ts := us) (T := ts ++ T) hh2 h2 hdb) q2 fun ret hr => ret_post hh2.drop.drop (p.step (e1.trans e2) (k1.trans k2)) hr⟩⟩
theorem ok_join : PrimOkM X (fun x xs H Q => ∃ a p, ∃ ys : List Str, x = .str a ∧ xs = [.ref p] ∧ (SqL X.K H p (ys.map V.str) ∨ SqT X.K H p (ys.map V.str)) ∧ (ys.map (·.length)).sum + ys.length * a.length ≤ 16777216 ∧ Q (.str (Txt.join a ys)) H) joinP := by
  intro Hk H x y dx dy P R ex vx vy ⟨a, d, l, ys, e, hd, hl, hz, q⟩ k
  cases e
  subst hl
  obtain ⟨p, ws, rfl, hr, rr⟩ := vy.seqL ex (seqLD_eq hd)
  rw [rr.strs] at hr
  exact ⟨a, p, ys, vx.str, rfl, .inl hr, hz, k _ q _ .str⟩
/-- d.get(k, x) -/
def vGet2 (to : VO) (tk tx : VE) : VE := fun ρ Q => to ρ fun a ρ1 => (∃ kvs, argD ρ1 a = some (.dct kvs)) ∧ tk ρ1 fun sk ρ2 => tx ρ2 fun s ρ3 => ∃ kd key kvs, sk = .sh kd ∧ keyD kd = some key ∧ argD ρ3 a = some (.dct kvs) ∧ (∀ d, lookK kvs key = some d → Q (.sh d) ρ3) ∧ (lookK kvs key = none → Q s ρ3)
theorem run_get2 (ha : PWO X e to) (hk : PWE X k tk) (hf : PWE X f tx) : RunE X.K (tDGet2 (tSem X e) (tSem X k) (tSem X f)) (vGet2 to tk tx) := ⟨fun ρ Q Hk T σ H P q hh p =>
  ha.run ρ _ Hk T σ H _ q hh fun v H1 Hk1 ρ1 a ts e1 h1 hh1 k1 ⟨⟨kvs0, hz⟩, q1⟩ => by
    obtain ⟨ad, vs0, rfl, hr0, rr0⟩ := (ArgAt.view hh1 h1 hz).dct hh1.ex
    refine ⟨ad, rfl, .inl ⟨vs0, hr0⟩, hk.run ρ1 _ Hk1 (ts ++ T) σ H1 _ q1 hh1 fun y H2 Hk2 ρ2 sk e2 h2 k2 q2 => hf.run ρ2 _ Hk2 ((some y, sk) :: (ts ++ T)) σ H2 _ q2 h2 fun z H3 Hk3 ρ3 s e3 h3 k3 ⟨kd, key, kvs, hs, hkey, hd, qs, qn⟩ => ?_⟩
    subst hs
    have h3' : Holds X.K Hk3 ρ3 ((some y, .sh kd) :: ((some z, s) :: (ts ++ T))) σ H3 := h3.perm (.swap _ _ _)
    obtain ⟨y', ey, ry⟩ := h3'.top
    cases ey
    have eyk := ry.key hkey
    subst eyk
    obtain ⟨ad', vs, ea, hr, rr⟩ := (ArgAt.view (ts := ts) (T := T) h3.pop.pop h1 hd).dct h3.ex
    cases ea
    refine ⟨valV vs key, .inl ⟨vs, key, hr, rfl, rfl⟩, ?_⟩
    have ee := e1.trans (e2.trans e3)
    have kk := k1.trans (k2.trans k3)
    rcases rr.look (k := key) with ⟨l1, l2⟩ | ⟨w, d, l1, l2, rw'⟩
    · rw [l1]
      exact p z H3 Hk3 ρ3 s ee (h3'.pop.dropMid) kk (qn l2)
    · rw [l1]
      exact p w H3 Hk3 ρ3 _ ee (h3'.pop.pop.drop.sh rw') kk (qs d l2)⟩
end

/-! ### walks over dicts: the dict is locked meanwhile -/
def IsDk (H : Hp) (a : Addr) (kvs : List (Key × V)) : Prop := H a = some (.dK kvs) ∨ ∃ o, H a = some (.frz o (.dK kvs))
structure Sw (a : Addr) (kvs : List (Key × V)) (H H2 : Hp) : Prop where
  l : IsDk H a kvs
  r : IsDk H2 a kvs
  out : ∀ b, b ≠ a → H2 b = H b
section
variable {K : PySem.W.Frag} {a : Addr} {kvs : List (Key × V)} {H H2 Hk Hk2 : Hp}
theorem Sw.upd {u : HO} (h : IsDk H a kvs) (hu : u = .dK kvs ∨ ∃ o, u = .frz o (.dK kvs)) : Sw a kvs H (upd H a u) := by
  refine ⟨h, ?_, fun b hb => upd_ne hb⟩
  rcases hu with rfl | ⟨o, rfl⟩
  · exact .inl upd_same
  · exact .inr ⟨o, upd_same⟩
theorem Sw.notl (s : Sw a kvs H H2) {b : Addr} {vs : List V} (h : H b = some (.lst vs)) : H2 b = some (.lst vs) := by
  by_cases e : b = a
  · subst e; rcases s.l with l | ⟨o, l⟩ <;> rw [l] at h <;> cases h
  · rw [s.out b e]; exact h
theorem Sw.nott (s : Sw a kvs H H2) {b : Addr} {vs : List V} (h : H b = some (.tup vs)) : H2 b = some (.tup vs) := by
  by_cases e : b = a
  · subst e; rcases s.l with l | ⟨o, l⟩ <;> rw [l] at h <;> cases h
  · rw [s.out b e]; exact h
theorem Sw.rd (s : Sw a kvs H H2) {b : Addr} {u : HO} (hu : ∀ o w, u ≠ .frz o w) (h : Rd H b u) : Rd H2 b u := by
  by_cases e : b = a
  · subst e
    have : u = .dK kvs := by
      rcases s.l with l | ⟨o, l⟩ <;> rcases h with h | ⟨o', h⟩ <;> rw [l] at h <;> cases h
      · rfl
      · exact absurd rfl (hu o _)
      · rfl
    subst this
    exact s.r
  · unfold Rd; rw [s.out b e]; exact h
theorem Sw.sqL (s : Sw a kvs H H2) {b : Addr} {vs : List V} (h : SqL K H b vs) : SqL K H2 b vs := by
  rcases h with h | h
  · exact .inl (s.rd (fun _ _ z => by cases z) h)
  · exact .inr h
theorem Sw.sqT (s : Sw a kvs H H2) {b : Addr} {vs : List V} (h : SqT K H b vs) : SqT K H2 b vs := by
  rcases h with h | h
  · exact .inl (s.rd (fun _ _ z => by cases z) h)
  · exact .inr h
mutual
theorem Rep.sw {v : V} {d : D} (s : Sw a kvs H H2) : Rep K H v d → Rep K H2 v d
  | .non => .non
  | .bl => .bl
  | .int => .int
  | .str => .str
  | .lst h r => .lst (s.notl h) (Reps.sw s r)
  | .tup h r => .tup (s.nott h) (Reps.sw s r)
  | .fls h r => .fls (s.sqL h) (Reps.sw s r)
  | .ftp h r => .ftp (s.sqT h) (Reps.sw s r)
  | .dct h r => .dct (s.rd (fun _ _ z => by cases z) h) (RepK.sw s r)
  | .dcT h r => .dcT (s.rd (fun _ _ z => by cases z) h) (RepT.sw s r)
  | .opq => .opq
theorem Reps.sw {vs : List V} {ds : List D} (s : Sw a kvs H H2) : Reps K H vs ds → Reps K H2 vs ds
  | .nil => .nil
  | .cons h t => .cons (Rep.sw s h) (Reps.sw s t)
theorem RepK.sw {vs : List (Key × V)} {ds : List (Key × D)} (s : Sw a kvs H H2) : RepK K H vs ds → RepK K H2 vs ds
  | .nil => .nil
  | .cons h t => .cons (Rep.sw s h) (RepK.sw s t)
theorem RepT.sw {vs : List (List Key × V)} {ds : List (List Key × D)} (s : Sw a kvs H H2) : RepT K H vs ds → RepT K H2 vs ds
  | .nil => .nil
  | .cons h t => .cons (Rep.sw s h) (RepT.sw s t)
end
theorem OwnAt.sw {o : Own} {p : Addr} {fp : List Addr} (s : Sw a kvs Hk Hk2) (k : ∀ q ∈ fp, H2 q = H q) (h : OwnAt K Hk H o p fp) : OwnAt K Hk2 H2 o p fp := by
  cases h with
  | lst h r => exact .lst ((k _ (by simp)).trans h) (r.sw s)
  | dct h r => exact .dct ((k _ (by simp)).trans h) (r.sw s)
  | dcT h r => exact .dcT ((k _ (by simp)).trans h) (r.sw s)
theorem CellOk.sw {x : Option V} {sl : Slot} {fp : List Addr} (s : Sw a kvs Hk Hk2) (k : ∀ q ∈ fp, H2 q = H q) (h : CellOk K Hk H x sl fp) : CellOk K Hk2 H2 x sl fp := by
  cases h with
  | un => exact .un
  | sh r => exact .sh (r.sw s)
  | ow r => exact .ow (r.sw s k)
theorem Cells.sw (s : Sw a kvs Hk Hk2) : ∀ {L : List Cell} {F : List Addr}, (∀ q ∈ F, H2 q = H q) → Cells K Hk H L F → Cells K Hk2 H2 L F
  | _, _, _, .nil => .nil
  | _, _, k, .cons h t => .cons (h.sw s fun q hq => k q (List.mem_append_left _ hq)) (Cells.sw s (fun q hq => k q (List.mem_append_right _ hq)) t)
theorem HL.sw {L : List Cell} (h : HL K Hk H L) (s : Sw a kvs Hk Hk2) (s2 : Sw a kvs H H2) (e : H2 a = Hk2 a) : HL K Hk2 H2 L := by
  obtain ⟨F, hc, hn, hk⟩ := h.cells
  have ne : ∀ q ∈ F, q ≠ a := fun q hq z => by
    have := hk q hq
    rw [z] at this
    rcases s.l with l | ⟨o, l⟩ <;> rw [l] at this <;> cases this
  refine ⟨fun b o q => ?_, F, hc.sw s fun q hq => s2.out q (ne q hq), hn, fun q hq => by rw [s.out q (ne q hq)]; exact hk q hq⟩
  by_cases hb : b = a
  · subst hb; rw [e]; exact q
  · rw [s.out b hb] at q; rw [s2.out b hb]; exact h.ex b o q
theorem Holds.sw {ρ : Rho} {T : List Cell} {σ : L2.St} (h : Holds K Hk ρ T σ H) (s : Sw a kvs Hk Hk2) (s2 : Sw a kvs H H2) (e : H2 a = Hk2 a) : Holds K Hk2 ρ T σ H2 := ⟨h.len, h.hl.sw s s2 e⟩
/-- locked, unlocked -/
theorem Holds.lock {ρ : Rho} {T : List Cell} {σ : L2.St} (h : Holds K Hk ρ T σ H) (hk : Hk a = some (.dK kvs)) (od : Obj) : Holds K (upd Hk a (.frz od (.dK kvs))) ρ T σ (upd H a (.frz od (.dK kvs))) :=
  h.sw (.upd (.inl hk) (.inr ⟨od, rfl⟩)) (.upd (.inl (h.ex _ _ hk)) (.inr ⟨od, rfl⟩)) (by rw [upd_same, upd_same])
theorem Holds.unlock {ρ : Rho} {T : List Cell} {σ : L2.St} {od : Obj} (h : Holds K Hk ρ T σ H) (hk : Hk a = some (.frz od (.dK kvs))) : Holds K (upd Hk a (.dK kvs)) ρ T σ (upd H a (.dK kvs)) :=
  h.sw (.upd (.inr ⟨od, hk⟩) (.inl rfl)) (.upd (.inr ⟨od, h.ex _ _ hk⟩) (.inl rfl)) (by rw [upd_same, upd_same])
theorem same_unlock {od : Obj} (h : Hk a = some (.dK kvs)) (e : Same (upd Hk a (.frz od (.dK kvs))) Hk2) : Same Hk (upd Hk2 a (.dK kvs)) := fun b o q => by
  by_cases hb : b = a
  · subst hb; rw [h] at q; cases q; exact upd_same
  · rw [upd_ne hb]; exact e b o (by rw [upd_ne hb]; exact q)
theorem itok_keys {od : Obj} {T' : List Cell} {kds : List (Key × D)} (hk : Hk a = some (.frz od (.dK kvs))) (r : RepK K Hk kvs kds) : ItOk K Hk T' (Itk a od kvs) (kds.map fun kv => dK kv.1) where
  go := fun i Hk' H L e h hi => by
    have hH := h.ex _ _ (e _ _ hk)
    have hl : i < kvs.length := by rw [r.length]; simpa using hi
    refine ⟨⟨hH, hl⟩, fun x H' ⟨eH, k, v, hkv, ex⟩ => ?_⟩
    subst eH; subst ex
    have h1 : (kvs.map (·.1))[i]? = some k := by simp [hkv]
    rw [r.keys] at h1
    refine ⟨Hk', dK k, ?_, .refl _, ?_, fun _ m => m⟩
    · have h2 : ((kds.map (·.1)).map dK)[i]? = some (dK k) := by rw [List.getElem?_map, h1]; rfl
      simpa using h2
    · cases k
      · exact .int
      · exact .str
  stop := fun i Hk' H L e h hi => ⟨h.ex _ _ (e _ _ hk), by rw [r.length]; simpa using hi⟩
end
section
variable {X : Cx} {st : Stmt} {tg elt c : Expr} {body : List Stmt} {is : List Nat} {g : VG} {tb : VS} {te : VE} {tt : VT}
/-- for k in d, d a name -/
def vForK (i : Nat) (g : VG) (tb : VS) : VS := fun R ρ => ∃ kvs, ρ[i]? = some (.sh (.dct kvs)) ∧ ∃ I : Nat → Rho → Prop, I 0 ρ ∧
  (∀ j d ρ', (kvs.map fun kv => dK kv.1)[j]? = some d → I j ρ' → g d ρ' fun ρ2 => tb { R with nx := I (j + 1), ct := I (j + 1), bk := R.nx } ρ2) ∧ ∀ ρ', I (kvs.map fun kv => dK kv.1).length ρ' → R.nx ρ'
theorem pws_forK (i : Nat) (hp : PS X st (tFor (iKeys (tVar i)) (tSemG X tg) (tSemSs X body))) (hg : PWG X tg is g) (hb : PWSs X body tb) : PWS X st (vForK i g tb) := ⟨fun ρ R Hk T σ H D ⟨kds, e0, I, i0, turn, fin⟩ hh o => by
  obtain ⟨v, ev, rv⟩ := hh.get_sh e0
  cases rv with
  | dct hr rr =>
    rename_i a kvs
    rcases hr with hr | ⟨od, hr⟩
    · refine tSemS_of (ps_lock hp) ⟨a, .dK kvs, hh.ex _ _ hr, trivial, fun od => ?_⟩
      have h1 := hh.lock hr od
      have hl : upd Hk a (.frz od (.dK kvs)) a = some (.frz od (.dK kvs)) := upd_same
      have s1 : Sw a kvs Hk (upd Hk a (.frz od (.dK kvs))) := .upd (.inl hr) (.inr ⟨od, rfl⟩)
      refine ⟨.ref a, ev, a, od, rfl, .inl ⟨kvs, upd_same, for_core (T' := []) hg hb (itok_keys hl (rr.sw s1)) h1 ⟨?_, ?_, ?_, ?_⟩ I i0 turn fin⟩⟩
      · exact fun σ' H' Hk' ρ' e h k q => ⟨h.ex _ _ (e _ _ hl), o.nx σ' _ _ ρ' (same_unlock hr e) (h.unlock (e _ _ hl)) k q⟩
      · exact fun v σ' H' Hk' ρ' r e h k q => ⟨h.ex _ _ (e _ _ hl), o.rt v σ' _ _ ρ' r (same_unlock hr e) (h.unlock (e _ _ hl)) k q⟩
      · exact fun σ' H' Hk' ρ' e h k q => ⟨h.ex _ _ (e _ _ hl), o.bk σ' _ _ ρ' (same_unlock hr e) (h.unlock (e _ _ hl)) k q⟩
      · exact fun σ' H' Hk' ρ' e h k q => ⟨h.ex _ _ (e _ _ hl), o.ct σ' _ _ ρ' (same_unlock hr e) (h.unlock (e _ _ hl)) k q⟩
    · exact tSemS_of hp ⟨.ref a, ev, a, od, rfl, .inl ⟨kvs, hh.ex _ _ hr, for_core (T' := []) hg hb (itok_keys hr rr) hh o I i0 turn fin⟩⟩⟩
/-- [.. for k in d ..], d a name -/
def vLcK (i : Nat) (g : VG) (tt : VT) (te : VE) (vs : List Nat) : VE := fun ρ Q => ∃ kvs, ρ[i]? = some (.sh (.dct kvs)) ∧ (∀ v ∈ vs, ∃ s, ρ[v]? = some s ∧ s.free = true) ∧ ∃ I : Nat → List D → Rho → Prop, I 0 [] (wipeR ρ vs) ∧
  (∀ j acc d ρ', (kvs.map fun kv => dK kv.1)[j]? = some d → I j acc ρ' → g d ρ' fun ρ2 => tt ρ2 fun b ρ3 =>
    (b = true → te ρ3 fun s ρ4 => ∃ dy, slotD s = some dy ∧ acc.length < sizeLine ∧ I (j + 1) (acc ++ [dy]) (wipeR ρ4 vs)) ∧ (b = false → I (j + 1) acc (wipeR ρ3 vs))) ∧
  ∀ acc ρ', I (kvs.map fun kv => dK kv.1).length acc ρ' → Q (.ow false (.lst acc)) ρ'
theorem pwe_lcK {e : Expr} {g' : TG} {tt' : TT} {te' : TE} {vs : List Nat} (i : Nat) (hp : PE X e (tLc (iKeys (tVar i)) g' tt' te' vs)) (hg : RunG X.K g' is g) (ht : RunT X.K tt' tt) (he : RunE X.K te' te) (his : ∀ j ∈ is, j ∈ vs) :
    PWE X e (vLcK i g tt te vs) := ⟨fun ρ Q Hk T σ H P ⟨kds, e0, fr, I, i0, turn, fin⟩ hh p => by
  obtain ⟨v, ev, rv⟩ := hh.get_sh e0
  cases rv with
  | dct hr rr =>
    rename_i a kvs
    rcases hr with hr | ⟨od, hr⟩
    · refine tSem_of (pe_lock hp) ⟨a, .dK kvs, hh.ex _ _ hr, trivial, fun od => ?_⟩
      have h1 := hh.lock hr od
      have hl : upd Hk a (.frz od (.dK kvs)) a = some (.frz od (.dK kvs)) := upd_same
      have s1 : Sw a kvs Hk (upd Hk a (.frz od (.dK kvs))) := .upd (.inl hr) (.inr ⟨od, rfl⟩)
      refine ⟨.ref a, ev, a, od, rfl, .inl ⟨kvs, upd_same, lc_core1 (T' := []) (P := fun v H' => H' a = some (.frz od (.dK kvs)) ∧ P v (upd H' a (.dK kvs))) hg ht he his (itok_keys hl (rr.sw s1)) h1 ?_ fr I i0 turn fin⟩⟩
      exact fun v H' Hk' ρ' r e h k q => ⟨h.ex _ _ (e _ _ hl), p v _ _ ρ' r (same_unlock hr e) (h.unlock (e _ _ hl)) k q⟩
    · exact tSem_of hp ⟨.ref a, ev, a, od, rfl, .inl ⟨kvs, hh.ex _ _ hr, lc_core1 (T' := []) hg ht he his (itok_keys hr rr) hh p fr I i0 turn fin⟩⟩⟩
variable {scope : Scope} {own : List (Str × Nat)} {pos : Pos} {iter : Expr}
theorem pe_lcK0 {ti : TI} (hc : X.calm = true) (hN : X.N.Nodup) (hi : PI X tg iter ti) (ok : BlkOk X.N X.env.scope scope own) (hs : ∀ x, foldedSetIterable iter X.env x = pure x := by intro _; rfl) :
    PE X (.ListComp elt [⟨tg, iter, [], 0⟩] scope pos) (tLc ti (gU X scope tg) tYes (eU X scope elt) (own.map (·.2))) :=
  pe_lc hc hN hi ok (fun _ _ _ _ _ => pg_U) (fun _ _ _ _ _ => pts_nil) (fun _ _ _ _ _ => pe_U) hs
theorem pe_lcK1 {ti : TI} (hc : X.calm = true) (hN : X.N.Nodup) (hi : PI X tg iter ti) (ok : BlkOk X.N X.env.scope scope own) (hs : ∀ x, foldedSetIterable iter X.env x = pure x := by intro _; rfl) :
    PE X (.ListComp elt [⟨tg, iter, [c], 0⟩] scope pos) (tLc ti (gU X scope tg) (cU X scope c) (eU X scope elt) (own.map (·.2))) :=
  pe_lc hc hN hi ok (fun _ _ _ _ _ => pg_U) (fun _ _ _ _ _ => pts_one pt_U) (fun _ _ _ _ _ => pe_U) hs
end

/-! ### a, b = a list -/
section
variable {X : Cx}
def gL (is : List Nat) : VG := fun d ρ Q => ∃ ds, seqLD d = some ds ∧ ds.length = is.length ∧ gTs is ds ρ Q
theorem rung_lst {K : PySem.W.Frag} (is : List Nat) : RunG K (gLst K is.length (gNames is)) is (gL is) := ⟨fun d ρ Q Hk T σ H v P ⟨ds, ed, hl, q⟩ r hh p => by
  obtain ⟨a, vs, rfl, hr, rr⟩ := (View.known (H := H) r).seqL hh.ex (seqLD_eq ed)
  exact ⟨a, vs, rfl, hr, rr.length.trans hl, gnames_run q rr hh p⟩⟩
end
end WL

set_option Elab.async false
set_option linter.all false
set_option maxRecDepth 100000
set_option maxHeartbeats 4000000
/-! WA: a def as its callers see it; [..] stored at once. -/
namespace WL
open PySem PySem.Spec PyProof.Rows L2

/-- a def of the module, at a level, by its promise over values -/
structure Def (P : Program) (w : World) (K : PySem.W.Frag) (mg : Str → Option Value) (base : Heap) (k : Nat) (x : Str) (ps : List Str) (SS : VSp) : Prop where
  ex : ∃ f fd, FnOk P w K mg base CX0 k f fd ps (spV K SS) ∧ mg x = some (.ref f) ∧ PySem.W.keepIn K (.ref f) = true ∧ Binds K fd ps []
theorem Def.mono {P : Program} {w : World} {K : PySem.W.Frag} {mg : Str → Option Value} {base : Heap} {j k : Nat} {x : Str} {ps : List Str} {SS : VSp} (h : Def P w K mg base j x ps SS) (hk : j ≤ k) : Def P w K mg base k x ps SS := by
  obtain ⟨f, fd, F, g, kp, b⟩ := h.ex
  exact ⟨f, fd, F.mono hk, g, kp, b⟩
section
variable {X : Cx} {x : Str} {ps : List Str} {SS : VSp} {k : Nat} {e : Expr} {es : List Expr} {tas : VA} {p pos : Pos}
theorem pwe_callD (D : Def X.prog X.w X.K X.mg X.base k x ps SS) (hr : Room k X.A) (hg : Gl X x) (ha : PWA X (e :: es) tas) (hd : (x == ("__debug__" : Str)) = false := by decide)
    (h1 : starEach (e :: es) X.env = (false, eval e X.env) :: starEach es X.env := by rfl) (h2 : ((backTo pos (starEach es X.env)).any fun x => x.1) = false := by rfl) : PWE X (.Call (.Name x p) (e :: es) [] pos) (vCall SS tas) := by
  obtain ⟨f, fd, F, g, kp, b⟩ := D.ex
  exact pwe_of (pe_call F hr hg g kp b .nil pass0 pa_sem hd h1 h2) (run_call ha)
variable {elt tg iter c : Expr} {scope : Scope} {own : List (Str × Nat)} {y : Str} {py spos : Pos} {i : Nat}
theorem ps_setLc0 {ti : TI} (hc : X.calm = true) (hN : X.N.Nodup) (hy : X.N[i]? = some y) (hyl : X.env.scope.names.lookup y = some .local) (hsw : swapsWith (.ListComp elt [⟨tg, iter, [], 0⟩] scope pos) (some (.Name y py)) spos.line X.env = pure true) (hi : PI X tg iter ti)
    (ok : BlkOk X.N X.env.scope scope own) (hs : ∀ x, foldedSetIterable iter X.env x = pure x := by intro _; rfl) :
    PS X (.Assign [.Name y py] (.ListComp elt [⟨tg, iter, [], 0⟩] scope pos) spos) (tAsg (tLc ti (gU X scope tg) tYes (eU X scope elt) (own.map (·.2))) (gName i)) :=
  ps_setLc hc hN hy hyl hsw hi ok (fun _ _ _ _ _ => pg_U) (fun _ _ _ _ _ => pts_nil) (fun _ _ _ _ _ => pe_U) hs
theorem ps_setLc1 {ti : TI} (hc : X.calm = true) (hN : X.N.Nodup) (hy : X.N[i]? = some y) (hyl : X.env.scope.names.lookup y = some .local) (hsw : swapsWith (.ListComp elt [⟨tg, iter, [c], 0⟩] scope pos) (some (.Name y py)) spos.line X.env = pure true) (hi : PI X tg iter ti)
    (ok : BlkOk X.N X.env.scope scope own) (hs : ∀ x, foldedSetIterable iter X.env x = pure x := by intro _; rfl) :
    PS X (.Assign [.Name y py] (.ListComp elt [⟨tg, iter, [c], 0⟩] scope pos) spos) (tAsg (tLc ti (gU X scope tg) (cU X scope c) (eU X scope elt) (own.map (·.2))) (gName i)) :=
  ps_setLc hc hN hy hyl hsw hi ok (fun _ _ _ _ _ => pg_U) (fun _ _ _ _ _ => pts_one pt_U) (fun _ _ _ _ _ => pe_U) hs
/-- x = [.. for k in d ..]: the whole statement under the lock -/
theorem pws_setLcK {st : Stmt} {g' : TG} {is : List Nat} {g : VG} {tt' : TT} {tt : VT} {te' : TE} {te : VE} {vs : List Nat} {j : Nat} (i : Nat) (hp : PS X st (tAsg (tLc (iKeys (tVar i)) g' tt' te' vs) (gName j))) (hg : RunG X.K g' is g) (ht : RunT X.K tt' tt) (he : RunE X.K te' te) (his : ∀ j ∈ is, j ∈ vs) :
    PWS X st (vSet j (vLcK i g tt te vs)) := ⟨fun ρ R Hk T σ H D ⟨kds, e0, fr, I, i0, turn, fin⟩ hh o => by
  obtain ⟨v, ev, rv⟩ := hh.get_sh e0
  cases rv with
  | dct hr rr =>
    rename_i a kvs
    have post : ∀ {Hk : Hp} {D : Ends}, OutOk X.K Hk T σ ρ R D → Post X.K Hk T σ ρ (fun s ρ1 => ∃ s0, ρ1[j]? = some s0 ∧ s0.free = true ∧ R.nx (ρ1.set j s)) (fun x H1 => D.nx (σ.set j (some x)) H1) := fun o v H' Hk' ρ' r e h' k' ⟨s0, e0, hf, q'⟩ => o.nx _ H' Hk' _ e (h'.store e0) (k'.trans (kp_store e0 hf)) q'
    rcases hr with hr | ⟨od, hr⟩
    · refine tSemS_of (ps_lock hp) ⟨a, .dK kvs, hh.ex _ _ hr, trivial, fun od => ?_⟩
      have h1 := hh.lock hr od
      have hl : upd Hk a (.frz od (.dK kvs)) a = some (.frz od (.dK kvs)) := upd_same
      have s1 : Sw a kvs Hk (upd Hk a (.frz od (.dK kvs))) := .upd (.inl hr) (.inr ⟨od, rfl⟩)
      refine ⟨.ref a, ev, a, od, rfl, .inl ⟨kvs, upd_same, lc_core1 (T' := []) hg ht he his (itok_keys hl (rr.sw s1)) h1 (Q := fun s ρ1 => ∃ s0, ρ1[j]? = some s0 ∧ s0.free = true ∧ R.nx (ρ1.set j s)) (P := fun x H1 => (H1 a = some (.frz od (.dK kvs)) ∧ D.nx (σ.set j (some x)) (upd H1 a (.dK kvs)))) ?_ fr I i0 turn fin⟩⟩
      refine post (D := ⟨fun σ' H' => H' a = some (.frz od (.dK kvs)) ∧ D.nx σ' (upd H' a (.dK kvs)), fun v H' => H' a = some (.frz od (.dK kvs)) ∧ D.rt v (upd H' a (.dK kvs)), fun σ' H' => H' a = some (.frz od (.dK kvs)) ∧ D.bk σ' (upd H' a (.dK kvs)), fun σ' H' => H' a = some (.frz od (.dK kvs)) ∧ D.ct σ' (upd H' a (.dK kvs))⟩) ⟨?_, ?_, ?_, ?_⟩
      · exact fun σ' H' Hk' ρ' e h k q => ⟨h.ex _ _ (e _ _ hl), o.nx σ' _ _ ρ' (same_unlock hr e) (h.unlock (e _ _ hl)) k q⟩
      · exact fun v σ' H' Hk' ρ' r e h k q => ⟨h.ex _ _ (e _ _ hl), o.rt v σ' _ _ ρ' r (same_unlock hr e) (h.unlock (e _ _ hl)) k q⟩
      · exact fun σ' H' Hk' ρ' e h k q => ⟨h.ex _ _ (e _ _ hl), o.bk σ' _ _ ρ' (same_unlock hr e) (h.unlock (e _ _ hl)) k q⟩
      · exact fun σ' H' Hk' ρ' e h k q => ⟨h.ex _ _ (e _ _ hl), o.ct σ' _ _ ρ' (same_unlock hr e) (h.unlock (e _ _ hl)) k q⟩
    · exact tSemS_of hp ⟨.ref a, ev, a, od, rfl, .inl ⟨kvs, hh.ex _ _ hr, lc_core1 (T' := []) hg ht he his (itok_keys hr rr) hh (Q := fun s ρ1 => ∃ s0, ρ1[j]? = some s0 ∧ s0.free = true ∧ R.nx (ρ1.set j s)) (post o) fr I i0 turn fin⟩⟩⟩
end

section
variable {X : Cx} {e : Expr} {te : VE} {st : Stmt} {is : List Nat} {g : VG}
/-- a value that is shared at once -/
def vSh (te : VE) : VE := fun ρ Q => te ρ fun s ρ1 => ∃ d, slotD s = some d ∧ Q (.sh d) ρ1
theorem pwe_sh (h : PWE X e te) : PWE X e (vSh te) := ⟨fun ρ Q Hk T σ H P q hh p => h.run ρ _ Hk T σ H P q hh fun v H' Hk' ρ' r e' h' k' ⟨d, hd, q'⟩ => by
  obtain ⟨Hk2, e2, rd, h2⟩ := h'.know_top hd
  exact p v H' Hk2 ρ' _ (e'.trans e2) (h2.sh rd) k' q'⟩
/-- a target of any form = e -/
def vAsg (g : VG) (te : VE) : VS := fun R ρ => te ρ fun s ρ1 => ∃ d, slotD s = some d ∧ g d ρ1 R.nx
theorem pws_asg {tg : Expr} {tt : TE} (hp : PS X st (tAsg tt (tSemG X tg))) (hg : PWG X tg is g) (h : RunE X.K tt te) : PWS X st (vAsg g te) := ⟨fun ρ R Hk T σ H D q hh o => tSemS_of hp
  (h.run ρ _ Hk T σ H _ q hh fun v H' Hk' ρ' r e h' k' ⟨d, hd, q'⟩ => by
    obtain ⟨Hk2, e2, rd, h2⟩ := h'.know_top hd
    exact hg.run.run d ρ' _ Hk2 T σ H' v _ q' rd h2 fun σ3 H3 Hk3 ρ3 e3 h3 k3 _ q3 => o.nx σ3 H3 Hk3 ρ3 (e.trans (e2.trans e3)) h3 (k'.trans k3) q3)⟩
/-- a def that is never called -/
theorem Def.never {P : Program} {w : World} {K : PySem.W.Frag} {mg : Str → Option Value} {base : Heap} {k : Nat} {x qual : Str} {ps : List Str} {st : Stmt} {f : Addr} {fd : FuncData} (F : Fun K x qual st f fd) (g : mg x = some (.ref f))
    (b : Binds K fd ps []) : Def P w K mg base k x ps (fun _ _ => False) :=
  ⟨f, fd, ⟨fun vs H Q E h => by obtain ⟨_, _, _, _, _, _, _, z, _⟩ := h; exact z.elim, fun A outer s H args us vs Q E _ _ _ _ h => by obtain ⟨_, _, _, _, _, _, _, z, _⟩ := h; exact z.elim⟩, g, F.kp, b⟩
end
end WL

set_option Elab.async false
set_option linter.all false
set_option maxRecDepth 100000
set_option maxHeartbeats 4000000
/-! WB: readings of values run step by step: one rule a head. -/
namespace WL
open PySem PySem.Spec PyProof.Rows L2

section
variable {nx bk ct : Rho → Prop} {rt : Slot → Rho → Prop} {t u : VS} {te ta tb : VE} {to tu : VO} {tas : VA} {tt t1 t2 : VT} {ρ ρ' ρ1 : Rho} {i : Nat} {Q : VK0} {QB : Bool → Rho → Prop} {QO : Arg → Rho → Prop} {QA : List Arg → Rho → Prop} {op : Prim}
  {s s0 s1 : Slot} {d : D} {ds es : List D} {b : Bool} {R : Ret → Prop}

/-! ### statements -/
theorem u_next (h : nx ρ) : vNext (.mk nx rt bk ct) ρ := h
theorem u_break (h : bk ρ) : vBreak (.mk nx rt bk ct) ρ := h
theorem u_cont (h : ct ρ) : vCont (.mk nx rt bk ct) ρ := h
theorem u_seq (h : t (.mk (fun ρ' => u (.mk nx rt bk ct) ρ') rt bk ct) ρ) : vSeq t u (.mk nx rt bk ct) ρ := h
def kSet (i : Nat) (nx : Rho → Prop) : VK0 := fun s ρ1 => ∃ s0, ρ1[i]? = some s0 ∧ s0.free = true ∧ nx (ρ1.set i s)
theorem u_set (h : te ρ (kSet i nx)) : vSet i te (.mk nx rt bk ct) ρ := h
theorem k_set (e : ρ[i]? = some s0) (hf : s0.free = true) (k : nx ρ') (hs : ρ.set i s = ρ' := by dsimp only [List.set]) : kSet i nx s ρ := ⟨s0, e, hf, by rw [hs]; exact k⟩
def kExpr (nx : Rho → Prop) : VK0 := fun _ ρ1 => nx ρ1
theorem u_expr (h : te ρ (kExpr nx)) : vExpr te (.mk nx rt bk ct) ρ := h
theorem k_expr (h : nx ρ) : kExpr nx s ρ := h
theorem u_ret (h : te ρ rt) : vRet te (.mk nx rt bk ct) ρ := h
theorem u_retN (h : rt (.sh .non) ρ) : vRetN (.mk nx rt bk ct) ρ := h
def kIf (t u : VS) (R : Out) : Bool → Rho → Prop := fun k ρ1 => (k = true → t R ρ1) ∧ (k = false → u R ρ1)
theorem u_if (h : tt ρ (kIf t u (.mk nx rt bk ct))) : vIf tt t u (.mk nx rt bk ct) ρ := h
theorem k_ifT {R : Out} (h : t R ρ) : kIf t u R true ρ := ⟨fun _ => h, fun z => by cases z⟩
theorem k_ifF {R : Out} (h : u R ρ) : kIf t u R false ρ := ⟨fun z => (by cases z), fun _ => h⟩
theorem k_ifD {R : Out} {p : Prop} [Decidable p] (h : p → t R ρ) (h2 : ¬ p → u R ρ) : kIf t u R (decide p) ρ := ⟨fun z => h (of_decide_eq_true z), fun z => h2 (of_decide_eq_false z)⟩
theorem k_ifN {R : Out} {p : Prop} [Decidable p] (h : ¬ p → t R ρ) (h2 : p → u R ρ) : kIf t u R (!decide p) ρ := by
  by_cases hp : p
  · rw [decide_eq_true hp]; exact k_ifF (h2 hp)
  · rw [decide_eq_false hp]; exact k_ifT (h hp)
theorem k_if {R : Out} (h : b = true → t R ρ) (h2 : b = false → u R ρ) : kIf t u R b ρ := ⟨h, h2⟩
def kAug (i : Nat) (op : Prim) (d : D) (nx : Rho → Prop) : VK0 := fun s ρ1 => ∃ dy, slotD s = some dy ∧ (∃ d1, ρ1[i]? = some (.sh d1)) ∧ op [d, dy] fun ret => nx (ρ1.set i ret.slot)
theorem u_aug (e : ρ[i]? = some (.sh d)) (h : te ρ (kAug i op d nx)) : vAug i op te (.mk nx rt bk ct) ρ := ⟨d, e, h⟩
theorem k_aug {dy d1 : D} (e : slotD s = some dy) (e1 : ρ[i]? = some (.sh d1)) (h : op [d, dy] fun ret => nx (ρ.set i ret.slot)) : kAug i op d nx s ρ := ⟨dy, e, ⟨d1, e1⟩, h⟩
/-- two ints -/
theorem k_augAdd {x y : Int} {d1 : D} (e1 : ρ[i]? = some (.sh d1)) (h : nx ρ') (hs : ρ.set i (.sh (.int (x + y))) = ρ' := by dsimp only [List.set]) : kAug i iaddP (.int x) nx (.sh (.int y)) ρ := ⟨.int y, rfl, ⟨d1, e1⟩, by show nx (ρ.set i (.sh (.int (x + y)))); rw [hs]; exact h⟩
theorem k_augSub {x y : Int} {d1 : D} (e1 : ρ[i]? = some (.sh d1)) (h : nx ρ') (hs : ρ.set i (.sh (.int (x - y))) = ρ' := by dsimp only [List.set]) : kAug i subP (.int x) nx (.sh (.int y)) ρ := ⟨.int y, rfl, ⟨d1, e1⟩, by show nx (ρ.set i (.sh (.int (x - y)))); rw [hs]; exact h⟩
def kAsg (g : VG) (nx : Rho → Prop) : VK0 := fun s ρ1 => ∃ d, slotD s = some d ∧ g d ρ1 nx
theorem u_asg {g : VG} (h : te ρ (kAsg g nx)) : vAsg g te (.mk nx rt bk ct) ρ := h
theorem k_asg {g : VG} (e : slotD s = some d) (h : g d ρ nx) : kAsg g nx s ρ := ⟨d, e, h⟩

/-! ### expressions -/
theorem u_var (e : ρ[i]? = some (.sh d)) (h : Q (.sh d) ρ) : vVar i ρ Q := .inl ⟨d, e, h⟩
theorem u_varL (e : ρ[i]? = some (.ow false (.lst ds))) (h : Q (.sh (.lst ds)) ρ') (hs : ρ.set i (.sh (.lst ds)) = ρ' := by dsimp only [List.set]) : vVar i ρ Q := .inr ⟨.lst ds, e, by subst hs; exact h⟩
theorem u_varD {kvs : List (Key × D)} (e : ρ[i]? = some (.ow false (.dct kvs))) (h : Q (.sh (.dct kvs)) ρ') (hs : ρ.set i (.sh (.dct kvs)) = ρ' := by dsimp only [List.set]) : vVar i ρ Q := .inr ⟨.dct kvs, e, by subst hs; exact h⟩
theorem u_varE {kvs : List (List Key × D)} (e : ρ[i]? = some (.ow false (.dcT kvs))) (h : Q (.sh (.dcT kvs)) ρ') (hs : ρ.set i (.sh (.dcT kvs)) = ρ' := by dsimp only [List.set]) : vVar i ρ Q := .inr ⟨.dcT kvs, e, by subst hs; exact h⟩
theorem u_mv (e : ρ[i]? = some (.sh d)) (h : Q (.sh d) ρ) : vMv i ρ Q := .inl ⟨d, e, h⟩
theorem u_mvO {o : Own} (e : ρ[i]? = some (.ow false o)) (h : Q (.ow false o) ρ') (hs : ρ.set i .un = ρ' := by dsimp only [List.set]) : vMv i ρ Q := .inr ⟨o, e, by subst hs; exact h⟩
theorem u_c (h : Q (.sh d) ρ) : vC d ρ Q := h
def kVal (QO : Arg → Rho → Prop) : VK0 := fun s ρ' => QO (.val s) ρ'
theorem u_val (h : te ρ (kVal QO)) : vVal te ρ QO := h
theorem k_val (h : QO (.val s) ρ) : kVal QO s ρ := h
theorem u_pk (e : ρ[i]? = some s) (ed : slotD s = some d) (h : QO (.pk i) ρ) : vPk i ρ QO := ⟨s, d, e, ed, h⟩
def kSh (Q : VK0) : VK0 := fun s ρ1 => ∃ d, slotD s = some d ∧ Q (.sh d) ρ1
theorem u_sh (h : te ρ (kSh Q)) : vSh te ρ Q := h
theorem k_sh (h : Q (.sh d) ρ) : kSh Q (.sh d) ρ := ⟨d, rfl, h⟩
theorem k_shL (h : Q (.sh (.lst ds)) ρ) : kSh Q (.ow b (.lst ds)) ρ := ⟨.lst ds, rfl, h⟩
theorem k_shD {kvs : List (Key × D)} (h : Q (.sh (.dct kvs)) ρ) : kSh Q (.ow b (.dct kvs)) ρ := ⟨.dct kvs, rfl, h⟩
def kRet (Q : VK0) (ρ : Rho) : Ret → Prop := fun ret => Q ret.slot ρ
theorem k_retV (h : Q (.sh d) ρ) : kRet Q ρ (.val d) := h
theorem k_retL (h : Q (.ow false (.lst ds)) ρ) : kRet Q ρ (.newL ds) := h
theorem k_retT (h : Q (.sh (.tup ds)) ρ) : kRet Q ρ (.newT ds) := h
theorem k_retD {kvs : List (Key × D)} (h : Q (.ow false (.dct kvs)) ρ) : kRet Q ρ (.newD kvs) := h
def kBin2 (op : Prim) (a : Arg) (Q : VK0) : Arg → Rho → Prop := fun b ρ2 => ∃ da db, argD ρ2 a = some da ∧ argD ρ2 b = some db ∧ op [da, db] (kRet Q ρ2)
def kBin1 (op : Prim) (tb : VO) (Q : VK0) : Arg → Rho → Prop := fun a ρ1 => tb ρ1 (kBin2 op a Q)
theorem u_bin (h : to ρ (kBin1 op tu Q)) : vBin op to tu ρ Q := h
theorem k_bin1 {a : Arg} (h : tu ρ (kBin2 op a Q)) : kBin1 op tu Q a ρ := h
theorem k_bin2 {a b : Arg} {da db : D} (ha : argD ρ a = some da) (hb : argD ρ b = some db) (h : op [da, db] (kRet Q ρ)) : kBin2 op a Q b ρ := ⟨da, db, ha, hb, h⟩
def kUn (op : Prim) (Q : VK0) : Arg → Rho → Prop := fun a ρ1 => ∃ da, argD ρ1 a = some da ∧ op [da] (kRet Q ρ1)
theorem u_un (h : to ρ (kUn op Q)) : vUn op to ρ Q := h
theorem k_un {a : Arg} {da : D} (ha : argD ρ a = some da) (h : op [da] (kRet Q ρ)) : kUn op Q a ρ := ⟨da, ha, h⟩
theorem u_nil (h : QA [] ρ) : vNil ρ QA := h
def kCons2 (a : Arg) (QA : List Arg → Rho → Prop) : List Arg → Rho → Prop := fun as ρ2 => QA (a :: as) ρ2
def kCons1 (ta : VA) (QA : List Arg → Rho → Prop) : Arg → Rho → Prop := fun a ρ1 => ta ρ1 (kCons2 a QA)
theorem u_cons (h : to ρ (kCons1 tas QA)) : vCons to tas ρ QA := h
theorem k_cons1 {a : Arg} (h : tas ρ (kCons2 a QA)) : kCons1 tas QA a ρ := h
theorem k_cons2 {a : Arg} {as : List Arg} (h : QA (a :: as) ρ) : kCons2 a QA as ρ := h
def kPrim (op : Prim) (Q : VK0) : List Arg → Rho → Prop := fun as ρ1 => ∃ ds, argDs ρ1 as = some ds ∧ op ds (kRet Q ρ1)
theorem u_prim (h : tas ρ (kPrim op Q)) : vPrim op tas ρ Q := h
theorem k_prim1 {a : Arg} {da : D} (ha : argD ρ a = some da) (h : op [da] (kRet Q ρ)) : kPrim op Q [a] ρ := ⟨[da], by unfold argDs; rw [ha]; rfl, h⟩
theorem k_prim2 {a b : Arg} {da db : D} (ha : argD ρ a = some da) (hb : argD ρ b = some db) (h : op [da, db] (kRet Q ρ)) : kPrim op Q [a, b] ρ := ⟨[da, db], by unfold argDs argDs; rw [ha, hb]; rfl, h⟩
def kT (QB : Bool → Rho → Prop) : VK0 := fun s ρ' => ∃ k, s = .sh (.bl k) ∧ QB k ρ'
theorem u_t (h : te ρ (kT QB)) : vT te ρ QB := h
theorem k_t (h : QB b ρ) : kT QB (.sh (.bl b)) ρ := ⟨b, rfl, h⟩
def kTru (QB : Bool → Rho → Prop) : Arg → Rho → Prop := fun a ρ1 => ∃ d b, argD ρ1 a = some d ∧ truD d = some b ∧ QB b ρ1
theorem u_tru (h : to ρ (kTru QB)) : vTru to ρ QB := h
theorem k_tru {a : Arg} (ha : argD ρ a = some d) (hb : truD d = some b) (h : QB b ρ) : kTru QB a ρ := ⟨d, b, ha, hb, h⟩
def kAnd (t2 : VT) (QB : Bool → Rho → Prop) : Bool → Rho → Prop := fun k ρ1 => (k = true → t2 ρ1 QB) ∧ (k = false → QB false ρ1)
theorem u_and (h : t1 ρ (kAnd t2 QB)) : vAnd t1 t2 ρ QB := h
theorem k_and (h1 : b = true → t2 ρ QB) (h2 : b = false → QB false ρ) : kAnd t2 QB b ρ := ⟨h1, h2⟩
theorem k_andT (h : t2 ρ QB) : kAnd t2 QB true ρ := ⟨fun _ => h, fun z => by cases z⟩
theorem k_andF (h : QB false ρ) : kAnd t2 QB false ρ := ⟨fun z => (by cases z), fun _ => h⟩
def kOr (t2 : VT) (QB : Bool → Rho → Prop) : Bool → Rho → Prop := fun k ρ1 => (k = true → QB true ρ1) ∧ (k = false → t2 ρ1 QB)
theorem u_or (h : t1 ρ (kOr t2 QB)) : vOr t1 t2 ρ QB := h
theorem k_or (h1 : b = true → QB true ρ) (h2 : b = false → t2 ρ QB) : kOr t2 QB b ρ := ⟨h1, h2⟩
theorem k_orT (h : QB true ρ) : kOr t2 QB true ρ := ⟨fun _ => h, fun z => by cases z⟩
theorem k_orF (h : t2 ρ QB) : kOr t2 QB false ρ := ⟨fun z => (by cases z), fun _ => h⟩
def kNot (QB : Bool → Rho → Prop) : Bool → Rho → Prop := fun k ρ1 => QB (!k) ρ1
theorem u_not (h : t1 ρ (kNot QB)) : vNot t1 ρ QB := h
theorem k_not (h : QB (!b) ρ) : kNot QB b ρ := h
def kAndV (tb : VE) (Q : VK0) : VK0 := fun s ρ1 => ∃ k, s = .sh (.bl k) ∧ (k = true → tb ρ1 Q) ∧ (k = false → Q (.sh (.bl false)) ρ1)
theorem u_andV (h : ta ρ (kAndV tb Q)) : vAndV ta tb ρ Q := h
theorem k_andV (h1 : b = true → tb ρ Q) (h2 : b = false → Q (.sh (.bl false)) ρ) : kAndV tb Q (.sh (.bl b)) ρ := ⟨b, rfl, h1, h2⟩
theorem k_andVT (h : tb ρ Q) : kAndV tb Q (.sh (.bl true)) ρ := ⟨true, rfl, fun _ => h, fun z => by cases z⟩
def kOrV (tb : VE) (Q : VK0) : VK0 := fun s ρ1 => ∃ k, s = .sh (.bl k) ∧ (k = true → Q (.sh (.bl true)) ρ1) ∧ (k = false → tb ρ1 Q)
theorem u_orV (h : ta ρ (kOrV tb Q)) : vOrV ta tb ρ Q := h
theorem k_orV (h1 : b = true → Q (.sh (.bl true)) ρ) (h2 : b = false → tb ρ Q) : kOrV tb Q (.sh (.bl b)) ρ := ⟨b, rfl, h1, h2⟩
theorem k_orVT (h : Q (.sh (.bl true)) ρ) : kOrV tb Q (.sh (.bl true)) ρ := ⟨true, rfl, fun _ => h, fun z => by cases z⟩
theorem k_orVF (h : tb ρ Q) : kOrV tb Q (.sh (.bl false)) ρ := ⟨false, rfl, fun z => (by cases z), fun _ => h⟩
theorem k_andVF (h : Q (.sh (.bl false)) ρ) : kAndV tb Q (.sh (.bl false)) ρ := ⟨false, rfl, fun z => (by cases z), fun _ => h⟩
def kNotV (Q : VK0) : VK0 := fun s ρ1 => ∃ k, s = .sh (.bl k) ∧ Q (.sh (.bl (!k))) ρ1
theorem u_notV (h : ta ρ (kNotV Q)) : vNotV ta ρ Q := h
theorem k_notV (h : Q (.sh (.bl (!b))) ρ) : kNotV Q (.sh (.bl b)) ρ := ⟨b, rfl, h⟩
def kIfE (ta tb : VE) (Q : VK0) : Bool → Rho → Prop := fun k ρ1 => (k = true → ta ρ1 Q) ∧ (k = false → tb ρ1 Q)
theorem u_ifE (h : tt ρ (kIfE ta tb Q)) : vIfE tt ta tb ρ Q := h
theorem k_ifE (h1 : b = true → ta ρ Q) (h2 : b = false → tb ρ Q) : kIfE ta tb Q b ρ := ⟨h1, h2⟩
theorem k_ifEd {p : Prop} [Decidable p] (h : p → ta ρ Q) (h2 : ¬ p → tb ρ Q) : kIfE ta tb Q (decide p) ρ := ⟨fun z => h (of_decide_eq_true z), fun z => h2 (of_decide_eq_false z)⟩
theorem k_ifET (h : ta ρ Q) : kIfE ta tb Q true ρ := ⟨fun _ => h, fun z => by cases z⟩
theorem k_ifEF (h : tb ρ Q) : kIfE ta tb Q false ρ := ⟨fun z => (by cases z), fun _ => h⟩
/-- if both ways give an int -/
def kLst (Q : VK0) : List Arg → Rho → Prop := fun as ρ1 => ∃ ds, argVs as = some ds ∧ ds.length ≤ sizeLine ∧ Q (.ow false (.lst ds)) ρ1
theorem u_lst (h : tas ρ (kLst Q)) : vLst tas ρ Q := h
theorem k_lst {as : List Arg} (e : argVs as = some ds) (hz : ds.length ≤ sizeLine) (h : Q (.ow false (.lst ds)) ρ) : kLst Q as ρ := ⟨ds, e, hz, h⟩
def kTup (Q : VK0) : List Arg → Rho → Prop := fun as ρ1 => ∃ ds, argVs as = some ds ∧ ds.length ≤ sizeLine ∧ Q (.sh (.tup ds)) ρ1
theorem u_tup (h : tas ρ (kTup Q)) : vTup tas ρ Q := h
theorem k_tup {as : List Arg} (e : argVs as = some ds) (hz : ds.length ≤ sizeLine) (h : Q (.sh (.tup ds)) ρ) : kTup Q as ρ := ⟨ds, e, hz, h⟩
theorem u_newD (h : Q (.ow false (.dct [])) ρ) : vNewD ρ Q := h
/-! slices -/
def kSl3 (a : Arg) (lo hi : Option Int) (Q : VK0) (ρ3 : Rho) : Prop := ∃ d, argD ρ3 a = some d ∧ slP lo hi [d] (kRet Q ρ3)
def kSl2 (a : Arg) (lo : Option Int) (Q : VK0) : Option Int → Rho → Prop := fun hi ρ3 => kSl3 a lo hi Q ρ3
def kSl1 (a : Arg) (th : VPo) (Q : VK0) : Option Int → Rho → Prop := fun lo ρ2 => th ρ2 (kSl2 a lo Q)
def kSl0 (tl th : VPo) (Q : VK0) : Arg → Rho → Prop := fun a ρ1 => tl ρ1 (kSl1 a th Q)
variable {tl th : VPo} {lo hi : Option Int} {QP : Option Int → Rho → Prop}
theorem u_sl (h : to ρ (kSl0 tl th Q)) : vSl to tl th ρ Q := h
theorem k_sl0 {a : Arg} (h : tl ρ (kSl1 a th Q)) : kSl0 tl th Q a ρ := h
theorem k_sl1 {a : Arg} (h : th ρ (kSl2 a lo Q)) : kSl1 a th Q lo ρ := h
theorem k_sl2 {a : Arg} (e : argD ρ a = some d) (h : slP lo hi [d] (kRet Q ρ)) : kSl2 a lo Q hi ρ := ⟨d, e, h⟩
theorem u_noPart (h : QP none ρ) : vNoPart ρ QP := h
def kPart (QP : Option Int → Rho → Prop) : VK0 := fun s ρ1 => ∃ i, s = .sh (.int i) ∧ QP (some i) ρ1
theorem u_part (h : te ρ (kPart QP)) : vPart te ρ QP := h
theorem k_part {x : Int} (h : QP (some x) ρ) : kPart QP (.sh (.int x)) ρ := ⟨x, rfl, h⟩
/-! methods -/
def kApp (i : Nat) (Q : VK0) : VK0 := fun s ρ1 => ∃ b ds d, ρ1[i]? = some (.ow b (.lst ds)) ∧ slotD s = some d ∧ ds.length < sizeLine ∧ Q (.sh .non) (ρ1.set i (.ow b (.lst (ds ++ [d]))))
theorem u_app (e : ρ[i]? = some (.ow b (.lst ds))) (h : te ρ (kApp i Q)) : vApp i te ρ Q := ⟨⟨b, ds, e⟩, h⟩
theorem k_app (e : ρ[i]? = some (.ow b (.lst ds))) (ed : slotD s = some d) (hz : ds.length < sizeLine) (h : Q (.sh .non) ρ') (hs : ρ.set i (.ow b (.lst (ds ++ [d]))) = ρ' := by dsimp only [List.set]) : kApp i Q s ρ := ⟨b, ds, d, e, ed, hz, by rw [hs]; exact h⟩
theorem u_pop (e : ρ[i]? = some (.ow b (.lst ds))) (ed : ds[ds.length - 1]? = some d) (h : Q (.sh d) ρ') (hs : ρ.set i (.ow b (.lst ds.dropLast)) = ρ' := by dsimp only [List.set]) : vPop i ρ Q := ⟨b, ds, d, e, ed, by rw [hs]; exact h⟩
def kPopAt (i : Nat) (Q : VK0) : VK0 := fun s ρ1 => ∃ (k : Int) (j : Nat) (b : Bool) (ds : List D) (d : D), s = .sh (.int k) ∧ ρ1[i]? = some (.ow b (.lst ds)) ∧ (-(2 ^ 63) ≤ k ∧ k < 2 ^ 63) ∧ seqIndex? k ds.length = some j ∧ ds[j]? = some d ∧ Q (.sh d) (ρ1.set i (.ow b (.lst (ds.eraseIdx j))))
theorem u_popAt (e : ρ[i]? = some (.ow b (.lst ds))) (h : te ρ (kPopAt i Q)) : vPopAt i te ρ Q := ⟨⟨b, ds, e⟩, h⟩
theorem k_popAt {k : Int} (e : ρ[i]? = some (.ow b (.lst ds))) (h0 : 0 ≤ k) (hz : k < ds.length) (hb : ds.length < 2 ^ 62) (h : ∀ d ρ', ds[k.toNat]? = some d → ρ' = ρ.set i (.ow b (.lst (ds.eraseIdx k.toNat))) → Q (.sh d) ρ') : kPopAt i Q (.sh (.int k)) ρ := by
  have hk : k.toNat < ds.length := by omega
  refine ⟨k, k.toNat, b, ds, ds[k.toNat], rfl, e, ⟨by omega, by omega⟩, seqIndex_of h0 hz, List.getElem?_eq_getElem hk, h _ _ (List.getElem?_eq_getElem hk) rfl⟩
def kExt (i : Nat) (Q : VK0) : VK0 := fun s ρ1 => ∃ b ds es, ρ1[i]? = some (.ow b (.lst ds)) ∧ slotD s = some (.lst es) ∧ ds.length + es.length ≤ sizeLine ∧ Q (.sh .non) (ρ1.set i (.ow b (.lst (ds ++ es))))
theorem u_ext (e : ρ[i]? = some (.ow b (.lst ds))) (h : te ρ (kExt i Q)) : vExt i te ρ Q := ⟨⟨b, ds, e⟩, h⟩
theorem k_ext (e : ρ[i]? = some (.ow b (.lst ds))) (ed : slotD s = some (.lst es)) (hz : ds.length + es.length ≤ sizeLine) (h : Q (.sh .non) ρ') (hs : ρ.set i (.ow b (.lst (ds ++ es))) = ρ' := by dsimp only [List.set]) : kExt i Q s ρ := ⟨b, ds, es, e, ed, hz, by rw [hs]; exact h⟩
def kM1b (op : Prim) (a : Arg) (Q : VK0) : Arg → Rho → Prop := fun b ρ2 => ∃ da db, argD ρ2 a = some da ∧ argD ρ2 b = some db ∧ op [da, db] (kRet Q ρ2)
def kM1a (op : Prim) (tu : VO) (Q : VK0) : Arg → Rho → Prop := fun a ρ1 => (∃ z, argD ρ1 a = some (.str z)) ∧ tu ρ1 (kM1b op a Q)
theorem u_m1 (h : to ρ (kM1a op tu Q)) : vM1 op to tu ρ Q := h
theorem k_m1a {a : Arg} {z : Str} (e : argD ρ a = some (.str z)) (h : tu ρ (kM1b op a Q)) : kM1a op tu Q a ρ := ⟨⟨z, e⟩, h⟩
theorem k_m1b {a b : Arg} {da db : D} (ha : argD ρ a = some da) (hb : argD ρ b = some db) (h : op [da, db] (kRet Q ρ)) : kM1b op a Q b ρ := ⟨da, db, ha, hb, h⟩
def kGet3 (a : Arg) (sk : Slot) (Q : VK0) : VK0 := fun s ρ3 => ∃ kd key kvs, sk = .sh kd ∧ keyD kd = some key ∧ argD ρ3 a = some (.dct kvs) ∧ (∀ d, lookK kvs key = some d → Q (.sh d) ρ3) ∧ (lookK kvs key = none → Q s ρ3)
def kGet2 (a : Arg) (tx : VE) (Q : VK0) : VK0 := fun sk ρ2 => tx ρ2 (kGet3 a sk Q)
def kGet1 (tk tx : VE) (Q : VK0) : Arg → Rho → Prop := fun a ρ1 => (∃ kvs, argD ρ1 a = some (.dct kvs)) ∧ tk ρ1 (kGet2 a tx Q)
theorem u_get2 {tk tx : VE} (h : to ρ (kGet1 tk tx Q)) : vGet2 to tk tx ρ Q := h
theorem k_get1 {tk tx : VE} {a : Arg} {kvs : List (Key × D)} (e : argD ρ a = some (.dct kvs)) (h : tk ρ (kGet2 a tx Q)) : kGet1 tk tx Q a ρ := ⟨⟨kvs, e⟩, h⟩
theorem k_get2 {tx : VE} {a : Arg} (h : tx ρ (kGet3 a s Q)) : kGet2 a tx Q s ρ := h
theorem k_get3 {a : Arg} {kd : D} {key : Key} {kvs : List (Key × D)} (ek : keyD kd = some key) (e : argD ρ a = some (.dct kvs)) (h1 : ∀ d, lookK kvs key = some d → Q (.sh d) ρ) (h2 : lookK kvs key = none → Q s ρ) : kGet3 a (.sh kd) Q s ρ := ⟨kd, key, kvs, rfl, ek, e, h1, h2⟩
/-! stores into own lists, dicts -/
def kSetL2 (i : Nat) (s : Slot) (nx : Rho → Prop) : VK0 := fun sk ρ2 => ∃ (k : Int) (j : Nat) (b : Bool) (ds : List D) (d : D), sk = .sh (.int k) ∧ ρ2[i]? = some (.ow b (.lst ds)) ∧ ixN ds.length k = some j ∧ slotD s = some d ∧ nx (ρ2.set i (.ow b (.lst (ds.set j d))))
def kSetL1 (i : Nat) (tk : VE) (nx : Rho → Prop) : VK0 := fun s ρ1 => (∃ b ds, ρ1[i]? = some (.ow b (.lst ds))) ∧ tk ρ1 (kSetL2 i s nx)
theorem u_setL {tk : VE} (h : te ρ (kSetL1 i tk nx)) : vSetL i tk te (.mk nx rt bk ct) ρ := h
theorem k_setL1 {tk : VE} (e : ρ[i]? = some (.ow b (.lst ds))) (h : tk ρ (kSetL2 i s nx)) : kSetL1 i tk nx s ρ := ⟨⟨b, ds, e⟩, h⟩
theorem k_setL2 {k : Int} {j : Nat} (e : ρ[i]? = some (.ow b (.lst ds))) (hj : ixN ds.length k = some j) (ed : slotD s = some d) (h : nx ρ') (hs : ρ.set i (.ow b (.lst (ds.set j d))) = ρ' := by dsimp only [List.set]) : kSetL2 i s nx (.sh (.int k)) ρ := ⟨k, j, b, ds, d, rfl, e, hj, ed, by rw [hs]; exact h⟩
def kPutD2 (i : Nat) (s : Slot) (nx : Rho → Prop) : VK0 := fun sk ρ2 => ∃ (kd : D) (key : Key) (b : Bool) (ds : List (Key × D)) (d : D), sk = .sh kd ∧ keyD kd = some key ∧ ρ2[i]? = some (.ow b (.dct ds)) ∧ ds.length < sizeLine ∧ slotD s = some d ∧ nx (ρ2.set i (.ow b (.dct (putD ds key d))))
def kPutD1 (i : Nat) (tk : VE) (nx : Rho → Prop) : VK0 := fun s ρ1 => (∃ b ds, ρ1[i]? = some (.ow b (.dct ds))) ∧ tk ρ1 (kPutD2 i s nx)
theorem u_putD {tk : VE} (h : te ρ (kPutD1 i tk nx)) : vPutD i tk te (.mk nx rt bk ct) ρ := h
theorem k_putD1 {tk : VE} {kvs : List (Key × D)} (e : ρ[i]? = some (.ow b (.dct kvs))) (h : tk ρ (kPutD2 i s nx)) : kPutD1 i tk nx s ρ := ⟨⟨b, kvs, e⟩, h⟩
theorem k_putD2 {kd : D} {key : Key} {kvs : List (Key × D)} (e : ρ[i]? = some (.ow b (.dct kvs))) (ek : keyD kd = some key) (hz : kvs.length < sizeLine) (ed : slotD s = some d) (h : nx ρ') (hs : ρ.set i (.ow b (.dct (putD kvs key d))) = ρ' := by dsimp only [List.set]) : kPutD2 i s nx (.sh kd) ρ := ⟨kd, key, b, kvs, d, rfl, ek, e, hz, ed, by rw [hs]; exact h⟩
def kAugL2 (i : Nat) (op : Prim) (k : Int) (d : D) (nx : Rho → Prop) : VK0 := fun s ρ2 => ∃ (b' : Bool) (ds' : List D) (dy : D), slotD s = some dy ∧ ρ2[i]? = some (.ow b' (.lst ds')) ∧ k < ds'.length ∧ op [d, dy] fun ret => ∃ z, ret = .val z ∧ nx (ρ2.set i (.ow b' (.lst (ds'.set k.toNat z))))
def kAugL1 (i : Nat) (op : Prim) (te : VE) (nx : Rho → Prop) : VK0 := fun sk ρ1 => ∃ (k : Int) (b : Bool) (ds : List D) (d : D), sk = .sh (.int k) ∧ ρ1[i]? = some (.ow b (.lst ds)) ∧ 0 ≤ k ∧ ds[k.toNat]? = some d ∧ te ρ1 (kAugL2 i op k d nx)
theorem u_augL {tk : VE} (e : ρ[i]? = some (.ow b (.lst ds))) (h : tk ρ (kAugL1 i op te nx)) : vAugL i op tk te (.mk nx rt bk ct) ρ := ⟨⟨b, ds, e⟩, h⟩
theorem k_augL1 {k : Int} (e : ρ[i]? = some (.ow b (.lst ds))) (h0 : 0 ≤ k) (ed : ds[k.toNat]? = some d) (h : te ρ (kAugL2 i op k d nx)) : kAugL1 i op te nx (.sh (.int k)) ρ := ⟨k, b, ds, d, rfl, e, h0, ed, h⟩
theorem k_augL2 {k x y : Int} (e : ρ[i]? = some (.ow b (.lst ds))) (hk : k < ds.length) (h : nx ρ') (hs : ρ.set i (.ow b (.lst (ds.set k.toNat (.int (x + y))))) = ρ' := by dsimp only [List.set]) : kAugL2 i iaddP k (.int x) nx (.sh (.int y)) ρ := ⟨b, ds, .int y, rfl, e, hk, .int (x + y), rfl, by rw [hs]; exact h⟩
/-! calls -/
def kBack (ρ1 : Rho) (as : List Arg) (Q : VK0) : Slot → List Slot → Prop := fun r ss => Q r (takeBack ρ1 as ss)
def kCall (SS : VSp) (Q : VK0) : List Arg → Rho → Prop := fun as ρ1 => ∃ ρs, lendS ρ1 as = some ρs ∧ SS ρs (kBack ρ1 as Q)
theorem u_call {SS : VSp} (h : tas ρ (kCall SS Q)) : vCall SS tas ρ Q := h
theorem k_call {SS : VSp} {as : List Arg} {ρs : List Slot} (e : lendS ρ as = some ρs) (h : SS ρs (kBack ρ as Q)) : kCall SS Q as ρ := ⟨ρs, e, h⟩
theorem k_back {as : List Arg} {ss : List Slot} (h : Q s ρ') (e : takeBack ρ as ss = ρ') : kBack ρ as Q s ss := by show Q s (takeBack ρ as ss); rw [e]; exact h
/-! targets -/
theorem u_gN {P : Rho → Prop} (e : ρ[i]? = some s) (hf : s.free = true) (h : P ρ') (hs : ρ.set i (.sh d) = ρ' := by dsimp only [List.set]) : gN i d ρ P := ⟨s, e, hf, by rw [hs]; exact h⟩
theorem u_gT {P : Rho → Prop} {is : List Nat} (hl : ds.length = is.length) (h : gTs is ds ρ P) : gT is (.tup ds) ρ P := ⟨ds, rfl, hl, h⟩
theorem u_gL {P : Rho → Prop} {is : List Nat} (hd : seqLD d = some ds) (hl : ds.length = is.length) (h : gTs is ds ρ P) : gL is d ρ P := ⟨ds, hd, hl, h⟩
theorem u_gTs0 {P : Rho → Prop} (h : P ρ) : gTs [] [] ρ P := h
theorem u_gTs {P : Rho → Prop} {is : List Nat} (h : gN i d ρ fun ρ' => gTs is ds ρ' P) : gTs (i :: is) (d :: ds) ρ P := h
/-! walks -/
variable {QI : List D → Rho → Prop}
def kItL (QI : List D → Rho → Prop) : VK0 := fun s ρ1 => ∃ d ds, slotD s = some d ∧ seqLD d = some ds ∧ QI ds ρ1
theorem u_itL (h : te ρ (kItL QI)) : vItL te ρ QI := h
theorem k_itL (e : slotD s = some d) (e2 : seqLD d = some ds) (h : QI ds ρ) : kItL QI s ρ := ⟨d, ds, e, e2, h⟩
def kItT (QI : List D → Rho → Prop) : VK0 := fun s ρ1 => ∃ d ds, slotD s = some d ∧ seqTD d = some ds ∧ QI ds ρ1
theorem u_itT (h : te ρ (kItT QI)) : vItT te ρ QI := h
theorem k_itT (e : slotD s = some d) (e2 : seqTD d = some ds) (h : QI ds ρ) : kItT QI s ρ := ⟨d, ds, e, e2, h⟩
def kItR1 (QI : List D → Rho → Prop) : List Arg → Rho → Prop := fun as ρ1 => ∃ n, argDs ρ1 as = some [.int n] ∧ (-(2 ^ 62) ≤ n ∧ n < 2 ^ 62) ∧ QI (rangeD 0 n.toNat) ρ1
theorem u_itR1 (h : tas ρ (kItR1 QI)) : vItR1 tas ρ QI := h
theorem k_itR1 {a : Arg} {n : Int} (ha : argD ρ a = some (.int n)) (hb : -(2 ^ 62) ≤ n ∧ n < 2 ^ 62) (h : QI (rangeD 0 n.toNat) ρ) : kItR1 QI [a] ρ := ⟨n, by unfold argDs; rw [ha]; rfl, hb, h⟩
def kItR2 (QI : List D → Rho → Prop) : List Arg → Rho → Prop := fun as ρ1 => ∃ m n, argDs ρ1 as = some [.int m, .int n] ∧ (-(2 ^ 62) ≤ m ∧ m < 2 ^ 62 ∧ -(2 ^ 62) ≤ n ∧ n < 2 ^ 62) ∧ QI (rangeD m (n - m).toNat) ρ1
theorem u_itR2 (h : tas ρ (kItR2 QI)) : vItR2 tas ρ QI := h
theorem k_itR2 {a b : Arg} {m n : Int} (ha : argD ρ a = some (.int m)) (hb : argD ρ b = some (.int n)) (hbd : -(2 ^ 62) ≤ m ∧ m < 2 ^ 62 ∧ -(2 ^ 62) ≤ n ∧ n < 2 ^ 62) (h : QI (rangeD m (n - m).toNat) ρ) : kItR2 QI [a, b] ρ := ⟨m, n, by unfold argDs argDs; rw [ha, hb]; rfl, hbd, h⟩
/-! loops -/
def kFor (g : VG) (tb : VS) (R : Out) : List D → Rho → Prop := fun ds ρ1 => ∃ I : Nat → Rho → Prop, I 0 ρ1 ∧ (∀ j d ρ', ds[j]? = some d → I j ρ' → g d ρ' fun ρ2 => tb { R with nx := I (j + 1), ct := I (j + 1), bk := R.nx } ρ2) ∧ ∀ ρ', I ds.length ρ' → R.nx ρ'
theorem u_for {it : VI} {g : VG} (h : it ρ (kFor g t (.mk nx rt bk ct))) : vFor it g t (.mk nx rt bk ct) ρ := h
theorem k_for {g : VG} (I : Nat → Rho → Prop) (h0 : I 0 ρ) (hs : ∀ j d ρ', ds[j]? = some d → I j ρ' → g d ρ' fun ρ2 => t (.mk (I (j + 1)) rt nx (I (j + 1))) ρ2) (hd : ∀ ρ', I ds.length ρ' → nx ρ') : kFor g t (.mk nx rt bk ct) ds ρ := ⟨I, h0, hs, hd⟩
theorem u_forK {g : VG} {kvs : List (Key × D)} (e : ρ[i]? = some (.sh (.dct kvs))) (I : Nat → Rho → Prop) (h0 : I 0 ρ) (hs : ∀ j k v ρ', kvs[j]? = some (k, v) → I j ρ' → g (dK k) ρ' fun ρ2 => t (.mk (I (j + 1)) rt nx (I (j + 1))) ρ2) (hd : ∀ ρ', I kvs.length ρ' → nx ρ') : vForK i g t (.mk nx rt bk ct) ρ := by
  refine ⟨kvs, e, I, h0, fun j d ρ' hj hI => ?_, fun ρ' hI => hd ρ' (by simpa using hI)⟩
  rw [List.getElem?_map] at hj
  obtain ⟨⟨k, v⟩, h1, h2⟩ := Option.map_eq_some_iff.mp hj
  subst h2
  exact hs j k v ρ' h1 hI
def kWhile (t : VS) (m : Nat) (I : Nat → Rho → Prop) (nx : Rho → Prop) (rt : Slot → Rho → Prop) : Bool → Rho → Prop := fun k ρ1 => (k = true → t (.mk (fun ρ2 => ∃ m', m' < m ∧ I m' ρ2) rt nx (fun ρ2 => ∃ m', m' < m ∧ I m' ρ2)) ρ1) ∧ (k = false → nx ρ1)
theorem u_while1 (I : Nat → Rho → Prop) (m : Nat) (h0 : I m ρ) (hs : ∀ m ρ', I m ρ' → tt ρ' (kWhile t m I nx rt)) : vWhile tt t (.mk nx rt bk ct) ρ := ⟨I, ⟨m, h0⟩, fun m ρ' h => hs m ρ' h⟩
theorem k_while {m : Nat} {I : Nat → Rho → Prop} (h1 : b = true → t (.mk (fun ρ2 => ∃ m', m' < m ∧ I m' ρ2) rt nx (fun ρ2 => ∃ m', m' < m ∧ I m' ρ2)) ρ) (h2 : b = false → nx ρ) : kWhile t m I nx rt b ρ := ⟨h1, h2⟩
/-! comprehensions -/
def kLcE (vs : List Nat) (acc : List D) (I : List D → Rho → Prop) : VK0 := fun s ρ4 => ∃ dy, slotD s = some dy ∧ acc.length < sizeLine ∧ I (acc ++ [dy]) (wipeR ρ4 vs)
def kLcT (te : VE) (vs : List Nat) (acc : List D) (I : List D → Rho → Prop) : Bool → Rho → Prop := fun b ρ3 => (b = true → te ρ3 (kLcE vs acc I)) ∧ (b = false → I acc (wipeR ρ3 vs))
def kLc (g : VG) (tt : VT) (te : VE) (vs : List Nat) (Q : VK0) : List D → Rho → Prop := fun ds ρ1 => (∀ v ∈ vs, ∃ s, ρ1[v]? = some s ∧ s.free = true) ∧ ∃ I : Nat → List D → Rho → Prop, I 0 [] (wipeR ρ1 vs) ∧
  (∀ j acc d ρ', ds[j]? = some d → I j acc ρ' → g d ρ' fun ρ2 => tt ρ2 (kLcT te vs acc (I (j + 1)))) ∧ ∀ acc ρ', I ds.length acc ρ' → Q (.ow false (.lst acc)) ρ'
theorem u_lc {it : VI} {g : VG} {vs : List Nat} (h : it ρ (kLc g tt te vs Q)) : vLc it g tt te vs ρ Q := h
/-- the general word -/
theorem k_lc {g : VG} {vs : List Nat} (hf : ∀ v ∈ vs, ∃ s, ρ[v]? = some s ∧ s.free = true) (I : Nat → List D → Rho → Prop) (h0 : I 0 [] (wipeR ρ vs)) (hs : ∀ j acc d ρ', ds[j]? = some d → I j acc ρ' → g d ρ' fun ρ2 => tt ρ2 (kLcT te vs acc (I (j + 1)))) (hd : ∀ acc ρ', I ds.length acc ρ' → Q (.ow false (.lst acc)) ρ') :
    kLc g tt te vs Q ds ρ := ⟨hf, I, h0, hs, hd⟩
theorem k_lcT {vs : List Nat} {acc : List D} {I : List D → Rho → Prop} (h1 : b = true → te ρ (kLcE vs acc I)) (h2 : b = false → I acc (wipeR ρ vs)) : kLcT te vs acc I b ρ := ⟨h1, h2⟩
theorem k_lcTT {vs : List Nat} {acc : List D} {I : List D → Rho → Prop} (h1 : te ρ (kLcE vs acc I)) : kLcT te vs acc I true ρ := ⟨fun _ => h1, fun z => by cases z⟩
theorem k_lcE {vs : List Nat} {acc : List D} {I : List D → Rho → Prop} (e : slotD s = some d) (hz : acc.length < sizeLine) (h : I (acc ++ [d]) ρ') (hs : wipeR ρ vs = ρ' := by dsimp only [wipeR, List.set]) : kLcE vs acc I s ρ := ⟨d, e, hz, by rw [hs]; exact h⟩
theorem u_yes (h : QB true ρ) : vYes ρ QB := h
/-- a pure one, over a list of encoded things -/
theorem k_lcM {α : Type} {g : VG} {vs : List Nat} (xs : List α) (f : α → D) (p : α → Bool) (y : α → D) (ρw : Rho) (hx : ds = xs.map f) (hz : xs.length < sizeLine) (hf : ∀ v ∈ vs, ∃ s, ρ[v]? = some s ∧ s.free = true)
    (hw : wipeR ρ vs = ρw) (hs : ∀ x acc (I : List D → Rho → Prop), x ∈ xs → acc.length < sizeLine → (p x = true → I (acc ++ [y x]) ρw) → (p x = false → I acc ρw) → g (f x) ρw fun ρ2 => tt ρ2 (kLcT te vs acc I))
    (h : Q (.ow false (.lst ((xs.filter p).map y))) ρw) : kLc g tt te vs Q ds ρ := by
  subst hx
  refine ⟨hf, fun j acc ρ' => ρ' = ρw ∧ acc = ((xs.take j).filter p).map y, ⟨hw, by simp⟩, fun j acc d ρ' hj ⟨e1, e2⟩ => ?_, fun acc ρ' ⟨e1, e2⟩ => ?_⟩
  · subst e1
    rw [List.getElem?_map] at hj
    obtain ⟨x, hx, ex⟩ := Option.map_eq_some_iff.mp hj
    subst ex
    have hl : j < xs.length := (List.getElem?_eq_some_iff.mp hx).1
    have hm : x ∈ xs := List.mem_of_getElem? hx
    have ht : xs.take (j + 1) = xs.take j ++ [x] := by rw [List.take_add_one, hx]; rfl
    refine hs x acc _ hm ?_ (fun hp => ⟨rfl, ?_⟩) (fun hp => ⟨rfl, ?_⟩)
    · subst e2
      have h1 := List.length_filter_le p (xs.take j)
      have h2 : (xs.take j).length ≤ xs.length := by rw [List.length_take]; omega
      rw [List.length_map]; omega
    · rw [ht, e2, List.filter_append, List.map_append]
      simp [hp]
    · rw [ht, e2, List.filter_append, List.map_append]
      simp [hp]
  · subst e1; subst e2
    rw [List.length_map, List.take_length]
    exact h
theorem u_lcK {g : VG} {vs : List Nat} {kvs : List (Key × D)} (e : ρ[i]? = some (.sh (.dct kvs))) (h : kLc g tt te vs Q (kvs.map fun kv => dK kv.1) ρ) : vLcK i g tt te vs ρ Q := ⟨kvs, e, h⟩

/-! ### primitives -/
variable {x y : Int} {a z : Str}
theorem p_addI (h : R (.val (.int (x + y)))) : addP [.int x, .int y] R := h
theorem p_addS (hz : a.length + z.length ≤ sizeLine) (h : R (.val (.str (a ++ z)))) : addP [.str a, .str z] R := ⟨hz, h⟩
theorem p_addL (hz : ds.length + es.length ≤ sizeLine) (h : R (.newL (ds ++ es))) : addP [.lst ds, .lst es] R := ⟨hz, h⟩
theorem p_addT (hz : ds.length + es.length ≤ sizeLine) (h : R (.newT (ds ++ es))) (h2 : R (.val (.tup (ds ++ es)))) : addP [.tup ds, .tup es] R := ⟨hz, h, h2⟩
theorem p_subI (h : R (.val (.int (x - y)))) : subP [.int x, .int y] R := h
theorem p_mulI (hc : CMul x y ∨ CMulW x y) (h : R (.val (.int (x * y)))) : mulP [.int x, .int y] R := ⟨hc, h⟩
theorem p_modI (hc : 0 < y) (h : R (.val (.int (x % y)))) : modP [.int x, .int y] R := ⟨hc, h⟩
theorem p_divI (hc : CDiv x y ∨ CDivW x y) (h : R (.val (.int (x / y)))) : divP [.int x, .int y] R := ⟨hc, h⟩
theorem p_powI (hc : CPow x y) (h : R (.val (.int (x ^ y.toNat)))) : powP [.int x, .int y] R := ⟨hc, h⟩
theorem p_negI (h : R (.val (.int (-x)))) : negP [.int x] R := h
theorem p_ltI (h : R (.val (.bl (decide (x < y))))) : ltP [.int x, .int y] R := h
theorem p_leI (h : R (.val (.bl (decide (x ≤ y))))) : leP [.int x, .int y] R := h
theorem p_gtI (h : R (.val (.bl (decide (y < x))))) : gtP [.int x, .int y] R := h
theorem p_geI (h : R (.val (.bl (decide (y ≤ x))))) : geP [.int x, .int y] R := h
theorem p_eqI (h : R (.val (.bl (decide (x = y))))) : eqP [.int x, .int y] R := h
theorem p_eqS (h : R (.val (.bl (decide (a = z))))) : eqP [.str a, .str z] R := h
theorem p_neI (h : R (.val (.bl (!decide (x = y))))) : neP [.int x, .int y] R := h
theorem p_neS (h : R (.val (.bl (!decide (a = z))))) : neP [.str a, .str z] R := h
theorem p_eqB {x y : Bool} (h : R (.val (.bl (decide (x = y))))) : eqP [.bl x, .bl y] R := h
theorem p_eqN (h : R (.val (.bl true))) : eqP [.non, .non] R := h
theorem p_neB {x y : Bool} (h : R (.val (.bl (!decide (x = y))))) : neP [.bl x, .bl y] R := h
theorem p_isNn (h : R (.val (.bl true))) : isNP [.non, .non] R := h
theorem p_isNi (h : R (.val (.bl false))) : isNP [.int x, .non] R := h
theorem p_isNs (h : R (.val (.bl false))) : isNP [.str a, .non] R := h
theorem p_isNb {x : Bool} (h : R (.val (.bl false))) : isNP [.bl x, .non] R := h
theorem p_isNl (h : R (.val (.bl false))) : isNP [.lst ds, .non] R := h
theorem p_isNt (h : R (.val (.bl false))) : isNP [.tup ds, .non] R := h
theorem p_isNd {kvs : List (Key × D)} (h : R (.val (.bl false))) : isNP [.dct kvs, .non] R := h
theorem p_notNn (h : R (.val (.bl false))) : notNP [.non, .non] R := h
theorem p_notNi (h : R (.val (.bl true))) : notNP [.int x, .non] R := h
theorem p_notNs (h : R (.val (.bl true))) : notNP [.str a, .non] R := h
theorem p_notNb {x : Bool} (h : R (.val (.bl true))) : notNP [.bl x, .non] R := h
theorem p_notNl (h : R (.val (.bl true))) : notNP [.lst ds, .non] R := h
theorem p_notNt (h : R (.val (.bl true))) : notNP [.tup ds, .non] R := h
theorem p_notNd {kvs : List (Key × D)} (h : R (.val (.bl true))) : notNP [.dct kvs, .non] R := h
theorem p_isi {T t : String} {b' : Bool} (ht : tyD d = some t) (hk : kitB t T = some b') (h : R (.val (.bl b'))) : isiP [d, .opq (.ty T)] R := ⟨d, T, t, b', rfl, ht, hk, h⟩
theorem p_isiT {T1 T2 t : String} {b' : Bool} (ht : tyD d = some t) (hk : kitAnyB t [T1, T2] = some b') (h : R (.val (.bl b'))) : isiTP [d, .tup [.opq (.ty T1), .opq (.ty T2)]] R := ⟨d, [T1, T2], t, b', rfl, ht, hk, h⟩
theorem p_reprI (hz : x.natAbs.log2 < 1920) (h : R (.val (.str (toString x)))) : reprP [.int x] R := ⟨hz, h⟩
theorem p_reprS (hz : (reprText a).length ≤ sizeLine) (h : R (.val (.str (reprText a)))) : reprP [.str a] R := ⟨hz, h⟩
theorem p_reprB {x : Bool} (h : R (.val (.str (if x then "True" else "False")))) : reprP [.bl x] R := h
theorem p_reprN (h : R (.val (.str "None"))) : reprP [.non] R := h
theorem p_lenL (h : R (.val (.int ds.length))) : lenP [.lst ds] R := h
theorem p_lenF (h : R (.val (.int ds.length))) : lenP [.fls ds] R := h
theorem p_lenT (h : R (.val (.int ds.length))) : lenP [.tup ds] R := h
theorem p_lenD {kvs : List (Key × D)} (h : R (.val (.int kvs.length))) : lenP [.dct kvs] R := h
theorem p_lenS (hz : a.length ≤ sizeLine) (h : R (.val (.int a.length))) : lenP [.str a] R := ⟨hz, h⟩
theorem p_absI (h : R (.val (.int (if x < 0 then -x else x)))) : absP [.int x] R := h
theorem p_intI (h : R (.val (.int x))) : intP [.int x] R := h
theorem p_strI (hz : x.natAbs.log2 < 1920) (h : R (.val (.str (toString x)))) : strP [.int x] R := ⟨hz, h⟩
theorem p_listL (h : R (.newL ds)) : listP [.lst ds] R := ⟨ds, .inl rfl, h⟩
theorem p_listF (h : R (.newL ds)) : listP [.fls ds] R := ⟨ds, .inl rfl, h⟩
theorem p_listD {kvs : List (Key × D)} (h : R (.newL (kvs.map fun kv => dK kv.1))) : listP [.dct kvs] R := h
theorem p_ixL (e : L2.atI ds x = some d) (h : R (.val d)) : ixP [.lst ds, .int x] R := ⟨ds, d, .inl rfl, e, h⟩
theorem p_ixF (e : L2.atI ds x = some d) (h : R (.val d)) : ixP [.fls ds, .int x] R := ⟨ds, d, .inl rfl, e, h⟩
theorem p_ixT (e : L2.atI ds x = some d) (h : R (.val d)) : ixP [.tup ds, .int x] R := ⟨ds, d, .inr rfl, e, h⟩
theorem p_ixLj (j : Nat) (hj : x = (j : Int)) (e : ds[j]? = some d) (h : R (.val d)) : ixP [.lst ds, .int x] R := p_ixL (by rw [hj]; exact atI_nat e) h
theorem p_ixTj (j : Nat) (hj : x = (j : Int)) (e : ds[j]? = some d) (h : R (.val d)) : ixP [.tup ds, .int x] R := p_ixT (by rw [hj]; exact atI_nat e) h
theorem p_ixFj (j : Nat) (hj : x = (j : Int)) (e : ds[j]? = some d) (h : R (.val d)) : ixP [.fls ds, .int x] R := p_ixF (by rw [hj]; exact atI_nat e) h
theorem p_ixLn (h0 : 0 ≤ x) (e : ds[x.toNat]? = some d) (h : R (.val d)) : ixP [.lst ds, .int x] R := p_ixLj x.toNat (by omega) e h
theorem p_ixFn (h0 : 0 ≤ x) (e : ds[x.toNat]? = some d) (h : R (.val d)) : ixP [.fls ds, .int x] R := p_ixFj x.toNat (by omega) e h
theorem p_ixTn (h0 : 0 ≤ x) (e : ds[x.toNat]? = some d) (h : R (.val d)) : ixP [.tup ds, .int x] R := p_ixTj x.toNat (by omega) e h
theorem k_setL2j (j : Nat) {k : Int} (hk : k = (j : Int)) (e : ρ[i]? = some (.ow b (.lst ds))) (hj : j < ds.length) (ed : slotD s = some d) (h : nx ρ') (hs : ρ.set i (.ow b (.lst (ds.set j d))) = ρ' := by dsimp only [List.set]) : kSetL2 i s nx (.sh (.int k)) ρ :=
  k_setL2 e (by subst hk; unfold ixN; rw [if_pos (by omega), if_pos (by omega)]; simp) ed h hs
theorem k_augL1j (j : Nat) {k : Int} (hk : k = (j : Int)) (e : ρ[i]? = some (.ow b (.lst ds))) (ed : ds[j]? = some d) (h : te ρ (kAugL2 i op (j : Int) d nx)) : kAugL1 i op te nx (.sh (.int k)) ρ := by
  subst hk
  exact k_augL1 e (by omega) (by simpa using ed) h
theorem k_augL2j {j : Nat} (e : ρ[i]? = some (.ow b (.lst ds))) (hk : j < ds.length) (h : nx ρ') (hs : ρ.set i (.ow b (.lst (ds.set j (.int (x + y))))) = ρ' := by dsimp only [List.set]) : kAugL2 i iaddP (j : Int) (.int x) nx (.sh (.int y)) ρ :=
  k_augL2 e (by omega) h (by simpa using hs)
theorem p_ixD {kvs : List (Key × D)} {kd : D} {key : Key} (ek : keyD kd = some key) (e : lookK kvs key = some d) (h : R (.val d)) : ixP [.dct kvs, kd] R := by
  cases kd <;> first | exact ⟨key, d, ek, e, h⟩ | cases ek
theorem p_ixS {c : Nat} (hz : a.length ≤ sizeLine) (e : L2.atI a.cps.toList x = some c) (h : R (.val (.str ⟨#[c]⟩))) : ixP [.str a, .int x] R := ⟨hz, c, e, h⟩
theorem p_ixSn {c : Nat} (hz : a.length ≤ sizeLine) (h0 : 0 ≤ x) (e : a.cps.toList[x.toNat]? = some c) (h : R (.val (.str ⟨#[c]⟩))) : ixP [.str a, .int x] R := p_ixS hz (by
  have hx : x = (x.toNat : Int) := by omega
  rw [hx]; exact atI_nat e) h
theorem p_inD {kvs : List (Key × D)} {kd : D} {key : Key} (ek : keyD kd = some key) (h : R (.val (.bl (ifN b (lookK kvs key).isSome)))) : inP b [kd, .dct kvs] R := ⟨key, ek, h⟩
theorem flatL_ints : ∀ ns : List Int, flatL (ns.map D.int) = some (ns.map V.int)
  | [] => rfl
  | n :: r => by rw [List.map_cons]; unfold flatL; rw [flatL_ints r]; rfl
theorem flatL_strs : ∀ ns : List Str, flatL (ns.map D.str) = some (ns.map V.str)
  | [] => rfl
  | n :: r => by rw [List.map_cons]; unfold flatL; rw [flatL_strs r]; rfl
theorem inV_str (x : Str) : ∀ ss : List Str, inV (.str x) (ss.map V.str) = decide (x ∈ ss)
  | [] => rfl
  | s :: r => by
    have ih := inV_str x r
    unfold inV at ih ⊢
    rw [List.map_cons, List.any_cons, ih]
    show ((s == x) || decide (x ∈ r)) = decide (x ∈ s :: r)
    by_cases e : x = s
    · subst e; simp
    · have e2 : ¬ s = x := fun z => e z.symm
      simp [e, e2]
theorem inV_int (x : Int) : ∀ ss : List Int, inV (.int x) (ss.map V.int) = decide (x ∈ ss)
  | [] => rfl
  | s :: r => by
    have ih := inV_int x r
    unfold inV at ih ⊢
    rw [List.map_cons, List.any_cons, ih]
    show ((s == x) || decide (x ∈ r)) = decide (x ∈ s :: r)
    by_cases e : x = s
    · subst e; simp
    · have e2 : ¬ s = x := fun z => e z.symm
      simp [e, e2]
theorem p_inS {ss : List Str} (h : R (.val (.bl (ifN b (decide (a ∈ ss)))))) : inP b [.str a, .lst (ss.map D.str)] R := ⟨_, _, _, .inl rfl, rfl, flatL_strs ss, by rw [inV_str]; exact h⟩
theorem p_inI {ss : List Int} (h : R (.val (.bl (ifN b (decide (x ∈ ss)))))) : inP b [.int x, .lst (ss.map D.int)] R := ⟨_, _, _, .inl rfl, rfl, flatL_ints ss, by rw [inV_int]; exact h⟩
theorem p_inS0 {ss : List Str} (h : R (.val (.bl (decide (a ∈ ss))))) : inP false [.str a, .lst (ss.map D.str)] R := p_inS h
theorem p_inS1 {ss : List Str} (h : R (.val (.bl (!decide (a ∈ ss))))) : inP true [.str a, .lst (ss.map D.str)] R := p_inS h
theorem p_inI0 {ss : List Int} (h : R (.val (.bl (decide (x ∈ ss))))) : inP false [.int x, .lst (ss.map D.int)] R := p_inI h
theorem p_inI1 {ss : List Int} (h : R (.val (.bl (!decide (x ∈ ss))))) : inP true [.int x, .lst (ss.map D.int)] R := p_inI h
theorem p_inD0 {kvs : List (Key × D)} {kd : D} {key : Key} (ek : keyD kd = some key) (h : R (.val (.bl (lookK kvs key).isSome))) : inP false [kd, .dct kvs] R := p_inD ek h
theorem p_inD1 {kvs : List (Key × D)} {kd : D} {key : Key} (ek : keyD kd = some key) (h : R (.val (.bl (!(lookK kvs key).isSome)))) : inP true [kd, .dct kvs] R := p_inD ek h
theorem p_slL {lo hi : Option Int} (h : R (.newL (cutL ds lo hi))) : slP lo hi [.lst ds] R := h
theorem p_slF {lo hi : Option Int} (h : R (.newL (cutL ds lo hi))) : slP lo hi [.fls ds] R := h
theorem p_slS {lo hi : Option Int} (hz : a.length ≤ sizeLine) (h : R (.val (.str (cutS a lo hi)))) : slP lo hi [.str a] R := ⟨hz, h⟩
theorem p_sum {ns : List Int} (h : R (.val (.int ns.sum))) : sumP [.lst (ns.map D.int)] R := ⟨_, _, ns, rfl, rfl, rfl, h⟩
theorem p_join {ys : List Str} (hz : (ys.map (·.length)).sum + ys.length * a.length ≤ 16777216) (h : R (.val (.str (Txt.join a ys)))) : joinP [.str a, .lst (ys.map D.str)] R := ⟨a, _, _, ys, rfl, rfl, rfl, hz, h⟩
theorem p_max2 (h : R (.val (.int (if y > x then y else x)))) : maxP [.int x, .int y] R := h
theorem p_min2 (h : R (.val (.int (if y < x then y else x)))) : minP [.int x, .int y] R := h
theorem p_maxL {ns : List Int} (hn : ns ≠ []) (h : ∀ m, m ∈ ns → (∀ y ∈ ns, y ≤ m) → R (.val (.int m))) : maxP [.lst (ns.map D.int)] R := ⟨_, ns, rfl, rfl, hn, h⟩
theorem p_minL {ns : List Int} (hn : ns ≠ []) (h : ∀ m, m ∈ ns → (∀ y ∈ ns, m ≤ y) → R (.val (.int m))) : minP [.lst (ns.map D.int)] R := ⟨_, ns, rfl, rfl, hn, h⟩
theorem p_all {bs : List Bool} (h : R (.val (.bl (bs.all id)))) : allP [.lst (bs.map D.bl)] R := ⟨_, _, bs, rfl, rfl, rfl, h⟩
theorem p_any {bs : List Bool} (h : R (.val (.bl (bs.any id)))) : anyP [.lst (bs.map D.bl)] R := ⟨_, _, bs, rfl, rfl, rfl, h⟩
theorem p_sortS {xs : List Str} (hz : xs.length < 64) (h : ∀ ys : List Str, ys.Perm xs → sortedS ys = true → R (.newL (ys.map D.str))) : sortedP [.lst (xs.map D.str)] R := ⟨_, _, rfl, rfl, .inr ⟨xs, rfl, hz, h⟩⟩
theorem p_sortI {xs : List Int} (h : ∀ ys : List Int, ys.Perm xs → ys.Pairwise (· ≤ ·) → R (.newL (ys.map D.int))) : sortedP [.lst (xs.map D.int)] R := ⟨_, _, rfl, rfl, .inl ⟨xs, rfl, h⟩⟩
theorem p_dict {kvs : List (Key × D)} (e : pairsD ds = some kvs) (h : R (.newD (mergeD [] kvs))) : dictP [.lst ds] R := ⟨_, ds, kvs, rfl, rfl, e, h⟩
end
end WL

set_option Elab.async false
set_option linter.all false
set_option maxRecDepth 100000
set_option maxHeartbeats 4000000
/-! HV: the helpers that the laws share: what they promise, and that they keep it. -/
namespace WL
open PySem PySem.Spec PyProof.Rows L2
local macro_rules | `(tactic| walk_at "s") => `(tactic| first
  | ((with_reducible show vSeq _ _ _ _); refine u_seq ?_)
  | ((with_reducible show vSet _ _ _ _); refine u_set ?_)
  | ((with_reducible show kSet _ _ _ _); refine k_set rfl rfl ?_)
  | ((with_reducible show vRet _ _ _); refine u_ret ?_)
  | ((with_reducible show vIf _ _ _ _ _); refine u_if ?_)
  | ((with_reducible show vExpr _ _ _); refine u_expr ?_)
  | ((with_reducible show kExpr _ _ _); refine k_expr ?_)
  | ((with_reducible show vRetN _ _); refine u_retN ?_)
  | ((with_reducible show vAsg _ _ _ _); refine u_asg ?_)
  | ((with_reducible show kAsg _ _ _ _); refine k_asg rfl ?_)
  | ((with_reducible show vNext _ _); refine u_next ?_)
  | ((with_reducible show vBreak _ _); refine u_break ?_)
  | ((with_reducible show vCont _ _); refine u_cont ?_)
  | ((with_reducible show kIf _ _ _ _ _); (first | refine k_ifT ?_ | refine k_ifF ?_))
  | ((with_reducible show vVal _ _ _); refine u_val ?_)
  | ((with_reducible show kVal _ _ _); refine k_val ?_)
  | ((with_reducible show vPk _ _ _); refine u_pk rfl rfl ?_)
  | ((with_reducible show vC _ _ _); refine u_c ?_)
  | ((with_reducible show vVar _ _ _); (first | refine u_var rfl ?_ | refine u_varL rfl ?_ | refine u_varD rfl ?_ | refine u_varE rfl ?_))
  | ((with_reducible show vMv _ _ _); (first | refine u_mv rfl ?_ | refine u_mvO rfl ?_))
  | ((with_reducible show vBin _ _ _ _ _); refine u_bin ?_)
  | ((with_reducible show kBin1 _ _ _ _ _); refine k_bin1 ?_)
  | ((with_reducible show kBin2 _ _ _ _ _); refine k_bin2 rfl rfl ?_)
  | ((with_reducible show vUn _ _ _ _); refine u_un ?_)
  | ((with_reducible show kUn _ _ _ _); refine k_un rfl ?_)
  | ((with_reducible show vCons _ _ _ _); refine u_cons ?_)
  | ((with_reducible show kCons1 _ _ _ _); refine k_cons1 ?_)
  | ((with_reducible show vNil _ _); refine u_nil ?_)
  | ((with_reducible show kCons2 _ _ _ _); refine k_cons2 ?_)
  | ((with_reducible show vPrim _ _ _ _); refine u_prim ?_)
  | ((with_reducible show kPrim _ _ _ _); (first | refine k_prim1 rfl ?_ | refine k_prim2 rfl rfl ?_))
  | ((with_reducible show kRet _ _ _); (first | refine k_retV ?_ | refine k_retL ?_ | refine k_retT ?_ | refine k_retD ?_))
  | ((with_reducible show vSh _ _ _); refine u_sh ?_)
  | ((with_reducible show kSh _ _ _); (first | refine k_sh ?_ | refine k_shL ?_ | refine k_shD ?_))
  | ((with_reducible show vT _ _ _); refine u_t ?_)
  | ((with_reducible show kT _ _ _); refine k_t ?_)
  | ((with_reducible show vTru _ _ _); refine u_tru ?_)
  | ((with_reducible show kTru _ _ _); refine k_tru rfl rfl ?_)
  | ((with_reducible show vAnd _ _ _ _); refine u_and ?_)
  | ((with_reducible show kAnd _ _ _ _); (first | refine k_andT ?_ | refine k_andF ?_))
  | ((with_reducible show vOr _ _ _ _); refine u_or ?_)
  | ((with_reducible show kOr _ _ _ _); (first | refine k_orT ?_ | refine k_orF ?_))
  | ((with_reducible show vNot _ _ _); refine u_not ?_)
  | ((with_reducible show kNot _ _ _); refine k_not ?_)
  | ((with_reducible show vAndV _ _ _ _); refine u_andV ?_)
  | ((with_reducible show kAndV _ _ _ _); (first | refine k_andVT ?_ | refine k_andVF ?_))
  | ((with_reducible show kOrV _ _ _ _); (first | refine k_orVT ?_ | refine k_orVF ?_))
  | ((with_reducible show vOrV _ _ _ _); refine u_orV ?_)
  | ((with_reducible show vNotV _ _ _); refine u_notV ?_)
  | ((with_reducible show kNotV _ _ _); refine k_notV ?_)
  | ((with_reducible show vIfE _ _ _ _ _); refine u_ifE ?_)
  | ((with_reducible show kIfE _ _ _ _ _); (first | refine k_ifET ?_ | refine k_ifEF ?_))
  | ((with_reducible show vLst _ _ _); refine u_lst ?_)
  | ((with_reducible show kLst _ _ _); refine k_lst rfl (by simp only [List.length_cons, List.length_nil]; decide) ?_)
  | ((with_reducible show vTup _ _ _); refine u_tup ?_)
  | ((with_reducible show kTup _ _ _); refine k_tup rfl (by simp only [List.length_cons, List.length_nil]; decide) ?_)
  | ((with_reducible show vNewD _ _); refine u_newD ?_)
  | ((with_reducible show vSl _ _ _ _ _); refine u_sl ?_)
  | ((with_reducible show kSl0 _ _ _ _ _); refine k_sl0 ?_)
  | ((with_reducible show kSl1 _ _ _ _ _); refine k_sl1 ?_)
  | ((with_reducible show kSl2 _ _ _ _ _); refine k_sl2 rfl ?_)
  | ((with_reducible show vNoPart _ _); refine u_noPart ?_)
  | ((with_reducible show vPart _ _ _); refine u_part ?_)
  | ((with_reducible show kPart _ _ _); refine k_part ?_)
  | ((with_reducible show vApp _ _ _ _); refine u_app rfl ?_)
  | ((with_reducible show vPopAt _ _ _ _); refine u_popAt rfl ?_)
  | ((with_reducible show vExt _ _ _ _); refine u_ext rfl ?_)
  | ((with_reducible show vM1 _ _ _ _ _); refine u_m1 ?_)
  | ((with_reducible show kM1a _ _ _ _ _); refine k_m1a rfl ?_)
  | ((with_reducible show kM1b _ _ _ _ _); refine k_m1b rfl rfl ?_)
  | ((with_reducible show vGet2 _ _ _ _ _); refine u_get2 ?_)
  | ((with_reducible show kGet1 _ _ _ _ _); refine k_get1 rfl ?_)
  | ((with_reducible show kGet2 _ _ _ _ _); refine k_get2 ?_)
  | ((with_reducible show vSetL _ _ _ _ _); refine u_setL ?_)
  | ((with_reducible show kSetL1 _ _ _ _ _); refine k_setL1 rfl ?_)
  | ((with_reducible show kSetL2 _ _ _ _ _); (first | refine k_setL2j 0 rfl rfl (by simp) rfl ?_ | refine k_setL2j 1 rfl rfl (by simp) rfl ?_ | refine k_setL2j 2 rfl rfl (by simp) rfl ?_))
  | ((with_reducible show vPutD _ _ _ _ _); refine u_putD ?_)
  | ((with_reducible show kPutD1 _ _ _ _ _); refine k_putD1 rfl ?_)
  | ((with_reducible show vAugL _ _ _ _ _ _); refine u_augL rfl ?_)
  | ((with_reducible show kAugL1 _ _ _ _ _ _); (first | refine k_augL1j 0 rfl rfl rfl ?_ | refine k_augL1j 1 rfl rfl rfl ?_ | refine k_augL1j 2 rfl rfl rfl ?_))
  | ((with_reducible show kAugL2 _ _ _ _ _ _ _); refine k_augL2j rfl (by simp) ?_)
  | ((with_reducible show vAug _ _ _ _ _); refine u_aug rfl ?_)
  | ((with_reducible show kAug _ _ _ _ _ _); (first | refine k_augAdd rfl ?_ | refine k_augSub rfl ?_))
  | ((with_reducible show vCall _ _ _ _); refine u_call ?_)
  | ((with_reducible show gN _ _ _ _); refine u_gN rfl rfl ?_)
  | ((with_reducible show gT _ _ _ _); refine u_gT rfl ?_)
  | ((with_reducible show gL _ _ _ _); refine u_gL rfl rfl ?_)
  | ((with_reducible show gTs _ _ _ _); (first | refine u_gTs0 ?_ | refine u_gTs ?_))
  | ((with_reducible show vItL _ _ _); refine u_itL ?_)
  | ((with_reducible show kItL _ _ _); refine k_itL rfl rfl ?_)
  | ((with_reducible show vItT _ _ _); refine u_itT ?_)
  | ((with_reducible show kItT _ _ _); refine k_itT rfl rfl ?_)
  | ((with_reducible show vItR1 _ _ _); refine u_itR1 ?_)
  | ((with_reducible show vItR2 _ _ _); refine u_itR2 ?_)
  | ((with_reducible show vFor _ _ _ _ _); refine u_for ?_)
  | ((with_reducible show vLc _ _ _ _ _ _ _); refine u_lc ?_)
  | ((with_reducible show vLcK _ _ _ _ _ _ _); refine u_lcK rfl ?_)
  | ((with_reducible show vYes _ _); refine u_yes ?_)
  | ((with_reducible show kLcT _ _ _ _ _ _); refine k_lcTT ?_)
  | ((with_reducible show addP _ _); refine p_addI ?_)
  | ((with_reducible show subP _ _); refine p_subI ?_)
  | ((with_reducible show mulP _ _); (first | refine p_mulI (.inl (.inl (by omega))) ?_ | refine p_mulI (.inl (.inr (by omega))) ?_))
  | ((with_reducible show modP _ _); refine p_modI (by omega) ?_)
  | ((with_reducible show divP _ _); refine p_divI (.inl (by constructor <;> omega)) ?_)
  | ((with_reducible show negP _ _); refine p_negI ?_)
  | ((with_reducible show ltP _ _); refine p_ltI ?_)
  | ((with_reducible show leP _ _); refine p_leI ?_)
  | ((with_reducible show gtP _ _); refine p_gtI ?_)
  | ((with_reducible show geP _ _); refine p_geI ?_)
  | ((with_reducible show eqP _ _); (first | refine p_eqI ?_ | refine p_eqS ?_ | refine p_eqB ?_ | refine p_eqN ?_))
  | ((with_reducible show neP _ _); (first | refine p_neI ?_ | refine p_neS ?_ | refine p_neB ?_))
  | ((with_reducible show isNP _ _); (first | refine p_isNn ?_ | refine p_isNi ?_ | refine p_isNs ?_ | refine p_isNb ?_ | refine p_isNl ?_ | refine p_isNt ?_ | refine p_isNd ?_))
  | ((with_reducible show notNP _ _); (first | refine p_notNn ?_ | refine p_notNi ?_ | refine p_notNs ?_ | refine p_notNb ?_ | refine p_notNl ?_ | refine p_notNt ?_ | refine p_notNd ?_))
  | ((with_reducible show isiP _ _); refine p_isi rfl rfl ?_)
  | ((with_reducible show isiTP _ _); refine p_isiT rfl rfl ?_)
  | ((with_reducible show reprP _ _); (first | refine p_reprB ?_ | refine p_reprN ?_))
  | ((with_reducible show lenP _ _); (first | refine p_lenL ?_ | refine p_lenF ?_ | refine p_lenT ?_ | refine p_lenD ?_))
  | ((with_reducible show absP _ _); refine p_absI ?_)
  | ((with_reducible show intP _ _); refine p_intI ?_)
  | ((with_reducible show listP _ _); (first | refine p_listL ?_ | refine p_listF ?_ | refine p_listD ?_))
  | ((with_reducible show ixP _ _); (first | refine p_ixLj 0 rfl rfl ?_ | refine p_ixLj 1 rfl rfl ?_ | refine p_ixLj 2 rfl rfl ?_ | refine p_ixLj 3 rfl rfl ?_ | refine p_ixTj 0 rfl rfl ?_ | refine p_ixTj 1 rfl rfl ?_ | refine p_ixTj 2 rfl rfl ?_ | refine p_ixTj 3 rfl rfl ?_))
  | ((with_reducible show inP _ _ _); (first | refine p_inS0 ?_ | refine p_inS1 ?_ | refine p_inI0 ?_ | refine p_inI1 ?_ | refine p_inD0 rfl ?_ | refine p_inD1 rfl ?_))
  | ((with_reducible show slP _ _ _ _); (first | refine p_slL ?_ | refine p_slF ?_))
  | ((with_reducible show sumP _ _); refine p_sum ?_)
  | ((with_reducible show maxP _ _); refine p_max2 ?_)
  | ((with_reducible show minP _ _); refine p_min2 ?_)
  | ((with_reducible show allP _ _); refine p_all ?_)
  | ((with_reducible show anyP _ _); refine p_any ?_))
local macro_rules | `(tactic| walk_at "ss") => `(tactic| repeat walk_at "s")
/-! joins: what is behind a choice is read once -/
theorem cutE {te : VE} {ρ : Rho} {Q : VK0} (P : Slot → Rho → Prop) (h : ∀ K : VK0, (∀ s ρ', P s ρ' → K s ρ') → te ρ K) (h2 : ∀ s ρ', P s ρ' → Q s ρ') : te ρ Q := h Q h2
theorem cutT {tt : VT} {ρ : Rho} {Q : Bool → Rho → Prop} (P : Bool → Rho → Prop) (h : ∀ K : Bool → Rho → Prop, (∀ s ρ', P s ρ' → K s ρ') → tt ρ K) (h2 : ∀ s ρ', P s ρ' → Q s ρ') : tt ρ Q := h Q h2
theorem cutS' {t : VS} {ρ : Rho} {nx bk ct : Rho → Prop} {rt : Slot → Rho → Prop} (P : Rho → Prop) (h : ∀ K : Rho → Prop, (∀ ρ', P ρ' → K ρ') → t (.mk K rt bk ct) ρ) (h2 : ∀ ρ', P ρ' → nx ρ') : t (.mk nx rt bk ct) ρ := h nx h2
theorem k_ifEJ {ta tb : VE} {ρ : Rho} {Q : VK0} {p : Prop} [Decidable p] (P : Slot → Rho → Prop) (h1 : p → ∀ K : VK0, (∀ s ρ', P s ρ' → K s ρ') → ta ρ K) (h2 : ¬ p → ∀ K : VK0, (∀ s ρ', P s ρ' → K s ρ') → tb ρ K) (h : ∀ s ρ', P s ρ' → Q s ρ') : kIfE ta tb Q (decide p) ρ :=
  k_ifEd (fun z => h1 z Q h) (fun z => h2 z Q h)
theorem k_ifEI {ta tb : VE} {ρ : Rho} {Q : VK0} {p : Prop} [Decidable p] (P : Slot → Prop) (h1 : p → ∀ K : VK0, (∀ s, P s → K s ρ) → ta ρ K) (h2 : ¬ p → ∀ K : VK0, (∀ s, P s → K s ρ) → tb ρ K) (h : ∀ s, P s → Q s ρ) : kIfE ta tb Q (decide p) ρ :=
  k_ifEd (fun z => h1 z Q h) (fun z => h2 z Q h)
local macro_rules | `(tactic| walk_at "back") => `(tactic| refine k_back ?_ (by dsimp only [takeBack, backS, List.set, List.getElem?_cons_zero, List.getElem?_cons_succ]))
theorem perm_eraseIdx {α : Type} {d : α} : ∀ {l : List α} {i : Nat}, l[i]? = some d → (d :: l.eraseIdx i).Perm l
  | [], i, h => by simp at h
  | x :: l, 0, h => by simp at h; subst h; exact .refl _
  | x :: l, i + 1, h => by
    have h' : l[i]? = some d := by simpa using h
    exact (List.Perm.swap x d _).trans ((perm_eraseIdx h').cons x)
abbrev srcD (a b c : Int) : Slot := .ow true (.lst [.int a, .int b, .int c])
/-- the promise of a def, read in its text -/
abbrev Reads (SS : VSp) (v : VS) (n : Nat) : Prop := ∀ ρs R, SS ρs R → v { nx := fun ρ' => R (.sh .non) (fin ρs ρ'), rt := fun r ρ' => R r (fin ρs ρ') } (ρs ++ uns n)
def S_pick : VSp := fun ρs R => ∃ a b c many, ρs = [srcD a b c, .sh (.int many)] ∧ 0 < many ∧ many < 1073741824 ∧ ∀ a' b' c' r, 0 ≤ r → r < many → R (.sh (.int r)) [srcD a' b' c', .sh (.int many)]
def v_pick : VS :=
  vSeq (vIf (vT (vBin gtP (vVal (vBin ixP (vPk 0) (vVal (vC (.int 0))))) (vVal (vC (.int 0))))) (vSeq (vSet 2 (vBin modP (vVal (vPrim intP (vCons (vVal (vBin ixP (vPk 0) (vVal (vC (.int 0))))) (vNil)))) (vPk 1)))
    (vSeq (vSetL 0 (vC (.int 0)) (vBin divP (vVal (vBin ixP (vPk 0) (vVal (vC (.int 0))))) (vPk 1)))
    (vRet (vMv 2)))) (vNext))
    (vSeq (vAugL 0 iaddP (vC (.int 2)) (vC (.int 1)))
    (vSeq (vSetL 0 (vC (.int 1)) (vBin modP (vVal (vPrim intP (vCons (vVal (vBin addP (vVal (vBin mulP (vVal (vBin ixP (vPk 0) (vVal (vC (.int 1))))) (vVal (vC (.int 48271))))) (vVal (vBin mulP (vVal (vBin ixP (vPk 0) (vVal (vC (.int 2))))) (vVal (vC (.int 60013))))))) (vNil)))) (vVal (vC (.int 2147483647)))))
    (vRet (vBin modP (vVal (vBin divP (vVal (vBin modP (vVal (vPrim intP (vCons (vVal (vBin addP (vVal (vBin mulP (vVal (vBin ixP (vPk 0) (vVal (vC (.int 1))))) (vVal (vC (.int 16807))))) (vVal (vBin mulP (vVal (vBin ixP (vPk 0) (vVal (vC (.int 2))))) (vVal (vC (.int 7411))))))) (vNil)))) (vVal (vC (.int 2147483629))))) (vVal (vC (.int 8))))) (vPk 1)))))
theorem rd_pick : Reads S_pick v_pick 1 := fun ρs R h => by
  obtain ⟨a, b, c, many, rfl, h0, h1, q⟩ := h
  unfold v_pick
  show vSeq _ _ _ [srcD a b c, .sh (.int many), .un]
  walk_at "ss"
  refine k_ifD (fun h => ?_) (fun h => ?_)
  · walk_at "ss"
    exact q _ _ _ _ (Int.emod_nonneg _ (by omega)) (Int.emod_lt_of_pos _ h0)
  · walk_at "ss"
    exact q _ _ _ _ (Int.emod_nonneg _ (by omega)) (Int.emod_lt_of_pos _ h0)
def S_choice : VSp := fun ρs R => ∃ a b c ds, ρs = [srcD a b c, .sh (.lst ds)] ∧ ds ≠ [] ∧ ds.length < 1073741824 ∧ ∀ a' b' c' d, d ∈ ds → R (.sh d) [srcD a' b' c', .sh (.lst ds)]
def v_choice : VS :=
  vRet (vBin ixP (vPk 1) (vVal (vCall S_pick (vCons (vPk 0) (vCons (vVal (vSh (vPrim lenP (vCons (vPk 1) (vNil))))) (vNil))))))
theorem rd_choice : Reads S_choice v_choice 0 := fun ρs R h => by
  obtain ⟨a, b, c, ds, rfl, h0, h1, q⟩ := h
  unfold v_choice
  have hl : 0 < ds.length := List.length_pos_iff.mpr h0
  show vRet _ _ [srcD a b c, .sh (.lst ds)]
  walk_at "ss"
  refine k_call rfl ⟨a, b, c, (ds.length : Int), rfl, by omega, by omega, fun a' b' c' r r0 r1 => ?_⟩
  walk_at "back"
  walk_at "ss"
  have hr : r.toNat < ds.length := by omega
  refine p_ixLn r0 (List.getElem?_eq_getElem hr) ?_
  walk_at "ss"
  exact q _ _ _ _ (List.getElem_mem hr)
def S_shuffled : VSp := fun ρs R => ∃ a b c ds, ρs = [srcD a b c, .sh (.lst ds)] ∧ ds.length < 1000000 ∧ ∀ a' b' c' es, es.Perm ds → R (.ow false (.lst es)) [srcD a' b' c', .sh (.lst ds)]
def v_shuffled : VS :=
  vSeq (vSet 2 (vPrim listP (vCons (vPk 1) (vNil))))
    (vSeq (vSet 3 (vLst (vNil)))
    (vSeq (vWhile (vT (vBin gtP (vVal (vPrim lenP (vCons (vPk 2) (vNil)))) (vVal (vC (.int 0))))) (vExpr (vApp 3 (vPopAt 2 (vCall S_pick (vCons (vPk 0) (vCons (vVal (vSh (vPrim lenP (vCons (vPk 2) (vNil))))) (vNil))))))))
    (vRet (vMv 3))))
theorem rd_shuffled : Reads S_shuffled v_shuffled 2 := fun ρs R h => by
  obtain ⟨a, b, c, ds, rfl, h1, q⟩ := h
  unfold v_shuffled
  show vSeq _ _ _ [srcD a b c, .sh (.lst ds), .un, .un]
  walk_at "ss"
  refine u_while1 (fun m ρ' => ∃ a b c left found, ρ' = [srcD a b c, .sh (.lst ds), .ow false (.lst left), .ow false (.lst found)] ∧ m = left.length ∧ (found ++ left).Perm ds) ds.length ⟨a, b, c, ds, [], rfl, rfl, .refl _⟩ ?_
  rintro m ρ' ⟨a, b, c, left, found, rfl, rfl, hp⟩
  have hlen := hp.length_eq
  rw [List.length_append] at hlen
  walk_at "ss"
  refine k_while (fun h => ?_) (fun h => ?_)
  · have hl : 0 < left.length := by simpa using h
    walk_at "ss"
    refine k_call rfl ⟨a, b, c, (left.length : Int), rfl, by omega, by omega, fun a' b' c' r r0 r1 => ?_⟩
    walk_at "back"
    refine k_popAt rfl r0 r1 (by omega) (fun d ρ2 hd hρ => ?_)
    subst hρ
    refine k_app rfl rfl (by show found.length < 16777216; omega) ?_
    walk_at "ss"
    have hr : r.toNat < left.length := by omega
    refine ⟨(left.eraseIdx r.toNat).length, by rw [List.length_eraseIdx, if_pos hr]; omega, a', b', c', _, _, rfl, rfl, ?_⟩
    refine List.Perm.trans ?_ hp
    rw [List.append_assoc]
    refine List.Perm.append_left _ ?_
    exact perm_eraseIdx hd
  · have hl : left = [] := by
      have : ¬ 0 < left.length := by simpa using h
      exact List.length_eq_zero_iff.mp (by omega)
    subst hl
    walk_at "ss"
    exact q _ _ _ _ (by simpa using hp)
/-! texts by their signs -/
theorem cut_to {a : List Nat} {i : Int} (h : 0 ≤ i) : cutS (SX.S a) none (some i) = SX.S (a.take i.toNat) := by
  have e : i = ((i.toNat : Nat) : Int) := by omega
  rw [e]
  unfold cutS
  rw [HT.sIx_none, HT.sIx_nat, SX.S_len]
  show SX.S ((a.drop 0).take (min i.toNat a.length - 0)) = SX.S (a.take i.toNat)
  rw [List.drop_zero, Nat.sub_zero]
  congr 1
  rw [Nat.min_comm, List.take_eq_take_iff]
  omega
theorem cut_from {a : List Nat} {i : Int} (h : 0 ≤ i) : cutS (SX.S a) (some i) none = SX.S (a.drop i.toNat) := by
  have e : i = ((i.toNat : Nat) : Int) := by omega
  rw [e]
  unfold cutS
  rw [HT.sIx_none, HT.sIx_nat, SX.S_len]
  show SX.S ((a.drop (min i.toNat a.length)).take (a.length - min i.toNat a.length)) = SX.S (a.drop i.toNat)
  congr 1
  by_cases hi : i.toNat ≤ a.length
  · rw [Nat.min_eq_left hi, List.take_of_length_le (by rw [List.length_drop]; omega)]
  · rw [Nat.min_eq_right (by omega), Nat.sub_self, List.take_zero, List.drop_of_length_le (by omega)]
theorem joinL_signs : ∀ cs : List Nat, TL.joinL [] (cs.map fun c => [c]) = cs
  | [] => rfl
  | [c] => rfl
  | c :: d :: r => by
    show [c] ++ [] ++ TL.joinL [] ((d :: r).map fun c => [c]) = c :: d :: r
    rw [joinL_signs (d :: r)]; rfl
theorem join_signs (cs : List Nat) : Txt.join ("" : Str) (cs.map fun c => SX.S [c]) = SX.S cs := by
  have e : (("" : Str)) = SX.S [] := by decide +kernel
  have e2 : (cs.map fun c => SX.S [c]) = (cs.map fun c => [c]).map SX.S := by rw [List.map_map]; rfl
  rw [e, e2, SX.join_S, joinL_signs]
theorem num_S (n : Nat) : ((toString ((n : Nat) : Int) : String) : Str) = SX.S (TL.numL n) := TL.ext_tl (TL.tl_num n)
abbrev abcS : Str := "abcdefghijklmnopqrstuvwxyz"
theorem abc_at : ∀ r : Nat, r < 26 → abcS.cps.toList[r]? = some (97 + r) := by decide +kernel
theorem abc_len : abcS.length ≤ sizeLine := by decide +kernel
def Letters (st : List Nat) : Prop := ∀ c ∈ st, 97 ≤ c ∧ c < 123
theorem Letters.nil : Letters [] := fun _ h => by cases h
theorem Letters.snoc {st : List Nat} {c : Nat} (h : Letters st) (h1 : 97 ≤ c) (h2 : c < 123) : Letters (st ++ [c]) := fun x hx => by
  rcases List.mem_append.mp hx with hx | hx
  · exact h x hx
  · rw [List.mem_singleton.mp hx]; exact ⟨h1, h2⟩
/-- the texts that the helpers make -/
def wordL (st : List Nat) (at' n : Nat) : List Nat := st.take at' ++ TL.numL n ++ st.drop at'
def nameL (st m tl : List Nat) (n : Nat) : List Nat := st ++ m ++ TL.numL n ++ tl
def S_words : VSp := fun ρs R => ∃ a b c many before, ρs = [srcD a b c, .sh (.int many), .sh (.int before)] ∧ 0 ≤ many ∧ many ≤ 500000 ∧ 0 ≤ before ∧ before ≤ 1000 ∧
  ∀ a' b' c' (st : List Nat) (at' : Nat) (ws : List (List Nat)), Letters st → 0 < at' → at' ≤ st.length → st.length ≤ 3 → ws.Perm ((List.range many.toNat).map fun k => wordL st at' (1000 + before.toNat * 100 + k)) →
    R (.ow false (.lst ((ws.map SX.S).map D.str))) [srcD a' b' c', .sh (.int many), .sh (.int before)]
def v_words : VS :=
  vSeq (vSet 3 (vC (.str "abcdefghijklmnopqrstuvwxyz")))
    (vSeq (vSet 4 (vM1 joinP (vVal (vC (.str ""))) (vVal (vLc (vItR1 (vCons (vVal (vBin addP (vVal (vC (.int 1))) (vVal (vCall S_pick (vCons (vPk 0) (vCons (vVal (vC (.int 3))) (vNil))))))) (vNil))) (gN 6) (vYes) (vBin ixP (vPk 3) (vVal (vCall S_pick (vCons (vPk 0) (vCons (vVal (vC (.int 26))) (vNil)))))) [6]))))
    (vSeq (vSet 5 (vBin addP (vVal (vC (.int 1))) (vVal (vCall S_pick (vCons (vPk 0) (vCons (vVal (vSh (vPrim lenP (vCons (vPk 4) (vNil))))) (vNil)))))))
    (vRet (vCall S_shuffled (vCons (vPk 0) (vCons (vVal (vSh (vLc (vItR1 (vCons (vPk 1) (vNil))) (gN 6) (vYes) (vBin addP (vVal (vBin addP (vVal (vSl (vPk 4) (vNoPart) (vPart (vVar 5)))) (vVal (vPrim strP (vCons (vVal (vBin addP (vVal (vBin addP (vVal (vC (.int 1000))) (vVal (vBin mulP (vPk 2) (vVal (vC (.int 100))))))) (vPk 6))) (vNil)))))) (vVal (vSl (vPk 4) (vPart (vVar 5)) (vNoPart)))) [6]))) (vNil)))))))
theorem perm_map_inv {α β : Type} (f : α → β) : ∀ {xs : List α} {ys : List β}, ys.Perm (xs.map f) → ∃ zs : List α, zs.Perm xs ∧ ys = zs.map f := by
  intro xs ys h
  generalize hz : xs.map f = zs at h
  induction h generalizing xs with
  | nil => exact ⟨[], by cases xs with | nil => exact .refl _ | cons _ _ => simp at hz, rfl⟩
  | cons x h ih =>
    cases xs with
    | nil => simp at hz
    | cons y xs =>
      rw [List.map_cons] at hz
      injection hz with h1 h2
      obtain ⟨zs, p, e⟩ := ih h2
      exact ⟨y :: zs, p.cons y, by rw [List.map_cons, h1, e]⟩
  | swap x y l =>
    cases xs with
    | nil => simp at hz
    | cons a xs => cases xs with
      | nil => simp at hz
      | cons b xs =>
        simp only [List.map_cons, List.cons.injEq] at hz
        exact ⟨b :: a :: xs, .swap _ _ _, by simp [hz]⟩
  | trans h1 h2 ih1 ih2 =>
    obtain ⟨zs, p, e⟩ := ih2 hz
    obtain ⟨ws, p2, e2⟩ := ih1 e.symm
    exact ⟨ws, p2.trans p, e2⟩
theorem small24 {n : Nat} (h : n ≤ 16777216) : n ≤ sizeLine := h
theorem log2_lt {x : Int} (h : x.natAbs < 2 ^ 62) : x.natAbs.log2 < 1920 := by
  by_cases h0 : x.natAbs = 0
  · rw [h0]; decide
  · exact Nat.lt_of_lt_of_le ((Nat.log2_lt h0).mpr h) (by decide)
theorem sum_ones (cs : List Nat) : ((cs.map fun c => SX.S [c]).map (·.length)).sum = cs.length := by
  induction cs with
  | nil => rfl
  | cons c r ih => simp only [List.map_cons, List.sum_cons, List.length_cons, ih]; show 1 + r.length = _; omega
theorem rd_words : Reads S_words v_words 4 := fun ρs R h => by
  obtain ⟨a, b, c, many, before, rfl, h0, h1, h2, h3, q⟩ := h
  unfold v_words
  show vSeq _ _ _ [srcD a b c, .sh (.int many), .sh (.int before), .un, .un, .un, .un]
  walk_at "ss"
  refine k_call rfl ⟨a, b, c, 3, rfl, by decide, by decide, fun a b c r r0 r1 => ?_⟩
  walk_at "back"
  walk_at "ss"
  refine k_itR1 rfl (by omega) ?_
  refine k_lc (by simp [Slot.free]) (fun j acc ρ' => ∃ a b c cs, ρ' = [srcD a b c, .sh (.int many), .sh (.int before), .sh (.str abcS), .un, .un, .un] ∧ cs.length = j ∧ Letters cs ∧ acc = (cs.map fun c => SX.S [c]).map D.str) ⟨a, b, c, [], rfl, rfl, .nil, rfl⟩ ?_ ?_
  · rintro j acc d ρ' hj ⟨a, b, c, cs, rfl, rfl, hl, rfl⟩
    have hj' : cs.length < (1 + r).toNat := by
      have := (List.getElem?_eq_some_iff.mp hj).1
      rwa [rangeD_len] at this
    walk_at "ss"
    refine k_call rfl ⟨a, b, c, 26, rfl, by decide, by decide, fun a b c r2 r0 r1 => ?_⟩
    walk_at "back"
    walk_at "ss"
    refine p_ixSn abc_len r0 (abc_at r2.toNat (by omega)) ?_
    walk_at "ss"
    refine k_lcE rfl (by simp; show cs.length < 16777216; omega) ?_
    exact ⟨a, b, c, cs ++ [97 + r2.toNat], rfl, by simp, hl.snoc (by omega) (by omega), by simp⟩
  · rintro acc ρ' ⟨a, b, c, cs, rfl, hj, hl, rfl⟩
    rw [rangeD_len] at hj
    walk_at "ss"
    refine p_join (by rw [sum_ones, List.length_map]; show cs.length + cs.length * 0 ≤ _; omega) ?_
    rw [join_signs]
    walk_at "ss"
    refine p_lenS (by rw [SX.S_len]; exact small24 (by omega)) ?_
    rw [SX.S_len]
    walk_at "ss"
    refine k_call rfl ⟨a, b, c, cs.length, rfl, by omega, by omega, fun a b c r2 r20 r21 => ?_⟩
    walk_at "back"
    walk_at "ss"
    refine k_itR1 rfl (by omega) ?_
    refine k_lcM (List.range many.toNat) (fun (i : Nat) => D.int (0 + (i : Int))) (fun _ => true) (fun k => .str (SX.S (wordL cs (1 + r2).toNat (1000 + before.toNat * 100 + k)))) _ rfl (by rw [List.length_range]; show many.toNat < 16777216; omega) (by simp [Slot.free]) (by dsimp only [wipeR, List.set]) ?_ ?_
    · intro x acc I hx hz t1 _
      have hx' : x < many.toNat := List.mem_range.mp hx
      walk_at "ss"
      refine p_slS (by rw [SX.S_len]; exact small24 (by omega)) ?_
      rw [cut_to (by omega)]
      walk_at "ss"
      have en : (1000 + before * 100 + (0 + (x : Int)) : Int) = ((1000 + before.toNat * 100 + x : Nat) : Int) := by omega
      rw [en]
      have ln : (TL.numL (1000 + before.toNat * 100 + x)).length ≤ 7 := TL.numL_len (by decide) (by omega)
      refine p_strI (log2_lt (by omega)) ?_
      rw [num_S]
      walk_at "ss"
      refine p_addS (by rw [SX.S_len, SX.S_len, List.length_take]; exact small24 (by omega)) ?_
      rw [SX.S_cat]
      walk_at "ss"
      refine p_slS (by rw [SX.S_len]; exact small24 (by omega)) ?_
      rw [cut_from (by omega)]
      walk_at "ss"
      refine p_addS (by rw [SX.S_len, SX.S_len, List.length_append, List.length_take, List.length_drop]; exact small24 (by omega)) ?_
      rw [SX.S_cat]
      walk_at "ss"
      refine k_lcE rfl hz ?_
      exact t1 rfl
    · walk_at "ss"
      refine k_call rfl ⟨a, b, c, _, rfl, by rw [List.length_map, List.filter_eq_self.mpr (fun _ _ => rfl), List.length_range]; omega, fun a b c es hp => ?_⟩
      walk_at "back"
      have hp2 := (perm_map_inv _ hp)
      obtain ⟨zs, hz, rfl⟩ := hp2
      rw [List.filter_eq_self.mpr (fun _ _ => rfl)] at hz
      have e : (zs.map fun k => D.str (SX.S (wordL cs (1 + r2).toNat (1000 + before.toNat * 100 + k)))) = (((zs.map fun k => wordL cs (1 + r2).toNat (1000 + before.toNat * 100 + k)).map SX.S).map D.str) := by rw [List.map_map, List.map_map]; rfl
      rw [e]
      exact q _ _ _ cs (1 + r2).toNat _ hl (by omega) (by omega) (by omega) (hz.map _)
def markL : List (List Nat) := [[46], [47], [45], [95]]
def tailL : List (List Nat) := [[], [120], [46, 99], [47, 113]]
def S_names : VSp := fun ρs R => ∃ a b c many before, ρs = [srcD a b c, .sh (.int many), .sh (.int before)] ∧ 0 ≤ many ∧ many ≤ 500000 ∧ 0 ≤ before ∧ before ≤ 1000 ∧
  ∀ (a' b' c' : Int) (st m tl : List Nat) (ws : List (List Nat)), Letters st → 0 < st.length → st.length ≤ 2 → m ∈ markL → tl ∈ tailL → ws.Perm ((List.range many.toNat).map fun k => nameL st m tl (1000 + before.toNat * 100 + k)) →
    R (.ow false (.lst ((ws.map SX.S).map D.str))) [srcD a' b' c', .sh (.int many), .sh (.int before)]
theorem mark_D : [D.str ".", D.str "/", D.str "-", D.str "_"] = (markL.map SX.S).map D.str := by
  have h : (("." : Str) = SX.S [46]) ∧ (("/" : Str) = SX.S [47]) ∧ (("-" : Str) = SX.S [45]) ∧ (("_" : Str) = SX.S [95]) := by decide +kernel
  rw [h.1, h.2.1, h.2.2.1, h.2.2.2]; rfl
theorem tail_D : [D.str "", D.str "x", D.str ".c", D.str "/q"] = (tailL.map SX.S).map D.str := by
  have h : (("" : Str) = SX.S []) ∧ (("x" : Str) = SX.S [120]) ∧ ((".c" : Str) = SX.S [46, 99]) ∧ (("/q" : Str) = SX.S [47, 113]) := by decide +kernel
  rw [h.1, h.2.1, h.2.2.1, h.2.2.2]; rfl
theorem mem_texts {d : D} {ls : List (List Nat)} (h : d ∈ (ls.map SX.S).map D.str) : ∃ l ∈ ls, d = .str (SX.S l) := by
  rw [List.map_map] at h
  obtain ⟨l, hl, e⟩ := List.mem_map.mp h
  exact ⟨l, hl, e.symm⟩
theorem markL_len {m : List Nat} (h : m ∈ markL) : m.length = 1 := by
  revert m; decide
theorem tailL_len {m : List Nat} (h : m ∈ tailL) : m.length ≤ 2 := by
  revert m; decide
def v_names : VS :=
  vSeq (vSet 3 (vC (.str "abcdefghijklmnopqrstuvwxyz")))
    (vSeq (vSet 4 (vM1 joinP (vVal (vC (.str ""))) (vVal (vLc (vItR1 (vCons (vVal (vBin addP (vVal (vC (.int 1))) (vVal (vCall S_pick (vCons (vPk 0) (vCons (vVal (vC (.int 2))) (vNil))))))) (vNil))) (gN 7) (vYes) (vBin ixP (vPk 3) (vVal (vCall S_pick (vCons (vPk 0) (vCons (vVal (vC (.int 26))) (vNil)))))) [7]))))
    (vSeq (vSet 5 (vCall S_choice (vCons (vPk 0) (vCons (vVal (vSh (vLst (vCons (vVal (vC (.str "."))) (vCons (vVal (vC (.str "/"))) (vCons (vVal (vC (.str "-"))) (vCons (vVal (vC (.str "_"))) (vNil)))))))) (vNil)))))
    (vSeq (vSet 6 (vCall S_choice (vCons (vPk 0) (vCons (vVal (vSh (vLst (vCons (vVal (vC (.str ""))) (vCons (vVal (vC (.str "x"))) (vCons (vVal (vC (.str ".c"))) (vCons (vVal (vC (.str "/q"))) (vNil)))))))) (vNil)))))
    (vRet (vCall S_shuffled (vCons (vPk 0) (vCons (vVal (vSh (vLc (vItR1 (vCons (vPk 1) (vNil))) (gN 7) (vYes) (vBin addP (vVal (vBin addP (vVal (vBin addP (vPk 4) (vPk 5))) (vVal (vPrim strP (vCons (vVal (vBin addP (vVal (vBin addP (vVal (vC (.int 1000))) (vVal (vBin mulP (vPk 2) (vVal (vC (.int 100))))))) (vPk 7))) (vNil)))))) (vPk 6)) [7]))) (vNil))))))))
theorem rd_names : Reads S_names v_names 5 := fun ρs R h => by
  obtain ⟨a, b, c, many, before, rfl, h0, h1, h2, h3, q⟩ := h
  unfold v_names
  show vSeq _ _ _ [srcD a b c, .sh (.int many), .sh (.int before), .un, .un, .un, .un, .un]
  walk_at "ss"
  refine k_call rfl ⟨a, b, c, 2, rfl, by decide, by decide, fun a b c r r0 r1 => ?_⟩
  walk_at "back"
  walk_at "ss"
  refine k_itR1 rfl (by omega) ?_
  refine k_lc (by simp [Slot.free]) (fun j acc ρ' => ∃ a b c cs, ρ' = [srcD a b c, .sh (.int many), .sh (.int before), .sh (.str abcS), .un, .un, .un, .un] ∧ cs.length = j ∧ Letters cs ∧ acc = (cs.map fun c => SX.S [c]).map D.str) ⟨a, b, c, [], rfl, rfl, .nil, rfl⟩ ?_ ?_
  · rintro j acc d ρ' hj ⟨a, b, c, cs, rfl, rfl, hl, rfl⟩
    have hj' : cs.length < (1 + r).toNat := by
      have := (List.getElem?_eq_some_iff.mp hj).1
      rwa [rangeD_len] at this
    walk_at "ss"
    refine k_call rfl ⟨a, b, c, 26, rfl, by decide, by decide, fun a b c r2 r0 r1 => ?_⟩
    walk_at "back"
    walk_at "ss"
    refine p_ixSn abc_len r0 (abc_at r2.toNat (by omega)) ?_
    walk_at "ss"
    refine k_lcE rfl (by simp; show cs.length < 16777216; omega) ?_
    exact ⟨a, b, c, cs ++ [97 + r2.toNat], rfl, by simp, hl.snoc (by omega) (by omega), by simp⟩
  · rintro acc ρ' ⟨a, b, c, cs, rfl, hj, hl, rfl⟩
    rw [rangeD_len] at hj
    walk_at "ss"
    refine p_join (by rw [sum_ones, List.length_map]; show cs.length + cs.length * 0 ≤ _; omega) ?_
    rw [join_signs]
    walk_at "ss"
    rw [mark_D]
    refine k_call rfl ⟨a, b, c, _, rfl, by decide, by decide, fun a b c d hd => ?_⟩
    obtain ⟨m, hm, rfl⟩ := mem_texts hd
    walk_at "back"
    walk_at "ss"
    rw [tail_D]
    refine k_call rfl ⟨a, b, c, _, rfl, by decide, by decide, fun a b c d hd => ?_⟩
    obtain ⟨tl, ht, rfl⟩ := mem_texts hd
    walk_at "back"
    walk_at "ss"
    have lm := markL_len hm
    have lt := tailL_len ht
    refine k_itR1 rfl (by omega) ?_
    refine k_lcM (List.range many.toNat) (fun (i : Nat) => D.int (0 + (i : Int))) (fun _ => true) (fun k => .str (SX.S (nameL cs m tl (1000 + before.toNat * 100 + k)))) _ rfl (by rw [List.length_range]; show many.toNat < 16777216; omega) (by simp [Slot.free]) (by dsimp only [wipeR, List.set]) ?_ ?_
    · intro x acc I hx hz t1 _
      have hx' : x < many.toNat := List.mem_range.mp hx
      walk_at "ss"
      refine p_addS (by rw [SX.S_len, SX.S_len]; exact small24 (by omega)) ?_
      rw [SX.S_cat]
      walk_at "ss"
      have en : (1000 + before * 100 + (0 + (x : Int)) : Int) = ((1000 + before.toNat * 100 + x : Nat) : Int) := by omega
      rw [en]
      have ln : (TL.numL (1000 + before.toNat * 100 + x)).length ≤ 7 := TL.numL_len (by decide) (by omega)
      refine p_strI (log2_lt (by omega)) ?_
      rw [num_S]
      walk_at "ss"
      refine p_addS (by rw [SX.S_len, SX.S_len, List.length_append]; exact small24 (by omega)) ?_
      rw [SX.S_cat]
      walk_at "ss"
      refine p_addS (by rw [SX.S_len, SX.S_len, List.length_append, List.length_append]; exact small24 (by omega)) ?_
      rw [SX.S_cat]
      walk_at "ss"
      refine k_lcE rfl hz ?_
      exact t1 rfl
    · walk_at "ss"
      refine k_call rfl ⟨a, b, c, _, rfl, by rw [List.length_map, List.filter_eq_self.mpr (fun _ _ => rfl), List.length_range]; omega, fun a b c es hp => ?_⟩
      walk_at "back"
      have hp2 := (perm_map_inv _ hp)
      obtain ⟨zs, hz, rfl⟩ := hp2
      rw [List.filter_eq_self.mpr (fun _ _ => rfl)] at hz
      have e : (zs.map fun k => D.str (SX.S (nameL cs m tl (1000 + before.toNat * 100 + k)))) = (((zs.map fun k => nameL cs m tl (1000 + before.toNat * 100 + k)).map SX.S).map D.str) := by rw [List.map_map, List.map_map]; rfl
      rw [e]
      exact q _ _ _ cs m tl _ hl (by omega) (by omega) hm ht (hz.map _)
end WL


set_option Elab.async false
set_option linter.all false
set_option maxRecDepth 100000
set_option maxHeartbeats 4000000
/-! HV: the helpers that the laws share: what they promise, and that they keep it. -/
namespace WL
open PySem PySem.Spec PyProof.Rows L2
local macro_rules | `(tactic| walk_at "s") => `(tactic| first
  | ((with_reducible show vSeq _ _ _ _); refine u_seq ?_)
  | ((with_reducible show vSet _ _ _ _); refine u_set ?_)
  | ((with_reducible show kSet _ _ _ _); refine k_set rfl rfl ?_)
  | ((with_reducible show vRet _ _ _); refine u_ret ?_)
  | ((with_reducible show vIf _ _ _ _ _); refine u_if ?_)
  | ((with_reducible show vExpr _ _ _); refine u_expr ?_)
  | ((with_reducible show kExpr _ _ _); refine k_expr ?_)
  | ((with_reducible show vRetN _ _); refine u_retN ?_)
  | ((with_reducible show vAsg _ _ _ _); refine u_asg ?_)
  | ((with_reducible show kAsg _ _ _ _); refine k_asg rfl ?_)
  | ((with_reducible show vNext _ _); refine u_next ?_)
  | ((with_reducible show vBreak _ _); refine u_break ?_)
  | ((with_reducible show vCont _ _); refine u_cont ?_)
  | ((with_reducible show kIf _ _ _ _ _); (first | refine k_ifT ?_ | refine k_ifF ?_))
  | ((with_reducible show vVal _ _ _); refine u_val ?_)
  | ((with_reducible show kVal _ _ _); refine k_val ?_)
  | ((with_reducible show vPk _ _ _); refine u_pk rfl rfl ?_)
  | ((with_reducible show vC _ _ _); refine u_c ?_)
  | ((with_reducible show vVar _ _ _); (first | refine u_var rfl ?_ | refine u_varL rfl ?_ | refine u_varD rfl ?_ | refine u_varE rfl ?_))
  | ((with_reducible show vMv _ _ _); (first | refine u_mv rfl ?_ | refine u_mvO rfl ?_))
  | ((with_reducible show vBin _ _ _ _ _); refine u_bin ?_)
  | ((with_reducible show kBin1 _ _ _ _ _); refine k_bin1 ?_)
  | ((with_reducible show kBin2 _ _ _ _ _); refine k_bin2 rfl rfl ?_)
  | ((with_reducible show vUn _ _ _ _); refine u_un ?_)
  | ((with_reducible show kUn _ _ _ _); refine k_un rfl ?_)
  | ((with_reducible show vCons _ _ _ _); refine u_cons ?_)
  | ((with_reducible show kCons1 _ _ _ _); refine k_cons1 ?_)
  | ((with_reducible show vNil _ _); refine u_nil ?_)
  | ((with_reducible show kCons2 _ _ _ _); refine k_cons2 ?_)
  | ((with_reducible show vPrim _ _ _ _); refine u_prim ?_)
  | ((with_reducible show kPrim _ _ _ _); (first | refine k_prim1 rfl ?_ | refine k_prim2 rfl rfl ?_))
  | ((with_reducible show kRet _ _ _); (first | refine k_retV ?_ | refine k_retL ?_ | refine k_retT ?_ | refine k_retD ?_))
  | ((with_reducible show vSh _ _ _); refine u_sh ?_)
  | ((with_reducible show kSh _ _ _); (first | refine k_sh ?_ | refine k_shL ?_ | refine k_shD ?_))
  | ((with_reducible show vT _ _ _); refine u_t ?_)
  | ((with_reducible show kT _ _ _); refine k_t ?_)
  | ((with_reducible show vTru _ _ _); refine u_tru ?_)
  | ((with_reducible show kTru _ _ _); refine k_tru rfl rfl ?_)
  | ((with_reducible show vAnd _ _ _ _); refine u_and ?_)
  | ((with_reducible show kAnd _ _ _ _); (first | refine k_andT ?_ | refine k_andF ?_))
  | ((with_reducible show vOr _ _ _ _); refine u_or ?_)
  | ((with_reducible show kOr _ _ _ _); (first | refine k_orT ?_ | refine k_orF ?_))
  | ((with_reducible show vNot _ _ _); refine u_not ?_)
  | ((with_reducible show kNot _ _ _); refine k_not ?_)
  | ((with_reducible show vAndV _ _ _ _); refine u_andV ?_)
  | ((with_reducible show kAndV _ _ _ _); (first | refine k_andVT ?_ | refine k_andVF ?_))
  | ((with_reducible show kOrV _ _ _ _); (first | refine k_orVT ?_ | refine k_orVF ?_))
  | ((with_reducible show vOrV _ _ _ _); refine u_orV ?_)
  | ((with_reducible show vNotV _ _ _); refine u_notV ?_)
  | ((with_reducible show kNotV _ _ _); refine k_notV ?_)
  | ((with_reducible show vIfE _ _ _ _ _); refine u_ifE ?_)
  | ((with_reducible show kIfE _ _ _ _ _); (first | refine k_ifET ?_ | refine k_ifEF ?_))
  | ((with_reducible show vLst _ _ _); refine u_lst ?_)
  | ((with_reducible show kLst _ _ _); refine k_lst rfl (by simp only [List.length_cons, List.length_nil]; decide) ?_)
  | ((with_reducible show vTup _ _ _); refine u_tup ?_)
  | ((with_reducible show kTup _ _ _); refine k_tup rfl (by simp only [List.length_cons, List.length_nil]; decide) ?_)
  | ((with_reducible show vNewD _ _); refine u_newD ?_)
  | ((with_reducible show vSl _ _ _ _ _); refine u_sl ?_)
  | ((with_reducible show kSl0 _ _ _ _ _); refine k_sl0 ?_)
  | ((with_reducible show kSl1 _ _ _ _ _); refine k_sl1 ?_)
  | ((with_reducible show kSl2 _ _ _ _ _); refine k_sl2 rfl ?_)
  | ((with_reducible show vNoPart _ _); refine u_noPart ?_)
  | ((with_reducible show vPart _ _ _); refine u_part ?_)
  | ((with_reducible show kPart _ _ _); refine k_part ?_)
  | ((with_reducible show vApp _ _ _ _); refine u_app rfl ?_)
  | ((with_reducible show vPopAt _ _ _ _); refine u_popAt rfl ?_)
  | ((with_reducible show vExt _ _ _ _); refine u_ext rfl ?_)
  | ((with_reducible show vM1 _ _ _ _ _); refine u_m1 ?_)
  | ((with_reducible show kM1a _ _ _ _ _); refine k_m1a rfl ?_)
  | ((with_reducible show kM1b _ _ _ _ _); refine k_m1b rfl rfl ?_)
  | ((with_reducible show vGet2 _ _ _ _ _); refine u_get2 ?_)
  | ((with_reducible show kGet1 _ _ _ _ _); refine k_get1 rfl ?_)
  | ((with_reducible show kGet2 _ _ _ _ _); refine k_get2 ?_)
  | ((with_reducible show vSetL _ _ _ _ _); refine u_setL ?_)
  | ((with_reducible show kSetL1 _ _ _ _ _); refine k_setL1 rfl ?_)
  | ((with_reducible show kSetL2 _ _ _ _ _); (first | refine k_setL2j 0 rfl rfl (by simp) rfl ?_ | refine k_setL2j 1 rfl rfl (by simp) rfl ?_ | refine k_setL2j 2 rfl rfl (by simp) rfl ?_))
  | ((with_reducible show vPutD _ _ _ _ _); refine u_putD ?_)
  | ((with_reducible show kPutD1 _ _ _ _ _); refine k_putD1 rfl ?_)
  | ((with_reducible show vAugL _ _ _ _ _ _); refine u_augL rfl ?_)
  | ((with_reducible show kAugL1 _ _ _ _ _ _); (first | refine k_augL1j 0 rfl rfl rfl ?_ | refine k_augL1j 1 rfl rfl rfl ?_ | refine k_augL1j 2 rfl rfl rfl ?_))
  | ((with_reducible show kAugL2 _ _ _ _ _ _ _); refine k_augL2j rfl (by simp) ?_)
  | ((with_reducible show vAug _ _ _ _ _); refine u_aug rfl ?_)
  | ((with_reducible show kAug _ _ _ _ _ _); (first | refine k_augAdd rfl ?_ | refine k_augSub rfl ?_))
  | ((with_reducible show vCall _ _ _ _); refine u_call ?_)
  | ((with_reducible show gN _ _ _ _); refine u_gN rfl rfl ?_)
  | ((with_reducible show gT _ _ _ _); refine u_gT rfl ?_)
  | ((with_reducible show gL _ _ _ _); refine u_gL rfl rfl ?_)
  | ((with_reducible show gTs _ _ _ _); (first | refine u_gTs0 ?_ | refine u_gTs ?_))
  | ((with_reducible show vItL _ _ _); refine u_itL ?_)
  | ((with_reducible show kItL _ _ _); refine k_itL rfl rfl ?_)
  | ((with_reducible show vItT _ _ _); refine u_itT ?_)
  | ((with_reducible show kItT _ _ _); refine k_itT rfl rfl ?_)
  | ((with_reducible show vItR1 _ _ _); refine u_itR1 ?_)
  | ((with_reducible show vItR2 _ _ _); refine u_itR2 ?_)
  | ((with_reducible show vFor _ _ _ _ _); refine u_for ?_)
  | ((with_reducible show vLc _ _ _ _ _ _ _); refine u_lc ?_)
  | ((with_reducible show vLcK _ _ _ _ _ _ _); refine u_lcK rfl ?_)
  | ((with_reducible show vYes _ _); refine u_yes ?_)
  | ((with_reducible show kLcT _ _ _ _ _ _); refine k_lcTT ?_)
  | ((with_reducible show addP _ _); refine p_addI ?_)
  | ((with_reducible show subP _ _); refine p_subI ?_)
  | ((with_reducible show mulP _ _); (first | refine p_mulI (.inl (.inl (by omega))) ?_ | refine p_mulI (.inl (.inr (by omega))) ?_))
  | ((with_reducible show modP _ _); refine p_modI (by omega) ?_)
  | ((with_reducible show divP _ _); refine p_divI (.inl (by constructor <;> omega)) ?_)
  | ((with_reducible show negP _ _); refine p_negI ?_)
  | ((with_reducible show ltP _ _); refine p_ltI ?_)
  | ((with_reducible show leP _ _); refine p_leI ?_)
  | ((with_reducible show gtP _ _); refine p_gtI ?_)
  | ((with_reducible show geP _ _); refine p_geI ?_)
  | ((with_reducible show eqP _ _); (first | refine p_eqI ?_ | refine p_eqS ?_ | refine p_eqB ?_ | refine p_eqN ?_))
  | ((with_reducible show neP _ _); (first | refine p_neI ?_ | refine p_neS ?_ | refine p_neB ?_))
  | ((with_reducible show isNP _ _); (first | refine p_isNn ?_ | refine p_isNi ?_ | refine p_isNs ?_ | refine p_isNb ?_ | refine p_isNl ?_ | refine p_isNt ?_ | refine p_isNd ?_))
  | ((with_reducible show notNP _ _); (first | refine p_notNn ?_ | refine p_notNi ?_ | refine p_notNs ?_ | refine p_notNb ?_ | refine p_notNl ?_ | refine p_notNt ?_ | refine p_notNd ?_))
  | ((with_reducible show isiP _ _); refine p_isi rfl rfl ?_)
  | ((with_reducible show isiTP _ _); refine p_isiT rfl rfl ?_)
  | ((with_reducible show reprP _ _); (first | refine p_reprB ?_ | refine p_reprN ?_))
  | ((with_reducible show lenP _ _); (first | refine p_lenL ?_ | refine p_lenF ?_ | refine p_lenT ?_ | refine p_lenD ?_))
  | ((with_reducible show absP _ _); refine p_absI ?_)
  | ((with_reducible show intP _ _); refine p_intI ?_)
  | ((with_reducible show listP _ _); (first | refine p_listL ?_ | refine p_listF ?_ | refine p_listD ?_))
  | ((with_reducible show ixP _ _); (first | refine p_ixLj 0 rfl rfl ?_ | refine p_ixLj 1 rfl rfl ?_ | refine p_ixLj 2 rfl rfl ?_ | refine p_ixLj 3 rfl rfl ?_ | refine p_ixTj 0 rfl rfl ?_ | refine p_ixTj 1 rfl rfl ?_ | refine p_ixTj 2 rfl rfl ?_ | refine p_ixTj 3 rfl rfl ?_))
  | ((with_reducible show inP _ _ _); (first | refine p_inS0 ?_ | refine p_inS1 ?_ | refine p_inI0 ?_ | refine p_inI1 ?_ | refine p_inD0 rfl ?_ | refine p_inD1 rfl ?_))
  | ((with_reducible show slP _ _ _ _); (first | refine p_slL ?_ | refine p_slF ?_))
  | ((with_reducible show sumP _ _); refine p_sum ?_)
  | ((with_reducible show maxP _ _); refine p_max2 ?_)
  | ((with_reducible show minP _ _); refine p_min2 ?_)
  | ((with_reducible show allP _ _); refine p_all ?_)
  | ((with_reducible show anyP _ _); refine p_any ?_))
local macro_rules | `(tactic| walk_at "ss") => `(tactic| repeat walk_at "s")
local macro_rules | `(tactic| walk_at "back") => `(tactic| refine k_back ?_ (by dsimp only [takeBack, backS, List.set, List.getElem?_cons_zero, List.getElem?_cons_succ]))
def v_source : VS :=
  vSeq (vSet 2 (vIfE (vT (vBin ltP (vPk 1) (vVal (vPrim lenP (vCons (vPk 0) (vNil)))))) (vPrim intP (vCons (vVal (vBin ixP (vPk 0) (vPk 1))) (vNil))) (vBin addP (vVal (vBin mulP (vVal (vC (.int 31))) (vVal (vPrim sumP (vCons (vVal (vLc (vItL (vSl (vPk 0) (vNoPart) (vPart (vC (.int 6))))) (gN 5) (vYes) (vBin modP (vVal (vPrim intP (vCons (vPk 5) (vNil)))) (vVal (vC (.int 999979)))) [5])) (vNil)))))) (vVal (vC (.int 17))))))
    (vSeq (vSet 3 (vBin modP (vVal (vPrim absP (vCons (vPk 2) (vNil)))) (vVal (vBin mulP (vVal (vBin powP (vVal (vC (.int 10))) (vVal (vC (.int 60))))) (vVal (vBin powP (vVal (vC (.int 10))) (vVal (vC (.int 60)))))))))
    (vSeq (vSet 4 (vBin modP (vVal (vPrim intP (vCons (vVal (vBin addP (vVal (vBin addP (vVal (vBin addP (vVal (vBin mulP (vVal (vC (.int 2))) (vPk 3))) (vVal (vIfE (vT (vBin ltP (vPk 2) (vVal (vC (.int 0))))) (vC (.int 1)) (vC (.int 0)))))) (vVal (vBin mulP (vPk 1) (vVal (vC (.int 130363))))))) (vVal (vC (.int 65539))))) (vNil)))) (vVal (vC (.int 2147483629)))))
    (vRet (vLst (vCons (vVal (vIfE (vT (vBin geP (vPk 3) (vVal (vBin powP (vVal (vC (.int 10))) (vVal (vC (.int 18))))))) (vVar 3) (vC (.int 0)))) (vCons (vVal (vBin modP (vVal (vPrim intP (vCons (vVal (vBin mulP (vVal (vBin addP (vPk 4) (vVal (vC (.int 7919))))) (vVal (vBin addP (vPk 4) (vVal (vC (.int 104729))))))) (vNil)))) (vVal (vC (.int 2147483629))))) (vCons (vVal (vVar 1)) (vNil))))))))
def S_source : VSp := fun ρs R => ∃ (ns : List Int) (at' : Int), ρs = [.sh (.fls (ns.map D.int)), .sh (.int at')] ∧ ns.length ≤ 1000 ∧ 0 ≤ at' ∧ at' ≤ 1000000 ∧
  ∀ a b : Int, R (.ow false (.lst [.int a, .int b, .int at'])) [.sh (.fls (ns.map D.int)), .sh (.int at')]
theorem cutL_map {α : Type} (f : α → D) (xs : List α) (lo hi : Option Int) : cutL (xs.map f) lo hi = (cutL xs lo hi).map f := by
  unfold cutL
  rw [List.length_map, ← List.map_drop, ← List.map_take]
theorem cutL_len {α : Type} (xs : List α) (lo hi : Option Int) : (cutL xs lo hi).length ≤ xs.length := by
  unfold cutL
  rw [List.length_take, List.length_drop]; omega
theorem rd_source : Reads S_source v_source 4 := fun ρs R h => by
  obtain ⟨ns, at', rfl, h0, h1, h2, q⟩ := h
  unfold v_source
  show vSeq _ _ _ [.sh (.fls (ns.map D.int)), .sh (.int at'), .un, .un, .un, .un]
  walk_at "ss"
  refine k_ifEJ (fun s ρ' => ∃ n : Int, s = .sh (.int n) ∧ ρ' = [.sh (.fls (ns.map D.int)), .sh (.int at'), .un, .un, .un, .un]) (fun h K hK => ?_) (fun h K hK => ?_) (fun s ρ' hs => ?_)
  · rw [List.length_map] at h
    walk_at "ss"
    have hx : at'.toNat < ns.length := by omega
    refine p_ixFn h1 (by rw [List.getElem?_map, List.getElem?_eq_getElem hx]; rfl) ?_
    walk_at "ss"
    exact hK _ _ ⟨_, rfl, rfl⟩
  · walk_at "ss"
    rw [cutL_map]
    refine k_lcM (cutL ns none (some 6)) D.int (fun _ => true) (fun n => .int (n % 999979)) _ rfl (Nat.lt_of_le_of_lt (cutL_len _ _ _) (by show ns.length < 16777216; omega)) (by simp [Slot.free]) (by dsimp only [wipeR, List.set]) ?_ ?_
    · intro x acc I hx hz t1 _
      walk_at "ss"
      exact k_lcE rfl hz (t1 rfl)
    · rw [List.filter_eq_self.mpr (fun _ _ => rfl), show (fun n : Int => D.int (n % 999979)) = D.int ∘ (fun n : Int => n % 999979) from rfl, ← List.map_map]
      walk_at "ss"
      exact hK _ _ ⟨_, rfl, rfl⟩
  · obtain ⟨cell, rfl, rfl⟩ := hs
    walk_at "ss"
    refine p_powI (by unfold CPow; decide) ?_
    walk_at "ss"
    refine p_powI (by unfold CPow; decide) ?_
    walk_at "ss"
    refine p_mulI (.inr (by unfold CMulW; decide +kernel)) ?_
    walk_at "ss"
    refine p_modI (by decide +kernel) ?_
    walk_at "ss"
    refine k_ifEI (fun s => ∃ n : Int, s = .sh (.int n)) (fun h K hK => ?_) (fun h K hK => ?_) (fun s hs => ?_)
    · walk_at "ss"
      exact hK _ ⟨_, rfl⟩
    · walk_at "ss"
      exact hK _ ⟨_, rfl⟩
    · obtain ⟨n, rfl⟩ := hs
      walk_at "ss"
      refine p_powI (by unfold CPow; decide) ?_
      walk_at "ss"
      refine k_ifEI (fun s => ∃ n : Int, s = .sh (.int n)) (fun h K hK => ?_) (fun h K hK => ?_) (fun s hs => ?_)
      · walk_at "ss"
        exact hK _ ⟨_, rfl⟩
      · walk_at "ss"
        exact hK _ ⟨_, rfl⟩
      · obtain ⟨n, rfl⟩ := hs
        walk_at "ss"
        exact q _ _
end WL


set_option Elab.async false
set_option linter.all false
set_option maxRecDepth 100000
set_option maxHeartbeats 4000000
/-! HV: the helpers that the laws share: what they promise, and that they keep it. -/
namespace WL
open PySem PySem.Spec PyProof.Rows L2
local macro_rules | `(tactic| walk_at "s") => `(tactic| first
  | ((with_reducible show vSeq _ _ _ _); refine u_seq ?_)
  | ((with_reducible show vSet _ _ _ _); refine u_set ?_)
  | ((with_reducible show kSet _ _ _ _); refine k_set rfl rfl ?_)
  | ((with_reducible show vRet _ _ _); refine u_ret ?_)
  | ((with_reducible show vIf _ _ _ _ _); refine u_if ?_)
  | ((with_reducible show vExpr _ _ _); refine u_expr ?_)
  | ((with_reducible show kExpr _ _ _); refine k_expr ?_)
  | ((with_reducible show vRetN _ _); refine u_retN ?_)
  | ((with_reducible show vAsg _ _ _ _); refine u_asg ?_)
  | ((with_reducible show kAsg _ _ _ _); refine k_asg rfl ?_)
  | ((with_reducible show vNext _ _); refine u_next ?_)
  | ((with_reducible show vBreak _ _); refine u_break ?_)
  | ((with_reducible show vCont _ _); refine u_cont ?_)
  | ((with_reducible show kIf _ _ _ _ _); (first | refine k_ifT ?_ | refine k_ifF ?_))
  | ((with_reducible show vVal _ _ _); refine u_val ?_)
  | ((with_reducible show kVal _ _ _); refine k_val ?_)
  | ((with_reducible show vPk _ _ _); refine u_pk rfl rfl ?_)
  | ((with_reducible show vC _ _ _); refine u_c ?_)
  | ((with_reducible show vVar _ _ _); (first | refine u_var rfl ?_ | refine u_varL rfl ?_ | refine u_varD rfl ?_ | refine u_varE rfl ?_))
  | ((with_reducible show vMv _ _ _); (first | refine u_mv rfl ?_ | refine u_mvO rfl ?_))
  | ((with_reducible show vBin _ _ _ _ _); refine u_bin ?_)
  | ((with_reducible show kBin1 _ _ _ _ _); refine k_bin1 ?_)
  | ((with_reducible show kBin2 _ _ _ _ _); refine k_bin2 rfl rfl ?_)
  | ((with_reducible show vUn _ _ _ _); refine u_un ?_)
  | ((with_reducible show kUn _ _ _ _); refine k_un rfl ?_)
  | ((with_reducible show vCons _ _ _ _); refine u_cons ?_)
  | ((with_reducible show kCons1 _ _ _ _); refine k_cons1 ?_)
  | ((with_reducible show vNil _ _); refine u_nil ?_)
  | ((with_reducible show kCons2 _ _ _ _); refine k_cons2 ?_)
  | ((with_reducible show vPrim _ _ _ _); refine u_prim ?_)
  | ((with_reducible show kPrim _ _ _ _); (first | refine k_prim1 rfl ?_ | refine k_prim2 rfl rfl ?_))
  | ((with_reducible show kRet _ _ _); (first | refine k_retV ?_ | refine k_retL ?_ | refine k_retT ?_ | refine k_retD ?_))
  | ((with_reducible show vSh _ _ _); refine u_sh ?_)
  | ((with_reducible show kSh _ _ _); (first | refine k_sh ?_ | refine k_shL ?_ | refine k_shD ?_))
  | ((with_reducible show vT _ _ _); refine u_t ?_)
  | ((with_reducible show kT _ _ _); refine k_t ?_)
  | ((with_reducible show vTru _ _ _); refine u_tru ?_)
  | ((with_reducible show kTru _ _ _); refine k_tru rfl rfl ?_)
  | ((with_reducible show vAnd _ _ _ _); refine u_and ?_)
  | ((with_reducible show kAnd _ _ _ _); (first | refine k_andT ?_ | refine k_andF ?_))
  | ((with_reducible show vOr _ _ _ _); refine u_or ?_)
  | ((with_reducible show kOr _ _ _ _); (first | refine k_orT ?_ | refine k_orF ?_))
  | ((with_reducible show vNot _ _ _); refine u_not ?_)
  | ((with_reducible show kNot _ _ _); refine k_not ?_)
  | ((with_reducible show vAndV _ _ _ _); refine u_andV ?_)
  | ((with_reducible show kAndV _ _ _ _); (first | refine k_andVT ?_ | refine k_andVF ?_))
  | ((with_reducible show kOrV _ _ _ _); (first | refine k_orVT ?_ | refine k_orVF ?_))
  | ((with_reducible show vOrV _ _ _ _); refine u_orV ?_)
  | ((with_reducible show vNotV _ _ _); refine u_notV ?_)
  | ((with_reducible show kNotV _ _ _); refine k_notV ?_)
  | ((with_reducible show vIfE _ _ _ _ _); refine u_ifE ?_)
  | ((with_reducible show kIfE _ _ _ _ _); (first | refine k_ifET ?_ | refine k_ifEF ?_))
  | ((with_reducible show vLst _ _ _); refine u_lst ?_)
  | ((with_reducible show kLst _ _ _); refine k_lst rfl (by simp only [List.length_cons, List.length_nil]; decide) ?_)
  | ((with_reducible show vTup _ _ _); refine u_tup ?_)
  | ((with_reducible show kTup _ _ _); refine k_tup rfl (by simp only [List.length_cons, List.length_nil]; decide) ?_)
  | ((with_reducible show vNewD _ _); refine u_newD ?_)
  | ((with_reducible show vSl _ _ _ _ _); refine u_sl ?_)
  | ((with_reducible show kSl0 _ _ _ _ _); refine k_sl0 ?_)
  | ((with_reducible show kSl1 _ _ _ _ _); refine k_sl1 ?_)
  | ((with_reducible show kSl2 _ _ _ _ _); refine k_sl2 rfl ?_)
  | ((with_reducible show vNoPart _ _); refine u_noPart ?_)
  | ((with_reducible show vPart _ _ _); refine u_part ?_)
  | ((with_reducible show kPart _ _ _); refine k_part ?_)
  | ((with_reducible show vApp _ _ _ _); refine u_app rfl ?_)
  | ((with_reducible show vPopAt _ _ _ _); refine u_popAt rfl ?_)
  | ((with_reducible show vExt _ _ _ _); refine u_ext rfl ?_)
  | ((with_reducible show vM1 _ _ _ _ _); refine u_m1 ?_)
  | ((with_reducible show kM1a _ _ _ _ _); refine k_m1a rfl ?_)
  | ((with_reducible show kM1b _ _ _ _ _); refine k_m1b rfl rfl ?_)
  | ((with_reducible show vGet2 _ _ _ _ _); refine u_get2 ?_)
  | ((with_reducible show kGet1 _ _ _ _ _); refine k_get1 rfl ?_)
  | ((with_reducible show kGet2 _ _ _ _ _); refine k_get2 ?_)
  | ((with_reducible show vSetL _ _ _ _ _); refine u_setL ?_)
  | ((with_reducible show kSetL1 _ _ _ _ _); refine k_setL1 rfl ?_)
  | ((with_reducible show kSetL2 _ _ _ _ _); (first | refine k_setL2j 0 rfl rfl (by simp) rfl ?_ | refine k_setL2j 1 rfl rfl (by simp) rfl ?_ | refine k_setL2j 2 rfl rfl (by simp) rfl ?_))
  | ((with_reducible show vPutD _ _ _ _ _); refine u_putD ?_)
  | ((with_reducible show kPutD1 _ _ _ _ _); refine k_putD1 rfl ?_)
  | ((with_reducible show vAugL _ _ _ _ _ _); refine u_augL rfl ?_)
  | ((with_reducible show kAugL1 _ _ _ _ _ _); (first | refine k_augL1j 0 rfl rfl rfl ?_ | refine k_augL1j 1 rfl rfl rfl ?_ | refine k_augL1j 2 rfl rfl rfl ?_))
  | ((with_reducible show kAugL2 _ _ _ _ _ _ _); refine k_augL2j rfl (by simp) ?_)
  | ((with_reducible show vAug _ _ _ _ _); refine u_aug rfl ?_)
  | ((with_reducible show kAug _ _ _ _ _ _); (first | refine k_augAdd rfl ?_ | refine k_augSub rfl ?_))
  | ((with_reducible show vCall _ _ _ _); refine u_call ?_)
  | ((with_reducible show gN _ _ _ _); refine u_gN rfl rfl ?_)
  | ((with_reducible show gT _ _ _ _); refine u_gT rfl ?_)
  | ((with_reducible show gL _ _ _ _); refine u_gL rfl rfl ?_)
  | ((with_reducible show gTs _ _ _ _); (first | refine u_gTs0 ?_ | refine u_gTs ?_))
  | ((with_reducible show vItL _ _ _); refine u_itL ?_)
  | ((with_reducible show kItL _ _ _); refine k_itL rfl rfl ?_)
  | ((with_reducible show vItT _ _ _); refine u_itT ?_)
  | ((with_reducible show kItT _ _ _); refine k_itT rfl rfl ?_)
  | ((with_reducible show vItR1 _ _ _); refine u_itR1 ?_)
  | ((with_reducible show vItR2 _ _ _); refine u_itR2 ?_)
  | ((with_reducible show vFor _ _ _ _ _); refine u_for ?_)
  | ((with_reducible show vLc _ _ _ _ _ _ _); refine u_lc ?_)
  | ((with_reducible show vLcK _ _ _ _ _ _ _); refine u_lcK rfl ?_)
  | ((with_reducible show vYes _ _); refine u_yes ?_)
  | ((with_reducible show kLcT _ _ _ _ _ _); refine k_lcTT ?_)
  | ((with_reducible show addP _ _); refine p_addI ?_)
  | ((with_reducible show subP _ _); refine p_subI ?_)
  | ((with_reducible show mulP _ _); (first | refine p_mulI (.inl (.inl (by omega))) ?_ | refine p_mulI (.inl (.inr (by omega))) ?_))
  | ((with_reducible show modP _ _); refine p_modI (by omega) ?_)
  | ((with_reducible show divP _ _); refine p_divI (.inl (by constructor <;> omega)) ?_)
  | ((with_reducible show negP _ _); refine p_negI ?_)
  | ((with_reducible show ltP _ _); refine p_ltI ?_)
  | ((with_reducible show leP _ _); refine p_leI ?_)
  | ((with_reducible show gtP _ _); refine p_gtI ?_)
  | ((with_reducible show geP _ _); refine p_geI ?_)
  | ((with_reducible show eqP _ _); (first | refine p_eqI ?_ | refine p_eqS ?_ | refine p_eqB ?_ | refine p_eqN ?_))
  | ((with_reducible show neP _ _); (first | refine p_neI ?_ | refine p_neS ?_ | refine p_neB ?_))
  | ((with_reducible show isNP _ _); (first | refine p_isNn ?_ | refine p_isNi ?_ | refine p_isNs ?_ | refine p_isNb ?_ | refine p_isNl ?_ | refine p_isNt ?_ | refine p_isNd ?_))
  | ((with_reducible show notNP _ _); (first | refine p_notNn ?_ | refine p_notNi ?_ | refine p_notNs ?_ | refine p_notNb ?_ | refine p_notNl ?_ | refine p_notNt ?_ | refine p_notNd ?_))
  | ((with_reducible show isiP _ _); refine p_isi rfl rfl ?_)
  | ((with_reducible show isiTP _ _); refine p_isiT rfl rfl ?_)
  | ((with_reducible show reprP _ _); (first | refine p_reprB ?_ | refine p_reprN ?_))
  | ((with_reducible show lenP _ _); (first | refine p_lenL ?_ | refine p_lenF ?_ | refine p_lenT ?_ | refine p_lenD ?_))
  | ((with_reducible show absP _ _); refine p_absI ?_)
  | ((with_reducible show intP _ _); refine p_intI ?_)
  | ((with_reducible show listP _ _); (first | refine p_listL ?_ | refine p_listF ?_ | refine p_listD ?_))
  | ((with_reducible show ixP _ _); (first | refine p_ixLj 0 rfl rfl ?_ | refine p_ixLj 1 rfl rfl ?_ | refine p_ixLj 2 rfl rfl ?_ | refine p_ixLj 3 rfl rfl ?_ | refine p_ixTj 0 rfl rfl ?_ | refine p_ixTj 1 rfl rfl ?_ | refine p_ixTj 2 rfl rfl ?_ | refine p_ixTj 3 rfl rfl ?_))
  | ((with_reducible show inP _ _ _); (first | refine p_inS0 ?_ | refine p_inS1 ?_ | refine p_inI0 ?_ | refine p_inI1 ?_ | refine p_inD0 rfl ?_ | refine p_inD1 rfl ?_))
  | ((with_reducible show slP _ _ _ _); (first | refine p_slL ?_ | refine p_slF ?_))
  | ((with_reducible show sumP _ _); refine p_sum ?_)
  | ((with_reducible show maxP _ _); refine p_max2 ?_)
  | ((with_reducible show minP _ _); refine p_min2 ?_)
  | ((with_reducible show allP _ _); refine p_all ?_)
  | ((with_reducible show anyP _ _); refine p_any ?_))
local macro_rules | `(tactic| walk_at "ss") => `(tactic| repeat walk_at "s")
local macro_rules | `(tactic| walk_at "back") => `(tactic| refine k_back ?_ (by dsimp only [takeBack, backS, List.set, List.getElem?_cons_zero, List.getElem?_cons_succ]))
/-- data that a comparison tells equal to itself -/
inductive Sm : Nat → D → Prop
  | non {k} : Sm k .non
  | bl {k b} : Sm k (.bl b)
  | int {k i} (h : i.natAbs.log2 < 1920) : Sm k (.int i)
  | str {k x} (h : (reprText x).length ≤ sizeLine) : Sm k (.str x)
  | lst {k ds} (h : ∀ d ∈ ds, Sm k d) (hz : ds.length < 1000000) : Sm (k + 1) (.lst ds)
  | tup {k ds} (h : ∀ d ∈ ds, Sm k d) (hz : ds.length < 1000000) : Sm (k + 1) (.tup ds)
  | dct {k kvs} (h : ∀ kv ∈ kvs, Sm k kv.2) (hz : kvs.length < 1000000) : Sm (k + 1) (.dct kvs)
def Sn_same : Nat → VSp
  | 0 => fun _ _ => False
  | k + 1 => fun ρs R => ∃ d, ρs = [.sh d, .sh d] ∧ Sm k d ∧ R (.sh (.bl true)) [.sh d, .sh d]
theorem look_mem {κ α : Type} [DecidableEq κ] {k : κ} {v : α} : ∀ {kvs : List (κ × α)}, (k, v) ∈ kvs → ∃ v', lookK kvs k = some v' ∧ (k, v') ∈ kvs
  | [], h => by cases h
  | (j, u) :: r, h => by
    by_cases e : j = k
    · subst e
      exact ⟨u, by unfold lookK; simp, by simp⟩
    · rcases List.mem_cons.mp h with h | h
      · cases h; exact absurd rfl e
      · obtain ⟨v', h1, h2⟩ := look_mem h
        exact ⟨v', by unfold lookK at h1 ⊢; rw [List.find?_cons_of_neg (by simp [e])]; exact h1, by simp [h2]⟩
theorem keyD_dK (k : Key) : keyD (dK k) = some k := by cases k <;> rfl
theorem all_true {α : Type} : ∀ xs : List α, (xs.map fun _ => true).all id = true
  | [] => rfl
  | _ :: r => by rw [List.map_cons, List.all_cons, all_true r]; rfl
abbrev S_same : VSp := Sn_same 4
def v_same (S_same : VSp) : VS :=
  vSeq (vIf (vTru (vVal (vPrim isiP (vCons (vPk 1) (vCons (vVal (vC (.opq (.ty "dict")))) (vNil)))))) (vSeq (vSet 2 (vLcK 1 (gN 3) (vYes) (vLst (vCons (vVal (vVar 3)) (vCons (vVal (vBin ixP (vPk 1) (vPk 3))) (vNil)))) [3]))
    (vSeq (vIf (vOr (vNot (vTru (vVal (vPrim isiP (vCons (vPk 0) (vCons (vVal (vC (.opq (.ty "dict")))) (vNil))))))) (vT (vBin neP (vVal (vPrim lenP (vCons (vPk 0) (vNil)))) (vVal (vPrim lenP (vCons (vPk 1) (vNil))))))) (vRet (vC (.bl false))) (vNext))
    (vRet (vPrim allP (vCons (vVal (vLc (vItL (vVar 2)) (gL [3, 4]) (vYes) (vAndV (vBin (inP false) (vPk 3) (vPk 0)) (vCall S_same (vCons (vVal (vSh (vBin ixP (vPk 0) (vPk 3)))) (vCons (vVal (vVar 4)) (vNil))))) [3, 4])) (vNil)))))) (vNext))
    (vSeq (vIf (vTru (vVal (vPrim isiTP (vCons (vPk 1) (vCons (vVal (vTup (vCons (vVal (vC (.opq (.ty "list")))) (vCons (vVal (vC (.opq (.ty "tuple")))) (vNil))))) (vNil)))))) (vSeq (vIf (vOr (vT (vBin neP (vVal (vPrim isiP (vCons (vPk 1) (vCons (vVal (vC (.opq (.ty "list")))) (vNil))))) (vVal (vPrim isiP (vCons (vPk 0) (vCons (vVal (vC (.opq (.ty "list")))) (vNil))))))) (vT (vBin neP (vVal (vPrim isiP (vCons (vPk 1) (vCons (vVal (vC (.opq (.ty "tuple")))) (vNil))))) (vVal (vPrim isiP (vCons (vPk 0) (vCons (vVal (vC (.opq (.ty "tuple")))) (vNil)))))))) (vRet (vC (.bl false))) (vNext))
    (vRet (vAndV (vBin eqP (vVal (vPrim lenP (vCons (vPk 0) (vNil)))) (vVal (vPrim lenP (vCons (vPk 1) (vNil))))) (vPrim allP (vCons (vVal (vLc (vItR1 (vCons (vVal (vPrim lenP (vCons (vPk 1) (vNil)))) (vNil))) (gN 5) (vYes) (vCall S_same (vCons (vVal (vSh (vBin ixP (vPk 0) (vPk 5)))) (vCons (vVal (vSh (vBin ixP (vPk 1) (vPk 5)))) (vNil)))) [5])) (vNil)))))) (vNext))
    (vRet (vAndV (vOrV (vBin isNP (vPk 0) (vVal (vC .non))) (vPrim isiTP (vCons (vPk 0) (vCons (vVal (vTup (vCons (vVal (vC (.opq (.ty "int")))) (vCons (vVal (vC (.opq (.ty "str")))) (vNil))))) (vNil))))) (vBin eqP (vVal (vPrim reprP (vCons (vPk 0) (vNil)))) (vVal (vPrim reprP (vCons (vPk 1) (vNil))))))))
theorem rd_same (k : Nat) : Reads (Sn_same (k + 1)) (v_same (Sn_same k)) 4 := fun ρs R h => by
  obtain ⟨d, rfl, sm, q⟩ := h
  unfold v_same
  show vSeq _ _ _ [.sh d, .sh d, .un, .un, .un, .un]
  cases sm with
  | non =>
    walk_at "ss"
    simp only [decide_true]
    exact q
  | bl =>
    walk_at "ss"
    simp only [decide_true]
    exact q
  | int h =>
    walk_at "ss"
    refine p_reprI h ?_
    walk_at "ss"
    refine p_reprI h ?_
    walk_at "ss"
    simp only [decide_true]
    exact q
  | str h =>
    walk_at "ss"
    refine p_reprS h ?_
    walk_at "ss"
    refine p_reprS h ?_
    walk_at "ss"
    simp only [decide_true]
    exact q
  | lst h hz =>
    rename_i k ds
    walk_at "ss"
    refine k_andV (fun _ => ?_) (fun z => absurd rfl (of_decide_eq_false z))
    walk_at "ss"
    refine k_itR1 rfl (by omega) ?_
    refine k_lcM (List.range ds.length) (fun (i : Nat) => D.int (0 + (i : Int))) (fun _ => true) (fun _ => .bl true) _ rfl (by rw [List.length_range]; show ds.length < 16777216; omega) (by simp [Slot.free]) (by dsimp only [wipeR, List.set]) ?_ ?_
    · intro x acc I hx hz t1 _
      have hx' : x < ds.length := List.mem_range.mp hx
      walk_at "ss"
      refine p_ixLj x (by omega) (List.getElem?_eq_getElem hx') ?_
      walk_at "ss"
      refine p_ixLj x (by omega) (List.getElem?_eq_getElem hx') ?_
      walk_at "ss"
      refine k_call rfl ⟨_, rfl, h _ (List.getElem_mem hx'), ?_⟩
      walk_at "back"
      exact k_lcE rfl hz (t1 rfl)
    · rw [List.filter_eq_self.mpr (fun _ _ => rfl), show (fun _ : Nat => D.bl true) = D.bl ∘ (fun _ : Nat => true) from rfl, ← List.map_map]
      walk_at "ss"
      rw [all_true]
      exact q
  | tup h hz =>
    rename_i k ds
    walk_at "ss"
    refine k_andV (fun _ => ?_) (fun z => absurd rfl (of_decide_eq_false z))
    walk_at "ss"
    refine k_itR1 rfl (by omega) ?_
    refine k_lcM (List.range ds.length) (fun (i : Nat) => D.int (0 + (i : Int))) (fun _ => true) (fun _ => .bl true) _ rfl (by rw [List.length_range]; show ds.length < 16777216; omega) (by simp [Slot.free]) (by dsimp only [wipeR, List.set]) ?_ ?_
    · intro x acc I hx hz t1 _
      have hx' : x < ds.length := List.mem_range.mp hx
      walk_at "ss"
      refine p_ixTj x (by omega) (List.getElem?_eq_getElem hx') ?_
      walk_at "ss"
      refine p_ixTj x (by omega) (List.getElem?_eq_getElem hx') ?_
      walk_at "ss"
      refine k_call rfl ⟨_, rfl, h _ (List.getElem_mem hx'), ?_⟩
      walk_at "back"
      exact k_lcE rfl hz (t1 rfl)
    · rw [List.filter_eq_self.mpr (fun _ _ => rfl), show (fun _ : Nat => D.bl true) = D.bl ∘ (fun _ : Nat => true) from rfl, ← List.map_map]
      walk_at "ss"
      rw [all_true]
      exact q
  | dct h hz =>
    rename_i k kvs
    walk_at "ss"
    refine k_lcM kvs (fun kv => dK kv.1) (fun _ => true) (fun kv => .lst [dK kv.1, (lookK kvs kv.1).getD .non]) _ rfl (by show kvs.length < 16777216; omega) (by simp [Slot.free]) (by dsimp only [wipeR, List.set]) ?_ ?_
    · intro kv acc I hx hz t1 _
      obtain ⟨v', h1, h2⟩ := look_mem (k := kv.1) (v := kv.2) hx
      walk_at "ss"
      refine p_ixD (keyD_dK _) h1 ?_
      walk_at "ss"
      refine k_lcE rfl hz ?_
      have t2 := t1 rfl
      rw [h1] at t2
      exact t2
    · rw [List.filter_eq_self.mpr (fun _ _ => rfl)]
      walk_at "ss"
      refine k_ifN (fun z => absurd rfl z) (fun _ => ?_)
      walk_at "ss"
      refine k_lcM kvs (fun kv => .lst [dK kv.1, (lookK kvs kv.1).getD .non]) (fun _ => true) (fun _ => .bl true) _ rfl (by show kvs.length < 16777216; omega) (by simp [Slot.free]) (by dsimp only [wipeR, List.set]) ?_ ?_
      · intro kv acc I hx hz t1 _
        obtain ⟨v', h1, h2⟩ := look_mem (k := kv.1) (v := kv.2) hx
        rw [h1]
        walk_at "ss"
        refine p_inD0 (keyD_dK _) ?_
        rw [h1]
        walk_at "ss"
        refine p_ixD (keyD_dK _) h1 ?_
        walk_at "ss"
        refine k_call rfl ⟨_, rfl, h _ h2, ?_⟩
        walk_at "back"
        exact k_lcE rfl hz (t1 rfl)
      · rw [List.filter_eq_self.mpr (fun _ _ => rfl), show (fun _ : Key × D => D.bl true) = D.bl ∘ (fun _ : Key × D => true) from rfl, ← List.map_map]
        walk_at "ss"
        rw [all_true]
        exact q
end WL


set_option Elab.async false
set_option linter.all false
set_option maxRecDepth 100000
set_option maxHeartbeats 4000000
/-! HV: the helpers that the laws share: what they promise, and that they keep it. -/
namespace WL
open PySem PySem.Spec PyProof.Rows L2
/-! what the helpers' texts are like -/
/-- a short text -/
structure SText (w : Str) : Prop where
  rp : (reprText w).length ≤ sizeLine
  len : w.length ≤ 64
  ok : PyData.strOk w = true
def Plain (w : Str) : Prop := ∀ c ∈ w.cps.toList, (97 ≤ c ∧ c < 123) ∨ (48 ≤ c ∧ c < 58)
def Marked (w : Str) : Prop := ∃ c ∈ w.cps.toList, c = 45 ∨ c = 46 ∨ c = 47 ∨ c = 95
theorem not_marked {w : Str} (h : Plain w) (m : Marked w) : False := by
  obtain ⟨c, hc, e⟩ := m
  have := h c hc
  omega
theorem stext_of {l : List Nat} (hl : l.length ≤ 64) (hc : ∀ c ∈ l, c < 128) : SText (SX.S l) := by
  refine ⟨?_, by rw [SX.S_len]; exact hl, ?_⟩
  rotate_left
  · show (SX.S l).cps.all (· < 0x110000) = true
    rw [← Array.all_toList]
    exact List.all_eq_true.mpr fun c h => decide_eq_true (Nat.lt_trans (hc c h) (by decide))
  have h := StrLaws.reprText_len (SX.S l) (fun c h => Nat.lt_trans (hc c h) (by decide))
  rw [SX.S_len l] at h
  exact Nat.le_trans h (small24 (by omega))
theorem digits_of {n c : Nat} (h : c ∈ TL.numL n) : 48 ≤ c ∧ c < 58 := by
  have := TL.numL_digits n c h
  omega
theorem word_chars {st : List Nat} {at' n c : Nat} (hst : Letters st) (h : c ∈ wordL st at' n) : (97 ≤ c ∧ c < 123) ∨ (48 ≤ c ∧ c < 58) := by
  unfold wordL at h
  rcases List.mem_append.mp h with h | h
  · rcases List.mem_append.mp h with h | h
    · exact .inl (hst c (List.mem_of_mem_take h))
    · exact .inr (digits_of h)
  · exact .inl (hst c (List.mem_of_mem_drop h))
theorem wordL_inj {st : List Nat} {at' m n : Nat} (h : wordL st at' m = wordL st at' n) : m = n := by
  unfold wordL at h
  rw [List.append_left_inj, List.append_right_inj] at h
  exact TL.numL_inj h
theorem nameL_inj {st k tl : List Nat} {m n : Nat} (h : nameL st k tl m = nameL st k tl n) : m = n := by
  unfold nameL at h
  rw [List.append_left_inj, List.append_right_inj] at h
  exact TL.numL_inj h
theorem nodup_map_range {α : Type} (f : Nat → α) (n : Nat) (h : ∀ i j, f i = f j → i = j) : ((List.range n).map f).Nodup := by
  unfold List.Nodup
  rw [List.pairwise_map]
  exact List.pairwise_lt_range.imp fun hlt e => by have := h _ _ e; omega
theorem nodup_map_S {l : List (List Nat)} (h : l.Nodup) : (l.map SX.S).Nodup := by
  unfold List.Nodup
  rw [List.pairwise_map]
  exact h.imp fun hne e => hne (SX.S_inj e)
structure WordsOk (W : List Str) (n : Nat) : Prop where
  nd : W.Nodup
  len : W.length = n
  tx : ∀ w ∈ W, SText w
  pl : ∀ w ∈ W, Plain w
structure NamesOk (W : List Str) (n : Nat) : Prop where
  nd : W.Nodup
  len : W.length = n
  tx : ∀ w ∈ W, SText w
  mrk : ∀ w ∈ W, Marked w
theorem words_ok {st : List Nat} {at' n base : Nat} {ws : List (List Nat)} (hst : Letters st) (hl : st.length ≤ 3) (hb : base + n ≤ 10000000) (hp : ws.Perm ((List.range n).map fun k => wordL st at' (base + k))) : WordsOk (ws.map SX.S) n := by
  have mem : ∀ w ∈ ws, ∃ k, k < n ∧ w = wordL st at' (base + k) := fun w hw => by
    obtain ⟨k, hk, e⟩ := List.mem_map.mp (hp.mem_iff.mp hw)
    exact ⟨k, List.mem_range.mp hk, e.symm⟩
  refine ⟨nodup_map_S (hp.nodup_iff.mpr (nodup_map_range _ _ fun i j e => by have := wordL_inj e; omega)), by rw [List.length_map, hp.length_eq, List.length_map, List.length_range], fun w hw => ?_, fun w hw => ?_⟩
  · obtain ⟨l, hl2, rfl⟩ := List.mem_map.mp hw
    obtain ⟨k, hk, rfl⟩ := mem l hl2
    refine stext_of ?_ fun c hc => by have := word_chars hst hc; omega
    have ln : (TL.numL (base + k)).length ≤ 7 := TL.numL_len (by decide) (by omega)
    unfold wordL
    rw [List.length_append, List.length_append, List.length_take, List.length_drop]
    omega
  · obtain ⟨l, hl2, rfl⟩ := List.mem_map.mp hw
    obtain ⟨k, hk, rfl⟩ := mem l hl2
    exact fun c hc => word_chars hst hc
theorem markL_char : ∀ m ∈ markL, ∃ c ∈ m, c = 45 ∨ c = 46 ∨ c = 47 ∨ c = 95 := by decide
theorem markL_small : ∀ m ∈ markL, ∀ c ∈ m, c < 128 := by decide
theorem tailL_small : ∀ m ∈ tailL, ∀ c ∈ m, c < 128 := by decide
theorem names_ok {st m tl : List Nat} {n base : Nat} {ws : List (List Nat)} (hst : Letters st) (hl : st.length ≤ 3) (hm : m ∈ markL) (ht : tl ∈ tailL) (hb : base + n ≤ 10000000) (hp : ws.Perm ((List.range n).map fun k => nameL st m tl (base + k))) : NamesOk (ws.map SX.S) n := by
  have mem : ∀ w ∈ ws, ∃ k, k < n ∧ w = nameL st m tl (base + k) := fun w hw => by
    obtain ⟨k, hk, e⟩ := List.mem_map.mp (hp.mem_iff.mp hw)
    exact ⟨k, List.mem_range.mp hk, e.symm⟩
  refine ⟨nodup_map_S (hp.nodup_iff.mpr (nodup_map_range _ _ fun i j e => by have := nameL_inj e; omega)), by rw [List.length_map, hp.length_eq, List.length_map, List.length_range], fun w hw => ?_, fun w hw => ?_⟩
  · obtain ⟨l, hl2, rfl⟩ := List.mem_map.mp hw
    obtain ⟨k, hk, rfl⟩ := mem l hl2
    have ln : (TL.numL (base + k)).length ≤ 7 := TL.numL_len (by decide) (by omega)
    have lm := markL_len hm
    have lt := tailL_len ht
    refine stext_of ?_ fun c hc => ?_
    · unfold nameL
      rw [List.length_append, List.length_append, List.length_append]
      omega
    · unfold nameL at hc
      rcases List.mem_append.mp hc with hc | hc
      · rcases List.mem_append.mp hc with hc | hc
        · rcases List.mem_append.mp hc with hc | hc
          · have := hst c hc; omega
          · exact markL_small m hm c hc
        · have := digits_of hc; omega
      · exact tailL_small tl ht c hc
  · obtain ⟨l, hl2, rfl⟩ := List.mem_map.mp hw
    obtain ⟨k, hk, rfl⟩ := mem l hl2
    obtain ⟨c, hc, e⟩ := markL_char m hm
    exact ⟨c, by show c ∈ nameL st m tl (base + k); unfold nameL; simp [hc], e⟩
theorem putD_new {kvs : List (Key × D)} {k : Key} {d : D} (h : ∀ kv ∈ kvs, kv.1 ≠ k) : putD kvs k d = kvs ++ [(k, d)] := by
  unfold putD
  rw [if_neg]
  intro z
  obtain ⟨kv, h1, h2⟩ := List.any_eq_true.mp z
  exact h kv h1 (of_decide_eq_true h2)
theorem mem_cut {α : Type} {xs : List α} {lo : Option Int} {k : Int} {x : α} (h0 : 0 ≤ k) (h : x ∈ cutL xs lo (some k)) : x ∈ xs.take k.toNat := by
  unfold cutL at h
  have e : k = ((k.toNat : Nat) : Int) := by omega
  rw [e, HT.sIx_nat] at h
  obtain ⟨i, hi, hx⟩ := List.mem_iff_getElem.mp h
  have h2 := hi
  rw [List.length_take, List.length_drop] at h2
  rw [List.getElem_take, List.getElem_drop] at hx
  have h3 : HT.sIx xs.length 0 lo + i < xs.length := by omega
  have h4 : HT.sIx xs.length 0 lo + i < k.toNat := by omega
  refine List.mem_iff_getElem.mpr ⟨HT.sIx xs.length 0 lo + i, by rw [List.length_take]; omega, ?_⟩
  rw [List.getElem_take]
  exact hx
/-- the law's own call -/
theorem start_of {K : PySem.W.Frag} {H : Hp} {a : Addr} {ns : List Int} {SS : VSp} {E : XK} (hS : SqL K H a (ns.map V.int)) (h : SS [.sh (.fls (ns.map D.int))] (fun r _ => r = .sh (.bl true))) : spV K SS [.ref a] H (fun v _ => v = .bl true) E := by
  have h0 : HL K H H [] := ⟨.refl _, [], .nil, .nil, fun p hp => by cases hp⟩
  refine ⟨H, [.sh (.fls (ns.map D.int))], [], _, rfl, .sh .nil, h0.sh (.fls hS (Reps.of_ints ns)), h, fun v H' Hk' ρs' r _ _ h2 hr => ?_⟩
  subst hr
  obtain ⟨v', e, rv⟩ := h2.get_sh
  cases e; cases rv; rfl
end WL


set_option Elab.async false
set_option linter.all false
set_option maxRecDepth 100000
set_option maxHeartbeats 4000000
/-! HV: the helpers that the laws share: what they promise, and that they keep it. -/
namespace WL
open PySem PySem.Spec PyProof.Rows L2
local macro_rules | `(tactic| walk_at "s") => `(tactic| first
  | ((with_reducible show vSeq _ _ _ _); refine u_seq ?_)
  | ((with_reducible show vSet _ _ _ _); refine u_set ?_)
  | ((with_reducible show kSet _ _ _ _); refine k_set rfl rfl ?_)
  | ((with_reducible show vRet _ _ _); refine u_ret ?_)
  | ((with_reducible show vIf _ _ _ _ _); refine u_if ?_)
  | ((with_reducible show vExpr _ _ _); refine u_expr ?_)
  | ((with_reducible show kExpr _ _ _); refine k_expr ?_)
  | ((with_reducible show vRetN _ _); refine u_retN ?_)
  | ((with_reducible show vAsg _ _ _ _); refine u_asg ?_)
  | ((with_reducible show kAsg _ _ _ _); refine k_asg rfl ?_)
  | ((with_reducible show vNext _ _); refine u_next ?_)
  | ((with_reducible show vBreak _ _); refine u_break ?_)
  | ((with_reducible show vCont _ _); refine u_cont ?_)
  | ((with_reducible show kIf _ _ _ _ _); (first | refine k_ifT ?_ | refine k_ifF ?_))
  | ((with_reducible show vVal _ _ _); refine u_val ?_)
  | ((with_reducible show kVal _ _ _); refine k_val ?_)
  | ((with_reducible show vPk _ _ _); refine u_pk rfl rfl ?_)
  | ((with_reducible show vC _ _ _); refine u_c ?_)
  | ((with_reducible show vVar _ _ _); (first | refine u_var rfl ?_ | refine u_varL rfl ?_ | refine u_varD rfl ?_ | refine u_varE rfl ?_))
  | ((with_reducible show vMv _ _ _); (first | refine u_mv rfl ?_ | refine u_mvO rfl ?_))
  | ((with_reducible show vBin _ _ _ _ _); refine u_bin ?_)
  | ((with_reducible show kBin1 _ _ _ _ _); refine k_bin1 ?_)
  | ((with_reducible show kBin2 _ _ _ _ _); refine k_bin2 rfl rfl ?_)
  | ((with_reducible show vUn _ _ _ _); refine u_un ?_)
  | ((with_reducible show kUn _ _ _ _); refine k_un rfl ?_)
  | ((with_reducible show vCons _ _ _ _); refine u_cons ?_)
  | ((with_reducible show kCons1 _ _ _ _); refine k_cons1 ?_)
  | ((with_reducible show vNil _ _); refine u_nil ?_)
  | ((with_reducible show kCons2 _ _ _ _); refine k_cons2 ?_)
  | ((with_reducible show vPrim _ _ _ _); refine u_prim ?_)
  | ((with_reducible show kPrim _ _ _ _); (first | refine k_prim1 rfl ?_ | refine k_prim2 rfl rfl ?_))
  | ((with_reducible show kRet _ _ _); (first | refine k_retV ?_ | refine k_retL ?_ | refine k_retT ?_ | refine k_retD ?_))
  | ((with_reducible show vSh _ _ _); refine u_sh ?_)
  | ((with_reducible show kSh _ _ _); (first | refine k_sh ?_ | refine k_shL ?_ | refine k_shD ?_))
  | ((with_reducible show vT _ _ _); refine u_t ?_)
  | ((with_reducible show kT _ _ _); refine k_t ?_)
  | ((with_reducible show vTru _ _ _); refine u_tru ?_)
  | ((with_reducible show kTru _ _ _); refine k_tru rfl rfl ?_)
  | ((with_reducible show vAnd _ _ _ _); refine u_and ?_)
  | ((with_reducible show kAnd _ _ _ _); (first | refine k_andT ?_ | refine k_andF ?_))
  | ((with_reducible show vOr _ _ _ _); refine u_or ?_)
  | ((with_reducible show kOr _ _ _ _); (first | refine k_orT ?_ | refine k_orF ?_))
  | ((with_reducible show vNot _ _ _); refine u_not ?_)
  | ((with_reducible show kNot _ _ _); refine k_not ?_)
  | ((with_reducible show vAndV _ _ _ _); refine u_andV ?_)
  | ((with_reducible show kAndV _ _ _ _); (first | refine k_andVT ?_ | refine k_andVF ?_))
  | ((with_reducible show kOrV _ _ _ _); (first | refine k_orVT ?_ | refine k_orVF ?_))
  | ((with_reducible show vOrV _ _ _ _); refine u_orV ?_)
  | ((with_reducible show vNotV _ _ _); refine u_notV ?_)
  | ((with_reducible show kNotV _ _ _); refine k_notV ?_)
  | ((with_reducible show vIfE _ _ _ _ _); refine u_ifE ?_)
  | ((with_reducible show kIfE _ _ _ _ _); (first | refine k_ifET ?_ | refine k_ifEF ?_))
  | ((with_reducible show vLst _ _ _); refine u_lst ?_)
  | ((with_reducible show kLst _ _ _); refine k_lst rfl (by simp only [List.length_cons, List.length_nil]; decide) ?_)
  | ((with_reducible show vTup _ _ _); refine u_tup ?_)
  | ((with_reducible show kTup _ _ _); refine k_tup rfl (by simp only [List.length_cons, List.length_nil]; decide) ?_)
  | ((with_reducible show vNewD _ _); refine u_newD ?_)
  | ((with_reducible show vSl _ _ _ _ _); refine u_sl ?_)
  | ((with_reducible show kSl0 _ _ _ _ _); refine k_sl0 ?_)
  | ((with_reducible show kSl1 _ _ _ _ _); refine k_sl1 ?_)
  | ((with_reducible show kSl2 _ _ _ _ _); refine k_sl2 rfl ?_)
  | ((with_reducible show vNoPart _ _); refine u_noPart ?_)
  | ((with_reducible show vPart _ _ _); refine u_part ?_)
  | ((with_reducible show kPart _ _ _); refine k_part ?_)
  | ((with_reducible show vApp _ _ _ _); refine u_app rfl ?_)
  | ((with_reducible show vPopAt _ _ _ _); refine u_popAt rfl ?_)
  | ((with_reducible show vExt _ _ _ _); refine u_ext rfl ?_)
  | ((with_reducible show vM1 _ _ _ _ _); refine u_m1 ?_)
  | ((with_reducible show kM1a _ _ _ _ _); refine k_m1a rfl ?_)
  | ((with_reducible show kM1b _ _ _ _ _); refine k_m1b rfl rfl ?_)
  | ((with_reducible show vGet2 _ _ _ _ _); refine u_get2 ?_)
  | ((with_reducible show kGet1 _ _ _ _ _); refine k_get1 rfl ?_)
  | ((with_reducible show kGet2 _ _ _ _ _); refine k_get2 ?_)
  | ((with_reducible show vSetL _ _ _ _ _); refine u_setL ?_)
  | ((with_reducible show kSetL1 _ _ _ _ _); refine k_setL1 rfl ?_)
  | ((with_reducible show kSetL2 _ _ _ _ _); (first | refine k_setL2j 0 rfl rfl (by simp) rfl ?_ | refine k_setL2j 1 rfl rfl (by simp) rfl ?_ | refine k_setL2j 2 rfl rfl (by simp) rfl ?_))
  | ((with_reducible show vPutD _ _ _ _ _); refine u_putD ?_)
  | ((with_reducible show kPutD1 _ _ _ _ _); refine k_putD1 rfl ?_)
  | ((with_reducible show vAugL _ _ _ _ _ _); refine u_augL rfl ?_)
  | ((with_reducible show kAugL1 _ _ _ _ _ _); (first | refine k_augL1j 0 rfl rfl rfl ?_ | refine k_augL1j 1 rfl rfl rfl ?_ | refine k_augL1j 2 rfl rfl rfl ?_))
  | ((with_reducible show kAugL2 _ _ _ _ _ _ _); refine k_augL2j rfl (by simp) ?_)
  | ((with_reducible show vAug _ _ _ _ _); refine u_aug rfl ?_)
  | ((with_reducible show kAug _ _ _ _ _ _); (first | refine k_augAdd rfl ?_ | refine k_augSub rfl ?_))
  | ((with_reducible show vCall _ _ _ _); refine u_call ?_)
  | ((with_reducible show gN _ _ _ _); refine u_gN rfl rfl ?_)
  | ((with_reducible show gT _ _ _ _); refine u_gT rfl ?_)
  | ((with_reducible show gL _ _ _ _); refine u_gL rfl rfl ?_)
  | ((with_reducible show gTs _ _ _ _); (first | refine u_gTs0 ?_ | refine u_gTs ?_))
  | ((with_reducible show vItL _ _ _); refine u_itL ?_)
  | ((with_reducible show kItL _ _ _); refine k_itL rfl rfl ?_)
  | ((with_reducible show vItT _ _ _); refine u_itT ?_)
  | ((with_reducible show kItT _ _ _); refine k_itT rfl rfl ?_)
  | ((with_reducible show vItR1 _ _ _); refine u_itR1 ?_)
  | ((with_reducible show vItR2 _ _ _); refine u_itR2 ?_)
  | ((with_reducible show vFor _ _ _ _ _); refine u_for ?_)
  | ((with_reducible show vLc _ _ _ _ _ _ _); refine u_lc ?_)
  | ((with_reducible show vLcK _ _ _ _ _ _ _); refine u_lcK rfl ?_)
  | ((with_reducible show vYes _ _); refine u_yes ?_)
  | ((with_reducible show kLcT _ _ _ _ _ _); refine k_lcTT ?_)
  | ((with_reducible show addP _ _); refine p_addI ?_)
  | ((with_reducible show subP _ _); refine p_subI ?_)
  | ((with_reducible show mulP _ _); (first | refine p_mulI (.inl (.inl (by omega))) ?_ | refine p_mulI (.inl (.inr (by omega))) ?_))
  | ((with_reducible show modP _ _); refine p_modI (by omega) ?_)
  | ((with_reducible show divP _ _); refine p_divI (.inl (by constructor <;> omega)) ?_)
  | ((with_reducible show negP _ _); refine p_negI ?_)
  | ((with_reducible show ltP _ _); refine p_ltI ?_)
  | ((with_reducible show leP _ _); refine p_leI ?_)
  | ((with_reducible show gtP _ _); refine p_gtI ?_)
  | ((with_reducible show geP _ _); refine p_geI ?_)
  | ((with_reducible show eqP _ _); (first | refine p_eqI ?_ | refine p_eqS ?_ | refine p_eqB ?_ | refine p_eqN ?_))
  | ((with_reducible show neP _ _); (first | refine p_neI ?_ | refine p_neS ?_ | refine p_neB ?_))
  | ((with_reducible show isNP _ _); (first | refine p_isNn ?_ | refine p_isNi ?_ | refine p_isNs ?_ | refine p_isNb ?_ | refine p_isNl ?_ | refine p_isNt ?_ | refine p_isNd ?_))
  | ((with_reducible show notNP _ _); (first | refine p_notNn ?_ | refine p_notNi ?_ | refine p_notNs ?_ | refine p_notNb ?_ | refine p_notNl ?_ | refine p_notNt ?_ | refine p_notNd ?_))
  | ((with_reducible show isiP _ _); refine p_isi rfl rfl ?_)
  | ((with_reducible show isiTP _ _); refine p_isiT rfl rfl ?_)
  | ((with_reducible show reprP _ _); (first | refine p_reprB ?_ | refine p_reprN ?_))
  | ((with_reducible show lenP _ _); (first | refine p_lenL ?_ | refine p_lenF ?_ | refine p_lenT ?_ | refine p_lenD ?_))
  | ((with_reducible show absP _ _); refine p_absI ?_)
  | ((with_reducible show intP _ _); refine p_intI ?_)
  | ((with_reducible show listP _ _); (first | refine p_listL ?_ | refine p_listF ?_ | refine p_listD ?_))
  | ((with_reducible show ixP _ _); (first | refine p_ixLj 0 rfl rfl ?_ | refine p_ixLj 1 rfl rfl ?_ | refine p_ixLj 2 rfl rfl ?_ | refine p_ixLj 3 rfl rfl ?_ | refine p_ixTj 0 rfl rfl ?_ | refine p_ixTj 1 rfl rfl ?_ | refine p_ixTj 2 rfl rfl ?_ | refine p_ixTj 3 rfl rfl ?_))
  | ((with_reducible show inP _ _ _); (first | refine p_inS0 ?_ | refine p_inS1 ?_ | refine p_inI0 ?_ | refine p_inI1 ?_ | refine p_inD0 rfl ?_ | refine p_inD1 rfl ?_))
  | ((with_reducible show slP _ _ _ _); (first | refine p_slL ?_ | refine p_slF ?_))
  | ((with_reducible show sumP _ _); refine p_sum ?_)
  | ((with_reducible show maxP _ _); refine p_max2 ?_)
  | ((with_reducible show minP _ _); refine p_min2 ?_)
  | ((with_reducible show allP _ _); refine p_all ?_)
  | ((with_reducible show anyP _ _); refine p_any ?_))
local macro_rules | `(tactic| walk_at "ss") => `(tactic| repeat walk_at "s")
local macro_rules | `(tactic| walk_at "back") => `(tactic| refine k_back ?_ (by dsimp only [takeBack, backS, List.set, List.getElem?_cons_zero, List.getElem?_cons_succ]))
/-! ### graphs -/
abbrev Gr := List (Str × List Str)
def encS (xs : List Str) : D := .lst (xs.map D.str)
def encO (xs : List Str) : Own := .lst (xs.map D.str)
def encG (cs : Gr) : D := .dct (cs.map fun p => ((Sum.inr p.1 : Key), encS p.2))
inductive Reach (cs : Gr) (srcs bar : List Str) : Str → Prop
  | src {x} (h : x ∈ srcs) (b : x ∉ bar) : Reach cs srcs bar x
  | call {c as x} (h : (c, as) ∈ cs) (b : c ∉ bar) (hx : x ∈ as) (r : Reach cs srcs bar x) : Reach cs srcs bar c
structure GOk (cs : Gr) : Prop where
  nd : (cs.map (·.1)).Nodup
  len : cs.length < 60
  args : ∀ p ∈ cs, p.2.length < 100000
theorem look_gr {cs : Gr} (nd : (cs.map (·.1)).Nodup) {c : Str} {as : List Str} (h : (c, as) ∈ cs) : lookK (cs.map fun p => ((Sum.inr p.1 : Key), encS p.2)) (.inr c) = some (encS as) := by
  induction cs with
  | nil => cases h
  | cons q r ih =>
    rw [List.map_cons, List.nodup_cons] at nd
    unfold lookK
    rw [List.map_cons]
    by_cases e : q.1 = c
    · rw [List.find?_cons_of_pos (by simp [e])]
      rcases List.mem_cons.mp h with h | h
      · subst h; rfl
      · exact absurd (List.mem_map_of_mem (f := (·.1)) h) (by rw [← e]; exact nd.1)
    · rw [List.find?_cons_of_neg (by simp [e])]
      rcases List.mem_cons.mp h with h | h
      · subst h; exact absurd rfl e
      · exact ih nd.2 h
theorem look_no {cs : Gr} {c : Str} (h : c ∉ cs.map (·.1)) : lookK (cs.map fun p => ((Sum.inr p.1 : Key), encS p.2)) (.inr c) = none := by
  induction cs with
  | nil => rfl
  | cons q r ih =>
    rw [List.map_cons, List.mem_cons, not_or] at h
    unfold lookK
    rw [List.map_cons, List.find?_cons_of_neg (by simp only [decide_eq_true_eq]; intro z; injection z with z; exact h.1 z.symm)]
    exact ih h.2
theorem gr_get {cs : Gr} {j : Nat} {k : Key} {v : D} (h : (cs.map fun p => ((Sum.inr p.1 : Key), encS p.2))[j]? = some (k, v)) : ∃ c as, cs[j]? = some (c, as) ∧ k = .inr c ∧ v = encS as := by
  rw [List.getElem?_map] at h
  obtain ⟨⟨c, as⟩, h1, h2⟩ := Option.map_eq_some_iff.mp h
  cases h2
  exact ⟨c, as, h1, rfl, rfl⟩
theorem isEmpty_map {α β : Type} (f : α → β) (l : List α) : (l.map f).isEmpty = l.isEmpty := by cases l <;> rfl
theorem any_filter {α : Type} (p : α → Bool) : ∀ l : List α, (!(l.filter p).isEmpty) = l.any p
  | [] => rfl
  | x :: r => by
    by_cases h : p x = true
    · rw [List.filter_cons_of_pos h, List.any_cons, h]; rfl
    · rw [List.filter_cons_of_neg h, any_filter p r, List.any_cons]; simp [h]
def S_reached : VSp := fun ρs R => ∃ cs srcs bar, ρs = [.sh (encG cs), .sh (encS srcs), .sh (encS bar)] ∧ GOk cs ∧ srcs.length < 100000 ∧ bar.length < 1000000 ∧
  ∀ found : List Str, (∀ x, x ∈ found ↔ Reach cs srcs bar x) → found.length < 200000 → R (.ow false (encO found)) [.sh (encG cs), .sh (encS srcs), .sh (encS bar)]
def v_reached : VS :=
  vSeq (vSet 3 (vLc (vItL (vVar 1)) (gN 6) (vT (vBin (inP true) (vPk 6) (vPk 2))) (vVar 6) [6]))
    (vSeq (vSet 4 (vC (.bl true)))
    (vSeq (vWhile (vTru (vPk 4)) (vSeq (vSet 4 (vC (.bl false)))
    (vForK 0 (gN 5) (vIf (vAnd (vT (vBin (inP true) (vPk 5) (vPk 3))) (vAnd (vT (vBin (inP true) (vPk 5) (vPk 2))) (vTru (vVal (vLc (vItL (vBin ixP (vPk 0) (vPk 5))) (gN 7) (vT (vBin (inP false) (vPk 7) (vPk 3))) (vVar 7) [7]))))) (vSeq (vExpr (vApp 3 (vVar 5)))
    (vSet 4 (vC (.bl true)))) (vNext)))))
    (vRet (vMv 3))))
/-- how many keys are not yet found -/
def lacks (cs : Gr) (found : List Str) : Nat := (cs.filter fun p => decide (p.1 ∉ found)).length
theorem lacks_lt {cs : Gr} {found found' : List Str} (h : ∀ x ∈ found, x ∈ found') {c : Str} {as : List Str} (hm : (c, as) ∈ cs) (h1 : c ∉ found) (h2 : c ∈ found') : lacks cs found' < lacks cs found := by
  unfold lacks
  induction cs with
  | nil => cases hm
  | cons q r ih =>
    have hle : ∀ l : Gr, (l.filter fun p => decide (p.1 ∉ found')).length ≤ (l.filter fun p => decide (p.1 ∉ found)).length := fun l => by
      induction l with
      | nil => exact Nat.le_refl _
      | cons a l ih =>
        by_cases e : a.1 ∉ found'
        · rw [List.filter_cons_of_pos (by simpa using e), List.filter_cons_of_pos (by simpa using fun z => e (h _ z))]
          simp only [List.length_cons]; omega
        · rw [List.filter_cons_of_neg (by simpa using e)]
          by_cases e2 : a.1 ∉ found
          · rw [List.filter_cons_of_pos (by simpa using e2)]; simp only [List.length_cons]; omega
          · rw [List.filter_cons_of_neg (by simpa using e2)]; exact ih
    rcases List.mem_cons.mp hm with e | hm
    · subst e
      rw [List.filter_cons_of_neg (by simpa using h2), List.filter_cons_of_pos (by simpa using h1)]
      have := hle r
      simp only [List.length_cons]; omega
    · have := ih hm
      by_cases e : q.1 ∉ found'
      · rw [List.filter_cons_of_pos (by simpa using e), List.filter_cons_of_pos (by simpa using fun z => e (h _ z))]
        simp only [List.length_cons]; omega
      · rw [List.filter_cons_of_neg (by simpa using e)]
        by_cases e2 : q.1 ∉ found
        · rw [List.filter_cons_of_pos (by simpa using e2)]; simp only [List.length_cons]; omega
        · rw [List.filter_cons_of_neg (by simpa using e2)]; exact this
/-- every entry's call is found if one of its arguments is -/
def Closed (cs : Gr) (bar found : List Str) : Prop := ∀ p ∈ cs, p.1 ∉ bar → (∃ x ∈ p.2, x ∈ found) → p.1 ∈ found
theorem rd_reached : Reads S_reached v_reached 5 := fun ρs R h => by
  obtain ⟨cs, srcs, bar, rfl, ok, hs, hb, q⟩ := h
  unfold v_reached
  have hlc := ok.len
  show vSeq _ _ _ [.sh (encG cs), .sh (encS srcs), .sh (encS bar), .un, .un, .un, .un, .un]
  walk_at "ss"
  refine k_lcM srcs D.str (fun x => decide (x ∉ bar)) D.str _ rfl (by show srcs.length < 16777216; omega) (by simp [Slot.free]) (by dsimp only [wipeR, List.set]) ?_ ?_
  · intro x acc I hx hz t1 t2
    walk_at "ss"
    refine k_lcT (fun z => ?_) (fun z => t2 (by simpa using z))
    walk_at "ss"
    exact k_lcE rfl hz (t1 (by simpa using z))
  · walk_at "ss"
    refine u_while1 (fun m ρ' => ∃ found g s5, Slot.free s5 = true ∧ ρ' = [.sh (encG cs), .sh (encS srcs), .sh (encS bar), .ow false (encO found), .sh (.bl g), s5, .un, .un] ∧ m = 2 * lacks cs found + (if g then 1 else 0) ∧
      (∀ x ∈ found, Reach cs srcs bar x) ∧ (∀ x ∈ srcs, x ∉ bar → x ∈ found) ∧ (g = false → Closed cs bar found) ∧ found.length + lacks cs found ≤ 100000 + cs.length) _ ⟨srcs.filter fun x => decide (x ∉ bar), true, .un, rfl, rfl, rfl, ?_, ?_, (fun z => by cases z), ?_⟩ ?_
    · intro x hx
      have hx' := List.mem_filter.mp hx
      exact .src hx'.1 (by simpa using hx'.2)
    · intro x h1 h2
      exact List.mem_filter.mpr ⟨h1, by simpa using h2⟩
    · have h1 := List.length_filter_le (fun x => decide (x ∉ bar)) srcs
      have h2 : lacks cs (srcs.filter fun x => decide (x ∉ bar)) ≤ cs.length := List.length_filter_le _ _
      omega
    · rintro m ρ' ⟨found, g, s5, f5, rfl, rfl, snd, bas, clo, hl⟩
      walk_at "ss"
      refine k_while (fun z => ?_) (fun z => ?_)
      · subst z
        walk_at "ss"
        refine u_forK rfl (fun j ρ' => ∃ found' g' s5, Slot.free s5 = true ∧ ρ' = [.sh (encG cs), .sh (encS srcs), .sh (encS bar), .ow false (encO found'), .sh (.bl g'), s5, .un, .un] ∧
          (∀ x ∈ found', Reach cs srcs bar x) ∧ (∀ x ∈ found, x ∈ found') ∧ (g' = true → lacks cs found' < lacks cs found) ∧ found'.length + lacks cs found' ≤ 100000 + cs.length ∧
          (g' = false → found' = found ∧ ∀ p ∈ cs.take j, p.1 ∉ bar → (∃ x ∈ p.2, x ∈ found) → p.1 ∈ found)) ⟨found, false, s5, f5, rfl, snd, fun _ h => h, (fun z => by cases z), hl, fun _ => ⟨rfl, fun p hp => by simp at hp⟩⟩ ?_ ?_
        · rintro j k v ρ' hj ⟨fo, g', s5, f5, rfl, snd', sub, lac, hl', non⟩
          obtain ⟨c, as, hc, rfl, rfl⟩ := gr_get hj
          have hmem : (c, as) ∈ cs := List.mem_of_getElem? hc
          refine u_gN rfl f5 ?_
          show vIf _ _ _ _ [.sh (encG cs), .sh (encS srcs), .sh (encS bar), .ow false (encO fo), .sh (.bl g'), .sh (.str c), .un, .un]
          have stay : (c ∉ bar → (∃ x ∈ as, x ∈ fo) → c ∈ fo) → ∃ found' g'' s5, Slot.free s5 = true ∧ [Slot.sh (encG cs), .sh (encS srcs), .sh (encS bar), .ow false (encO fo), .sh (.bl g'), .sh (.str c), .un, .un] = [.sh (encG cs), .sh (encS srcs), .sh (encS bar), .ow false (encO found'), .sh (.bl g''), s5, .un, .un] ∧
              (∀ x ∈ found', Reach cs srcs bar x) ∧ (∀ x ∈ found, x ∈ found') ∧ (g'' = true → lacks cs found' < lacks cs found) ∧ found'.length + lacks cs found' ≤ 100000 + cs.length ∧
              (g'' = false → found' = found ∧ ∀ p ∈ cs.take (j + 1), p.1 ∉ bar → (∃ x ∈ p.2, x ∈ found) → p.1 ∈ found) := fun hno => by
            refine ⟨fo, g', .sh (.str c), rfl, rfl, snd', sub, lac, hl', fun z => ?_⟩
            obtain ⟨e, h2⟩ := non z
            refine ⟨e, fun p hp => ?_⟩
            rw [List.take_add_one, hc] at hp
            rcases List.mem_append.mp hp with hp | hp
            · exact h2 p hp
            · have : p = (c, as) := by simpa using hp
              subst this; subst e
              exact hno
          walk_at "ss"
          refine k_and (fun z1 => ?_) (fun z1 => k_ifF (stay fun _ _ => by simpa using z1))
          walk_at "ss"
          refine k_and (fun z2 => ?_) (fun z2 => k_ifF (stay fun hb => absurd hb (by simpa using z2)))
          walk_at "ss"
          refine p_ixD rfl (look_gr ok.nd hmem) ?_
          walk_at "ss"
          refine k_lcM as D.str (fun x => decide (x ∈ fo)) D.str _ rfl (Nat.lt_of_lt_of_le (ok.args _ hmem) (by decide)) (by simp [Slot.free]) (by dsimp only [wipeR, List.set]) ?_ ?_
          · intro x acc I hx hz t1 t2
            walk_at "ss"
            refine k_lcT (fun z => ?_) (fun z => t2 (by simpa using z))
            walk_at "ss"
            exact k_lcE rfl hz (t1 (by simpa using z))
          · walk_at "ss"
            rw [isEmpty_map, any_filter]
            refine k_if (fun z => ?_) (fun z => stay fun _ hx => ?_)
            · walk_at "ss"
              have hnew : c ∉ fo := by simpa using z1
              have hnb : c ∉ bar := by simpa using z2
              obtain ⟨x, hxa, hxf⟩ : ∃ x ∈ as, x ∈ fo := by simpa using z
              have hlt : lacks cs (fo ++ [c]) < lacks cs fo := lacks_lt (fun x h => List.mem_append_left _ h) hmem hnew (by simp)
              have hle : lacks cs fo ≤ lacks cs found := by
                cases g' with
                | true => exact Nat.le_of_lt (lac rfl)
                | false => rw [(non rfl).1]; exact Nat.le_refl _
              refine k_app rfl rfl (by rw [List.length_map]; show fo.length < 16777216; omega) ?_
              walk_at "ss"
              refine ⟨fo ++ [c], true, .sh (.str c), rfl, by unfold encO; simp, fun y hy => ?_, fun y hy => List.mem_append_left _ (sub y hy), fun _ => by omega, ?_, fun z => by cases z⟩
              · rcases List.mem_append.mp hy with hy | hy
                · exact snd' y hy
                · rw [List.mem_singleton.mp hy]
                  exact .call hmem hnb hxa (snd' x hxf)
              · rw [List.length_append]; simp only [List.length_cons, List.length_nil]; omega
            · obtain ⟨x, hxa, hxf⟩ := hx
              have : ∀ y ∈ as, y ∉ fo := by simpa using z
              exact absurd hxf (this x hxa)
        · rintro ρ' ⟨fo, g', s5, f5, rfl, snd', sub, lac, hl', non⟩
          refine ⟨2 * lacks cs fo + (if g' then 1 else 0), ?_, fo, g', s5, f5, rfl, rfl, snd', fun x h1 h2 => sub x (bas x h1 h2), fun z => ?_, hl'⟩
          · cases g' with
            | true => have := lac rfl; simp only [if_pos]; omega
            | false => rw [(non rfl).1]; simp
          · obtain ⟨e, h2⟩ := non z
            rw [List.length_map, List.take_length] at h2
            subst e
            exact h2
      · subst z
        walk_at "ss"
        refine q found (fun x => ⟨snd x, fun r => ?_⟩) (by omega)
        induction r with
        | src h b => exact bas _ h b
        | call h b hx _ ih => exact clo rfl _ h b ⟨_, hx, ih⟩
end WL


set_option Elab.async false
set_option linter.all false
set_option maxRecDepth 100000
set_option maxHeartbeats 4000000
/-! HV: the helpers that the laws share: what they promise, and that they keep it. -/
namespace WL
open PySem PySem.Spec PyProof.Rows L2
local macro_rules | `(tactic| walk_at "s") => `(tactic| first
  | ((with_reducible show vSeq _ _ _ _); refine u_seq ?_)
  | ((with_reducible show vSet _ _ _ _); refine u_set ?_)
  | ((with_reducible show kSet _ _ _ _); refine k_set rfl rfl ?_)
  | ((with_reducible show vRet _ _ _); refine u_ret ?_)
  | ((with_reducible show vIf _ _ _ _ _); refine u_if ?_)
  | ((with_reducible show vExpr _ _ _); refine u_expr ?_)
  | ((with_reducible show kExpr _ _ _); refine k_expr ?_)
  | ((with_reducible show vRetN _ _); refine u_retN ?_)
  | ((with_reducible show vAsg _ _ _ _); refine u_asg ?_)
  | ((with_reducible show kAsg _ _ _ _); refine k_asg rfl ?_)
  | ((with_reducible show vNext _ _); refine u_next ?_)
  | ((with_reducible show vBreak _ _); refine u_break ?_)
  | ((with_reducible show vCont _ _); refine u_cont ?_)
  | ((with_reducible show kIf _ _ _ _ _); (first | refine k_ifT ?_ | refine k_ifF ?_))
  | ((with_reducible show vVal _ _ _); refine u_val ?_)
  | ((with_reducible show kVal _ _ _); refine k_val ?_)
  | ((with_reducible show vPk _ _ _); refine u_pk rfl rfl ?_)
  | ((with_reducible show vC _ _ _); refine u_c ?_)
  | ((with_reducible show vVar _ _ _); (first | refine u_var rfl ?_ | refine u_varL rfl ?_ | refine u_varD rfl ?_ | refine u_varE rfl ?_))
  | ((with_reducible show vMv _ _ _); (first | refine u_mv rfl ?_ | refine u_mvO rfl ?_))
  | ((with_reducible show vBin _ _ _ _ _); refine u_bin ?_)
  | ((with_reducible show kBin1 _ _ _ _ _); refine k_bin1 ?_)
  | ((with_reducible show kBin2 _ _ _ _ _); refine k_bin2 rfl rfl ?_)
  | ((with_reducible show vUn _ _ _ _); refine u_un ?_)
  | ((with_reducible show kUn _ _ _ _); refine k_un rfl ?_)
  | ((with_reducible show vCons _ _ _ _); refine u_cons ?_)
  | ((with_reducible show kCons1 _ _ _ _); refine k_cons1 ?_)
  | ((with_reducible show vNil _ _); refine u_nil ?_)
  | ((with_reducible show kCons2 _ _ _ _); refine k_cons2 ?_)
  | ((with_reducible show vPrim _ _ _ _); refine u_prim ?_)
  | ((with_reducible show kPrim _ _ _ _); (first | refine k_prim1 rfl ?_ | refine k_prim2 rfl rfl ?_))
  | ((with_reducible show kRet _ _ _); (first | refine k_retV ?_ | refine k_retL ?_ | refine k_retT ?_ | refine k_retD ?_))
  | ((with_reducible show vSh _ _ _); refine u_sh ?_)
  | ((with_reducible show kSh _ _ _); (first | refine k_sh ?_ | refine k_shL ?_ | refine k_shD ?_))
  | ((with_reducible show vT _ _ _); refine u_t ?_)
  | ((with_reducible show kT _ _ _); refine k_t ?_)
  | ((with_reducible show vTru _ _ _); refine u_tru ?_)
  | ((with_reducible show kTru _ _ _); refine k_tru rfl rfl ?_)
  | ((with_reducible show vAnd _ _ _ _); refine u_and ?_)
  | ((with_reducible show kAnd _ _ _ _); (first | refine k_andT ?_ | refine k_andF ?_))
  | ((with_reducible show vOr _ _ _ _); refine u_or ?_)
  | ((with_reducible show kOr _ _ _ _); (first | refine k_orT ?_ | refine k_orF ?_))
  | ((with_reducible show vNot _ _ _); refine u_not ?_)
  | ((with_reducible show kNot _ _ _); refine k_not ?_)
  | ((with_reducible show vAndV _ _ _ _); refine u_andV ?_)
  | ((with_reducible show kAndV _ _ _ _); (first | refine k_andVT ?_ | refine k_andVF ?_))
  | ((with_reducible show kOrV _ _ _ _); (first | refine k_orVT ?_ | refine k_orVF ?_))
  | ((with_reducible show vOrV _ _ _ _); refine u_orV ?_)
  | ((with_reducible show vNotV _ _ _); refine u_notV ?_)
  | ((with_reducible show kNotV _ _ _); refine k_notV ?_)
  | ((with_reducible show vIfE _ _ _ _ _); refine u_ifE ?_)
  | ((with_reducible show kIfE _ _ _ _ _); (first | refine k_ifET ?_ | refine k_ifEF ?_))
  | ((with_reducible show vLst _ _ _); refine u_lst ?_)
  | ((with_reducible show kLst _ _ _); refine k_lst rfl (by simp only [List.length_cons, List.length_nil]; decide) ?_)
  | ((with_reducible show vTup _ _ _); refine u_tup ?_)
  | ((with_reducible show kTup _ _ _); refine k_tup rfl (by simp only [List.length_cons, List.length_nil]; decide) ?_)
  | ((with_reducible show vNewD _ _); refine u_newD ?_)
  | ((with_reducible show vSl _ _ _ _ _); refine u_sl ?_)
  | ((with_reducible show kSl0 _ _ _ _ _); refine k_sl0 ?_)
  | ((with_reducible show kSl1 _ _ _ _ _); refine k_sl1 ?_)
  | ((with_reducible show kSl2 _ _ _ _ _); refine k_sl2 rfl ?_)
  | ((with_reducible show vNoPart _ _); refine u_noPart ?_)
  | ((with_reducible show vPart _ _ _); refine u_part ?_)
  | ((with_reducible show kPart _ _ _); refine k_part ?_)
  | ((with_reducible show vApp _ _ _ _); refine u_app rfl ?_)
  | ((with_reducible show vPopAt _ _ _ _); refine u_popAt rfl ?_)
  | ((with_reducible show vExt _ _ _ _); refine u_ext rfl ?_)
  | ((with_reducible show vM1 _ _ _ _ _); refine u_m1 ?_)
  | ((with_reducible show kM1a _ _ _ _ _); refine k_m1a rfl ?_)
  | ((with_reducible show kM1b _ _ _ _ _); refine k_m1b rfl rfl ?_)
  | ((with_reducible show vGet2 _ _ _ _ _); refine u_get2 ?_)
  | ((with_reducible show kGet1 _ _ _ _ _); refine k_get1 rfl ?_)
  | ((with_reducible show kGet2 _ _ _ _ _); refine k_get2 ?_)
  | ((with_reducible show vSetL _ _ _ _ _); refine u_setL ?_)
  | ((with_reducible show kSetL1 _ _ _ _ _); refine k_setL1 rfl ?_)
  | ((with_reducible show kSetL2 _ _ _ _ _); (first | refine k_setL2j 0 rfl rfl (by simp) rfl ?_ | refine k_setL2j 1 rfl rfl (by simp) rfl ?_ | refine k_setL2j 2 rfl rfl (by simp) rfl ?_))
  | ((with_reducible show vPutD _ _ _ _ _); refine u_putD ?_)
  | ((with_reducible show kPutD1 _ _ _ _ _); refine k_putD1 rfl ?_)
  | ((with_reducible show vAugL _ _ _ _ _ _); refine u_augL rfl ?_)
  | ((with_reducible show kAugL1 _ _ _ _ _ _); (first | refine k_augL1j 0 rfl rfl rfl ?_ | refine k_augL1j 1 rfl rfl rfl ?_ | refine k_augL1j 2 rfl rfl rfl ?_))
  | ((with_reducible show kAugL2 _ _ _ _ _ _ _); refine k_augL2j rfl (by simp) ?_)
  | ((with_reducible show vAug _ _ _ _ _); refine u_aug rfl ?_)
  | ((with_reducible show kAug _ _ _ _ _ _); (first | refine k_augAdd rfl ?_ | refine k_augSub rfl ?_))
  | ((with_reducible show vCall _ _ _ _); refine u_call ?_)
  | ((with_reducible show gN _ _ _ _); refine u_gN rfl rfl ?_)
  | ((with_reducible show gT _ _ _ _); refine u_gT rfl ?_)
  | ((with_reducible show gL _ _ _ _); refine u_gL rfl rfl ?_)
  | ((with_reducible show gTs _ _ _ _); (first | refine u_gTs0 ?_ | refine u_gTs ?_))
  | ((with_reducible show vItL _ _ _); refine u_itL ?_)
  | ((with_reducible show kItL _ _ _); refine k_itL rfl rfl ?_)
  | ((with_reducible show vItT _ _ _); refine u_itT ?_)
  | ((with_reducible show kItT _ _ _); refine k_itT rfl rfl ?_)
  | ((with_reducible show vItR1 _ _ _); refine u_itR1 ?_)
  | ((with_reducible show vItR2 _ _ _); refine u_itR2 ?_)
  | ((with_reducible show vFor _ _ _ _ _); refine u_for ?_)
  | ((with_reducible show vLc _ _ _ _ _ _ _); refine u_lc ?_)
  | ((with_reducible show vLcK _ _ _ _ _ _ _); refine u_lcK rfl ?_)
  | ((with_reducible show vYes _ _); refine u_yes ?_)
  | ((with_reducible show kLcT _ _ _ _ _ _); refine k_lcTT ?_)
  | ((with_reducible show addP _ _); refine p_addI ?_)
  | ((with_reducible show subP _ _); refine p_subI ?_)
  | ((with_reducible show mulP _ _); (first | refine p_mulI (.inl (.inl (by omega))) ?_ | refine p_mulI (.inl (.inr (by omega))) ?_))
  | ((with_reducible show modP _ _); refine p_modI (by omega) ?_)
  | ((with_reducible show divP _ _); refine p_divI (.inl (by constructor <;> omega)) ?_)
  | ((with_reducible show negP _ _); refine p_negI ?_)
  | ((with_reducible show ltP _ _); refine p_ltI ?_)
  | ((with_reducible show leP _ _); refine p_leI ?_)
  | ((with_reducible show gtP _ _); refine p_gtI ?_)
  | ((with_reducible show geP _ _); refine p_geI ?_)
  | ((with_reducible show eqP _ _); (first | refine p_eqI ?_ | refine p_eqS ?_ | refine p_eqB ?_ | refine p_eqN ?_))
  | ((with_reducible show neP _ _); (first | refine p_neI ?_ | refine p_neS ?_ | refine p_neB ?_))
  | ((with_reducible show isNP _ _); (first | refine p_isNn ?_ | refine p_isNi ?_ | refine p_isNs ?_ | refine p_isNb ?_ | refine p_isNl ?_ | refine p_isNt ?_ | refine p_isNd ?_))
  | ((with_reducible show notNP _ _); (first | refine p_notNn ?_ | refine p_notNi ?_ | refine p_notNs ?_ | refine p_notNb ?_ | refine p_notNl ?_ | refine p_notNt ?_ | refine p_notNd ?_))
  | ((with_reducible show isiP _ _); refine p_isi rfl rfl ?_)
  | ((with_reducible show isiTP _ _); refine p_isiT rfl rfl ?_)
  | ((with_reducible show reprP _ _); (first | refine p_reprB ?_ | refine p_reprN ?_))
  | ((with_reducible show lenP _ _); (first | refine p_lenL ?_ | refine p_lenF ?_ | refine p_lenT ?_ | refine p_lenD ?_))
  | ((with_reducible show absP _ _); refine p_absI ?_)
  | ((with_reducible show intP _ _); refine p_intI ?_)
  | ((with_reducible show listP _ _); (first | refine p_listL ?_ | refine p_listF ?_ | refine p_listD ?_))
  | ((with_reducible show ixP _ _); (first | refine p_ixLj 0 rfl rfl ?_ | refine p_ixLj 1 rfl rfl ?_ | refine p_ixLj 2 rfl rfl ?_ | refine p_ixLj 3 rfl rfl ?_ | refine p_ixTj 0 rfl rfl ?_ | refine p_ixTj 1 rfl rfl ?_ | refine p_ixTj 2 rfl rfl ?_ | refine p_ixTj 3 rfl rfl ?_))
  | ((with_reducible show inP _ _ _); (first | refine p_inS0 ?_ | refine p_inS1 ?_ | refine p_inI0 ?_ | refine p_inI1 ?_ | refine p_inD0 rfl ?_ | refine p_inD1 rfl ?_))
  | ((with_reducible show slP _ _ _ _); (first | refine p_slL ?_ | refine p_slF ?_))
  | ((with_reducible show sumP _ _); refine p_sum ?_)
  | ((with_reducible show maxP _ _); refine p_max2 ?_)
  | ((with_reducible show minP _ _); refine p_min2 ?_)
  | ((with_reducible show allP _ _); refine p_all ?_)
  | ((with_reducible show anyP _ _); refine p_any ?_))
local macro_rules | `(tactic| walk_at "ss") => `(tactic| repeat walk_at "s")
local macro_rules | `(tactic| walk_at "back") => `(tactic| refine k_back ?_ (by dsimp only [takeBack, backS, List.set, List.getElem?_cons_zero, List.getElem?_cons_succ]))
/-- the call must be kept: another reads it beside something that a change reaches -/
def MustKeep (cs : Gr) (ed : List Str) (c : Str) : Prop := ∃ as, (c, as) ∈ cs ∧ ∃ r bs, (r, bs) ∈ cs ∧ c ∈ bs ∧ ∃ x ∈ bs, Reach cs ed (c :: as) x
def S_must_keep : VSp := fun ρs R => ∃ cs ed c, ρs = [.sh (encG cs), .sh (encS ed), .sh (.str c)] ∧ GOk cs ∧ ed.length < 100000 ∧ c ∈ cs.map (·.1) ∧
  ∀ b : Bool, (b = true ↔ MustKeep cs ed c) → R (.sh (.bl b)) [.sh (encG cs), .sh (encS ed), .sh (.str c)]
def v_must_keep : VS :=
  vSeq (vSet 3 (vCall S_reached (vCons (vVal (vVar 0)) (vCons (vVal (vVar 1)) (vCons (vVal (vSh (vBin addP (vVal (vLst (vCons (vVal (vVar 2)) (vNil)))) (vVal (vPrim listP (vCons (vVal (vBin ixP (vPk 0) (vPk 2))) (vNil))))))) (vNil))))))
    (vSeq (vForK 0 (gN 4) (vIf (vAnd (vT (vBin (inP false) (vPk 2) (vVal (vBin ixP (vPk 0) (vPk 4))))) (vTru (vVal (vLc (vItL (vBin ixP (vPk 0) (vPk 4))) (gN 5) (vT (vBin (inP false) (vPk 5) (vPk 3))) (vVar 5) [5])))) (vRet (vC (.bl true))) (vNext)))
    (vRet (vC (.bl false))))
theorem key_fun {cs : Gr} (nd : (cs.map (·.1)).Nodup) {c : Str} {as bs : List Str} (h : (c, as) ∈ cs) (h2 : (c, bs) ∈ cs) : as = bs := by
  have e1 := look_gr nd h
  rw [look_gr nd h2] at e1
  have := Option.some.inj e1
  unfold encS at this
  injection this with this
  have inj : ∀ xs ys : List Str, xs.map D.str = ys.map D.str → xs = ys := by
    intro xs
    induction xs with
    | nil => intro ys e; cases ys with | nil => rfl | cons _ _ => simp at e
    | cons x r ih => intro ys e; cases ys with
      | nil => simp at e
      | cons y s => simp at e; rw [e.1, ih s e.2]
  exact (inj _ _ this).symm
theorem rd_must_keep : Reads S_must_keep v_must_keep 3 := fun ρs R h => by
  obtain ⟨cs, ed, c, rfl, ok, hl, hc, q⟩ := h
  unfold v_must_keep
  obtain ⟨⟨c', as⟩, hm, e⟩ := List.mem_map.mp hc
  have e' : c' = c := e
  subst e'
  have hla : as.length < 100000 := ok.args _ hm
  show vSeq _ _ _ [.sh (encG cs), .sh (encS ed), .sh (.str c'), .un, .un, .un]
  walk_at "ss"
  refine p_ixD rfl (look_gr ok.nd hm) ?_
  walk_at "ss"
  refine p_addL (by simp only [List.length_cons, List.length_nil, List.length_map]; exact small24 (by omega)) ?_
  walk_at "ss"
  refine k_call rfl ⟨cs, ed, c' :: as, by unfold encS; rfl, ok, hl, by simp only [List.length_cons]; omega, fun found hf hlf => ?_⟩
  walk_at "back"
  walk_at "ss"
  refine u_forK rfl (fun j ρ' => ∃ s4, Slot.free s4 = true ∧ ρ' = [.sh (encG cs), .sh (encS ed), .sh (.str c'), .ow false (encO found), s4, .un] ∧ ∀ p ∈ cs.take j, ¬ (c' ∈ p.2 ∧ ∃ x ∈ p.2, x ∈ found)) ⟨.un, rfl, rfl, fun p hp => by simp at hp⟩ ?_ ?_
  · rintro j k v ρ' hj ⟨s4, f4, rfl, non⟩
    obtain ⟨r, bs, hr, rfl, rfl⟩ := gr_get hj
    have hmem : (r, bs) ∈ cs := List.mem_of_getElem? hr
    refine u_gN rfl f4 ?_
    have stay : ¬ (c' ∈ bs ∧ ∃ x ∈ bs, x ∈ found) → ∃ s4, Slot.free s4 = true ∧ [Slot.sh (encG cs), .sh (encS ed), .sh (.str c'), .ow false (encO found), .sh (.str r), .un] = [Slot.sh (encG cs), .sh (encS ed), .sh (.str c'), .ow false (encO found), s4, .un] ∧ ∀ p ∈ cs.take (j + 1), ¬ (c' ∈ p.2 ∧ ∃ x ∈ p.2, x ∈ found) := fun hno => by
      refine ⟨.sh (.str r), rfl, rfl, fun p hp => ?_⟩
      rw [List.take_add_one, hr] at hp
      rcases List.mem_append.mp hp with hp | hp
      · exact non p hp
      · have : p = (r, bs) := by simpa using hp
        subst this
        exact hno
    show vIf _ _ _ _ [.sh (encG cs), .sh (encS ed), .sh (.str c'), .ow false (encO found), .sh (.str r), .un]
    walk_at "ss"
    refine p_ixD rfl (look_gr ok.nd hmem) ?_
    walk_at "ss"
    refine k_and (fun z1 => ?_) (fun z1 => k_ifF (stay fun z => absurd z.1 (by simpa using z1)))
    have hcb : c' ∈ bs := by simpa using z1
    walk_at "ss"
    refine p_ixD rfl (look_gr ok.nd hmem) ?_
    walk_at "ss"
    refine k_lcM bs D.str (fun x => decide (x ∈ found)) D.str _ rfl (Nat.lt_of_lt_of_le (ok.args _ hmem) (by decide)) (by simp [Slot.free]) (by dsimp only [wipeR, List.set]) ?_ ?_
    · intro x acc I hx hz t1 t2
      walk_at "ss"
      refine k_lcT (fun z => ?_) (fun z => t2 (by simpa using z))
      walk_at "ss"
      exact k_lcE rfl hz (t1 (by simpa using z))
    · walk_at "ss"
      rw [isEmpty_map, any_filter]
      refine k_if (fun z => ?_) (fun z => stay fun hx => ?_)
      · walk_at "ss"
        obtain ⟨x, hxa, hxf⟩ : ∃ x ∈ bs, x ∈ found := by simpa using z
        exact q true ⟨fun _ => ⟨as, hm, r, bs, hmem, hcb, x, hxa, (hf x).mp hxf⟩, fun _ => rfl⟩
      · obtain ⟨_, x, hxa, hxf⟩ := hx
        have : ∀ y ∈ bs, y ∉ found := by simpa using z
        exact this x hxa hxf
  · rintro ρ' ⟨s4, f4, rfl, non⟩
    walk_at "ss"
    refine q false ⟨(fun z => by cases z), fun ⟨as2, hm2, r, bs, hmem, hcb, x, hxa, hxr⟩ => ?_⟩
    have ea := key_fun ok.nd hm hm2
    subst ea
    rw [List.length_map, List.take_length] at non
    exact absurd ⟨hcb, x, hxa, (hf x).mpr hxr⟩ (non _ hmem)
noncomputable def keepOf (cs : Gr) (ed asked : List Str) : List Str := (cs.map (·.1)).filter fun c => @decide _ (Classical.propDecidable (c ∈ asked ∨ MustKeep cs ed c))
def S_plain_keep : VSp := fun ρs R => ∃ cs ed asked, ρs = [.sh (encG cs), .sh (encS ed), .sh (encS asked)] ∧ GOk cs ∧ ed.length < 100000 ∧
  ∀ ys : List Str, ys.Perm (keepOf cs ed asked) → sortedS ys = true → R (.ow false (encO ys)) [.sh (encG cs), .sh (encS ed), .sh (encS asked)]
def v_plain_keep : VS :=
  vRet (vPrim sortedP (vCons (vVal (vLcK 0 (gN 3) (vOr (vT (vBin (inP false) (vPk 3) (vPk 2))) (vTru (vVal (vCall S_must_keep (vCons (vVal (vVar 0)) (vCons (vVal (vVar 1)) (vCons (vVal (vVar 3)) (vNil)))))))) (vVar 3) [3])) (vNil)))
theorem rd_plain_keep : Reads S_plain_keep v_plain_keep 1 := fun ρs R h => by
  obtain ⟨cs, ed, asked, rfl, ok, hl, q⟩ := h
  unfold v_plain_keep
  have hlc := ok.len
  show vRet _ _ [.sh (encG cs), .sh (encS ed), .sh (encS asked), .un]
  walk_at "ss"
  refine k_lcM (cs.map (·.1)) D.str (fun c => @decide _ (Classical.propDecidable (c ∈ asked ∨ MustKeep cs ed c))) D.str _ (by rw [List.map_map, List.map_map]; rfl) (by rw [List.length_map]; show cs.length < 16777216; omega) (by simp [Slot.free]) (by dsimp only [wipeR, List.set]) ?_ ?_
  · intro x acc I hx hz t1 t2
    walk_at "ss"
    refine k_or (fun z => ?_) (fun z => ?_)
    · walk_at "ss"
      exact k_lcE rfl hz (t1 (by simpa using .inl (of_decide_eq_true z)))
    · walk_at "ss"
      refine k_call rfl ⟨cs, ed, x, rfl, ok, hl, hx, fun b hb => ?_⟩
      walk_at "back"
      walk_at "ss"
      refine k_lcT (fun z2 => ?_) (fun z2 => t2 ?_)
      · walk_at "ss"
        exact k_lcE rfl hz (t1 (by simpa using .inr (hb.mp z2)))
      · have h1 : x ∉ asked := of_decide_eq_false z
        have h2 : ¬ MustKeep cs ed x := fun m => by rw [hb.mpr m] at z2; cases z2
        simpa using ⟨h1, h2⟩
  · walk_at "ss"
    refine p_sortS (Nat.lt_of_le_of_lt (List.length_filter_le _ _) (by rw [List.length_map]; omega)) (fun ys hp hs => ?_)
    walk_at "ss"
    exact q ys hp hs
end WL


set_option Elab.async false
set_option linter.all false
set_option maxRecDepth 100000
set_option maxHeartbeats 4000000
/-! HV: the helpers that the laws share: what they promise, and that they keep it. -/
namespace WL
open PySem PySem.Spec PyProof.Rows L2
local macro_rules | `(tactic| walk_at "s") => `(tactic| first
  | ((with_reducible show vSeq _ _ _ _); refine u_seq ?_)
  | ((with_reducible show vSet _ _ _ _); refine u_set ?_)
  | ((with_reducible show kSet _ _ _ _); refine k_set rfl rfl ?_)
  | ((with_reducible show vRet _ _ _); refine u_ret ?_)
  | ((with_reducible show vIf _ _ _ _ _); refine u_if ?_)
  | ((with_reducible show vExpr _ _ _); refine u_expr ?_)
  | ((with_reducible show kExpr _ _ _); refine k_expr ?_)
  | ((with_reducible show vRetN _ _); refine u_retN ?_)
  | ((with_reducible show vAsg _ _ _ _); refine u_asg ?_)
  | ((with_reducible show kAsg _ _ _ _); refine k_asg rfl ?_)
  | ((with_reducible show vNext _ _); refine u_next ?_)
  | ((with_reducible show vBreak _ _); refine u_break ?_)
  | ((with_reducible show vCont _ _); refine u_cont ?_)
  | ((with_reducible show kIf _ _ _ _ _); (first | refine k_ifT ?_ | refine k_ifF ?_))
  | ((with_reducible show vVal _ _ _); refine u_val ?_)
  | ((with_reducible show kVal _ _ _); refine k_val ?_)
  | ((with_reducible show vPk _ _ _); refine u_pk rfl rfl ?_)
  | ((with_reducible show vC _ _ _); refine u_c ?_)
  | ((with_reducible show vVar _ _ _); (first | refine u_var rfl ?_ | refine u_varL rfl ?_ | refine u_varD rfl ?_ | refine u_varE rfl ?_))
  | ((with_reducible show vMv _ _ _); (first | refine u_mv rfl ?_ | refine u_mvO rfl ?_))
  | ((with_reducible show vBin _ _ _ _ _); refine u_bin ?_)
  | ((with_reducible show kBin1 _ _ _ _ _); refine k_bin1 ?_)
  | ((with_reducible show kBin2 _ _ _ _ _); refine k_bin2 rfl rfl ?_)
  | ((with_reducible show vUn _ _ _ _); refine u_un ?_)
  | ((with_reducible show kUn _ _ _ _); refine k_un rfl ?_)
  | ((with_reducible show vCons _ _ _ _); refine u_cons ?_)
  | ((with_reducible show kCons1 _ _ _ _); refine k_cons1 ?_)
  | ((with_reducible show vNil _ _); refine u_nil ?_)
  | ((with_reducible show kCons2 _ _ _ _); refine k_cons2 ?_)
  | ((with_reducible show vPrim _ _ _ _); refine u_prim ?_)
  | ((with_reducible show kPrim _ _ _ _); (first | refine k_prim1 rfl ?_ | refine k_prim2 rfl rfl ?_))
  | ((with_reducible show kRet _ _ _); (first | refine k_retV ?_ | refine k_retL ?_ | refine k_retT ?_ | refine k_retD ?_))
  | ((with_reducible show vSh _ _ _); refine u_sh ?_)
  | ((with_reducible show kSh _ _ _); (first | refine k_sh ?_ | refine k_shL ?_ | refine k_shD ?_))
  | ((with_reducible show vT _ _ _); refine u_t ?_)
  | ((with_reducible show kT _ _ _); refine k_t ?_)
  | ((with_reducible show vTru _ _ _); refine u_tru ?_)
  | ((with_reducible show kTru _ _ _); refine k_tru rfl rfl ?_)
  | ((with_reducible show vAnd _ _ _ _); refine u_and ?_)
  | ((with_reducible show kAnd _ _ _ _); (first | refine k_andT ?_ | refine k_andF ?_))
  | ((with_reducible show vOr _ _ _ _); refine u_or ?_)
  | ((with_reducible show kOr _ _ _ _); (first | refine k_orT ?_ | refine k_orF ?_))
  | ((with_reducible show vNot _ _ _); refine u_not ?_)
  | ((with_reducible show kNot _ _ _); refine k_not ?_)
  | ((with_reducible show vAndV _ _ _ _); refine u_andV ?_)
  | ((with_reducible show kAndV _ _ _ _); (first | refine k_andVT ?_ | refine k_andVF ?_))
  | ((with_reducible show kOrV _ _ _ _); (first | refine k_orVT ?_ | refine k_orVF ?_))
  | ((with_reducible show vOrV _ _ _ _); refine u_orV ?_)
  | ((with_reducible show vNotV _ _ _); refine u_notV ?_)
  | ((with_reducible show kNotV _ _ _); refine k_notV ?_)
  | ((with_reducible show vIfE _ _ _ _ _); refine u_ifE ?_)
  | ((with_reducible show kIfE _ _ _ _ _); (first | refine k_ifET ?_ | refine k_ifEF ?_))
  | ((with_reducible show vLst _ _ _); refine u_lst ?_)
  | ((with_reducible show kLst _ _ _); refine k_lst rfl (by simp only [List.length_cons, List.length_nil]; decide) ?_)
  | ((with_reducible show vTup _ _ _); refine u_tup ?_)
  | ((with_reducible show kTup _ _ _); refine k_tup rfl (by simp only [List.length_cons, List.length_nil]; decide) ?_)
  | ((with_reducible show vNewD _ _); refine u_newD ?_)
  | ((with_reducible show vSl _ _ _ _ _); refine u_sl ?_)
  | ((with_reducible show kSl0 _ _ _ _ _); refine k_sl0 ?_)
  | ((with_reducible show kSl1 _ _ _ _ _); refine k_sl1 ?_)
  | ((with_reducible show kSl2 _ _ _ _ _); refine k_sl2 rfl ?_)
  | ((with_reducible show vNoPart _ _); refine u_noPart ?_)
  | ((with_reducible show vPart _ _ _); refine u_part ?_)
  | ((with_reducible show kPart _ _ _); refine k_part ?_)
  | ((with_reducible show vApp _ _ _ _); refine u_app rfl ?_)
  | ((with_reducible show vPopAt _ _ _ _); refine u_popAt rfl ?_)
  | ((with_reducible show vExt _ _ _ _); refine u_ext rfl ?_)
  | ((with_reducible show vM1 _ _ _ _ _); refine u_m1 ?_)
  | ((with_reducible show kM1a _ _ _ _ _); refine k_m1a rfl ?_)
  | ((with_reducible show kM1b _ _ _ _ _); refine k_m1b rfl rfl ?_)
  | ((with_reducible show vGet2 _ _ _ _ _); refine u_get2 ?_)
  | ((with_reducible show kGet1 _ _ _ _ _); refine k_get1 rfl ?_)
  | ((with_reducible show kGet2 _ _ _ _ _); refine k_get2 ?_)
  | ((with_reducible show vSetL _ _ _ _ _); refine u_setL ?_)
  | ((with_reducible show kSetL1 _ _ _ _ _); refine k_setL1 rfl ?_)
  | ((with_reducible show kSetL2 _ _ _ _ _); (first | refine k_setL2j 0 rfl rfl (by simp) rfl ?_ | refine k_setL2j 1 rfl rfl (by simp) rfl ?_ | refine k_setL2j 2 rfl rfl (by simp) rfl ?_))
  | ((with_reducible show vPutD _ _ _ _ _); refine u_putD ?_)
  | ((with_reducible show kPutD1 _ _ _ _ _); refine k_putD1 rfl ?_)
  | ((with_reducible show vAugL _ _ _ _ _ _); refine u_augL rfl ?_)
  | ((with_reducible show kAugL1 _ _ _ _ _ _); (first | refine k_augL1j 0 rfl rfl rfl ?_ | refine k_augL1j 1 rfl rfl rfl ?_ | refine k_augL1j 2 rfl rfl rfl ?_))
  | ((with_reducible show kAugL2 _ _ _ _ _ _ _); refine k_augL2j rfl (by simp) ?_)
  | ((with_reducible show vAug _ _ _ _ _); refine u_aug rfl ?_)
  | ((with_reducible show kAug _ _ _ _ _ _); (first | refine k_augAdd rfl ?_ | refine k_augSub rfl ?_))
  | ((with_reducible show vCall _ _ _ _); refine u_call ?_)
  | ((with_reducible show gN _ _ _ _); refine u_gN rfl rfl ?_)
  | ((with_reducible show gT _ _ _ _); refine u_gT rfl ?_)
  | ((with_reducible show gL _ _ _ _); refine u_gL rfl rfl ?_)
  | ((with_reducible show gTs _ _ _ _); (first | refine u_gTs0 ?_ | refine u_gTs ?_))
  | ((with_reducible show vItL _ _ _); refine u_itL ?_)
  | ((with_reducible show kItL _ _ _); refine k_itL rfl rfl ?_)
  | ((with_reducible show vItT _ _ _); refine u_itT ?_)
  | ((with_reducible show kItT _ _ _); refine k_itT rfl rfl ?_)
  | ((with_reducible show vItR1 _ _ _); refine u_itR1 ?_)
  | ((with_reducible show vItR2 _ _ _); refine u_itR2 ?_)
  | ((with_reducible show vFor _ _ _ _ _); refine u_for ?_)
  | ((with_reducible show vLc _ _ _ _ _ _ _); refine u_lc ?_)
  | ((with_reducible show vLcK _ _ _ _ _ _ _); refine u_lcK rfl ?_)
  | ((with_reducible show vYes _ _); refine u_yes ?_)
  | ((with_reducible show kLcT _ _ _ _ _ _); refine k_lcTT ?_)
  | ((with_reducible show addP _ _); refine p_addI ?_)
  | ((with_reducible show subP _ _); refine p_subI ?_)
  | ((with_reducible show mulP _ _); (first | refine p_mulI (.inl (.inl (by omega))) ?_ | refine p_mulI (.inl (.inr (by omega))) ?_))
  | ((with_reducible show modP _ _); refine p_modI (by omega) ?_)
  | ((with_reducible show divP _ _); refine p_divI (.inl (by constructor <;> omega)) ?_)
  | ((with_reducible show negP _ _); refine p_negI ?_)
  | ((with_reducible show ltP _ _); refine p_ltI ?_)
  | ((with_reducible show leP _ _); refine p_leI ?_)
  | ((with_reducible show gtP _ _); refine p_gtI ?_)
  | ((with_reducible show geP _ _); refine p_geI ?_)
  | ((with_reducible show eqP _ _); (first | refine p_eqI ?_ | refine p_eqS ?_ | refine p_eqB ?_ | refine p_eqN ?_))
  | ((with_reducible show neP _ _); (first | refine p_neI ?_ | refine p_neS ?_ | refine p_neB ?_))
  | ((with_reducible show isNP _ _); (first | refine p_isNn ?_ | refine p_isNi ?_ | refine p_isNs ?_ | refine p_isNb ?_ | refine p_isNl ?_ | refine p_isNt ?_ | refine p_isNd ?_))
  | ((with_reducible show notNP _ _); (first | refine p_notNn ?_ | refine p_notNi ?_ | refine p_notNs ?_ | refine p_notNb ?_ | refine p_notNl ?_ | refine p_notNt ?_ | refine p_notNd ?_))
  | ((with_reducible show isiP _ _); refine p_isi rfl rfl ?_)
  | ((with_reducible show isiTP _ _); refine p_isiT rfl rfl ?_)
  | ((with_reducible show reprP _ _); (first | refine p_reprB ?_ | refine p_reprN ?_))
  | ((with_reducible show lenP _ _); (first | refine p_lenL ?_ | refine p_lenF ?_ | refine p_lenT ?_ | refine p_lenD ?_))
  | ((with_reducible show absP _ _); refine p_absI ?_)
  | ((with_reducible show intP _ _); refine p_intI ?_)
  | ((with_reducible show listP _ _); (first | refine p_listL ?_ | refine p_listF ?_ | refine p_listD ?_))
  | ((with_reducible show ixP _ _); (first | refine p_ixLj 0 rfl rfl ?_ | refine p_ixLj 1 rfl rfl ?_ | refine p_ixLj 2 rfl rfl ?_ | refine p_ixLj 3 rfl rfl ?_ | refine p_ixTj 0 rfl rfl ?_ | refine p_ixTj 1 rfl rfl ?_ | refine p_ixTj 2 rfl rfl ?_ | refine p_ixTj 3 rfl rfl ?_))
  | ((with_reducible show inP _ _ _); (first | refine p_inS0 ?_ | refine p_inS1 ?_ | refine p_inI0 ?_ | refine p_inI1 ?_ | refine p_inD0 rfl ?_ | refine p_inD1 rfl ?_))
  | ((with_reducible show slP _ _ _ _); (first | refine p_slL ?_ | refine p_slF ?_))
  | ((with_reducible show sumP _ _); refine p_sum ?_)
  | ((with_reducible show maxP _ _); refine p_max2 ?_)
  | ((with_reducible show minP _ _); refine p_min2 ?_)
  | ((with_reducible show allP _ _); refine p_all ?_)
  | ((with_reducible show anyP _ _); refine p_any ?_))
local macro_rules | `(tactic| walk_at "ss") => `(tactic| repeat walk_at "s")
local macro_rules | `(tactic| walk_at "back") => `(tactic| refine k_back ?_ (by dsimp only [takeBack, backS, List.set, List.getElem?_cons_zero, List.getElem?_cons_succ]))
def v_plain_costs : VS :=
  vSeq (vSet 2 (vPrim lenP (vCons (vVal (vLcK 0 (gN 6) (vTru (vVal (vLc (vItL (vBin ixP (vPk 0) (vPk 6))) (gN 7) (vT (vBin (inP false) (vPk 7) (vPk 1))) (vVar 7) [7]))) (vVar 6) [6])) (vNil))))
    (vSeq (vSet 3 (vLc (vItL (vVar 1)) (gN 5) (vT (vBin (inP true) (vPk 5) (vPk 0))) (vVar 5) [5]))
    (vSeq (vSet 4 (vCall S_reached (vCons (vVal (vVar 0)) (vCons (vVal (vVar 3)) (vCons (vVal (vSh (vLst (vNil)))) (vNil))))))
    (vRet (vTup (vCons (vVal (vVar 2)) (vCons (vVal (vPrim lenP (vCons (vVal (vLcK 0 (gN 6) (vT (vBin (inP false) (vPk 6) (vPk 4))) (vVar 6) [6])) (vNil)))) (vNil)))))))
def leastOf (cs : Gr) (ed : List Str) : Nat := (cs.filter fun p => p.2.any fun x => decide (x ∈ ed)).length
noncomputable def mostOf (cs : Gr) (srcs : List Str) : Nat := ((cs.map (·.1)).filter fun c => @decide _ (Classical.propDecidable (Reach cs srcs [] c))).length
def S_plain_costs : VSp := fun ρs R => ∃ cs ed, ρs = [.sh (encG cs), .sh (encS ed)] ∧ GOk cs ∧ ed.length < 100000 ∧ (∀ x ∈ ed, x ∉ cs.map (·.1)) ∧
  R (.sh (.tup [.int (leastOf cs ed), .int (mostOf cs ed)])) [.sh (encG cs), .sh (encS ed)]
theorem rd_plain_costs : Reads S_plain_costs v_plain_costs 6 := fun ρs R h => by
  obtain ⟨cs, ed, rfl, ok, hl, hno, q⟩ := h
  unfold v_plain_costs
  have hlc := ok.len
  show vSeq _ _ _ [.sh (encG cs), .sh (encS ed), .un, .un, .un, .un, .un, .un]
  walk_at "ss"
  refine k_lcM cs (fun p => .str p.1) (fun p => p.2.any fun x => decide (x ∈ ed)) (fun p => .str p.1) _ (by rw [List.map_map]; rfl) (by show cs.length < 16777216; omega) (by simp [Slot.free]) (by dsimp only [wipeR, List.set]) ?_ ?_
  · intro p acc I hp hz t1 t2
    walk_at "ss"
    refine p_ixD rfl (look_gr ok.nd (c := p.1) (as := p.2) hp) ?_
    walk_at "ss"
    refine k_lcM p.2 D.str (fun x => decide (x ∈ ed)) D.str _ rfl (Nat.lt_of_lt_of_le (ok.args _ hp) (by decide)) (by simp [Slot.free]) (by dsimp only [wipeR, List.set]) ?_ ?_
    · intro x acc I hx hz t1 t2
      walk_at "ss"
      refine k_lcT (fun z => ?_) (fun z => t2 (by simpa using z))
      walk_at "ss"
      exact k_lcE rfl hz (t1 (by simpa using z))
    · walk_at "ss"
      rw [isEmpty_map, any_filter]
      refine k_lcT (fun z => ?_) (fun z => t2 z)
      walk_at "ss"
      exact k_lcE rfl hz (t1 z)
  · walk_at "ss"
    refine k_lcM ed D.str (fun _ => true) D.str _ rfl (by show ed.length < 16777216; omega) (by simp [Slot.free]) (by dsimp only [wipeR, List.set]) ?_ ?_
    · intro x acc I hx hz t1 t2
      walk_at "ss"
      rw [look_no (hno x hx)]
      walk_at "ss"
      exact k_lcE rfl hz (t1 rfl)
    · rw [List.filter_eq_self.mpr (fun _ _ => rfl)]
      walk_at "ss"
      refine k_call rfl ⟨cs, ed, [], rfl, ok, hl, by decide, fun found hf hlf => ?_⟩
      walk_at "back"
      walk_at "ss"
      refine k_lcM (cs.map (·.1)) D.str (fun c => @decide _ (Classical.propDecidable (Reach cs ed [] c))) D.str _ (by rw [List.map_map, List.map_map]; rfl) (by rw [List.length_map]; show cs.length < 16777216; omega) (by simp [Slot.free]) (by dsimp only [wipeR, List.set]) ?_ ?_
      · intro x acc I hx hz t1 t2
        walk_at "ss"
        refine k_lcT (fun z => ?_) (fun z => t2 ?_)
        · walk_at "ss"
          exact k_lcE rfl hz (t1 (by simpa using (hf x).mp (of_decide_eq_true z)))
        · have h1 : x ∉ found := of_decide_eq_false z
          have h2 : ¬ Reach cs ed [] x := fun m => h1 ((hf x).mpr m)
          simpa using h2
      · walk_at "ss"
        rw [List.length_map, List.length_map]
        exact q
def v_all_worlds : VS :=
  vSeq (vSet 4 (vLst (vCons (vVal (vLst (vCons (vVal (vLst (vNil))) (vCons (vVal (vLst (vNil))) (vNil))))) (vNil))))
    (vSeq (vFor (vItL (vVar 2)) (gN 5) (vSet 4 (vBin addP (vVal (vLc (vItL (vVar 4)) (gL [9, 10]) (vYes) (vLst (vCons (vVal (vBin addP (vPk 9) (vVal (vLst (vCons (vVal (vVar 5)) (vNil)))))) (vCons (vVal (vVar 10)) (vNil)))) [9, 10])) (vVal (vIfE (vTru (vPk 3)) (vLst (vNil)) (vVar 4))))))
    (vSeq (vFor (vItL (vVar 0)) (gN 6) (vSeq (vSet 7 (vLc (vItL (vVar 4)) (gL [9, 10]) (vT (vBin gtP (vVal (vPrim lenP (vCons (vVal (vLc (vItL (vBin ixP (vPk 1) (vPk 6))) (gN 11) (vT (vBin (inP false) (vPk 11) (vPk 9))) (vVar 11) [11])) (vNil)))) (vVal (vC (.int 0))))) (vLst (vCons (vVal (vVar 9)) (vCons (vVal (vBin addP (vPk 10) (vVal (vLst (vCons (vVal (vVar 6)) (vNil)))))) (vNil)))) [9, 10]))
    (vSeq (vSet 8 (vLc (vItL (vVar 4)) (gL [9, 10]) (vT (vBin eqP (vVal (vPrim lenP (vCons (vVal (vLc (vItL (vBin ixP (vPk 1) (vPk 6))) (gN 11) (vT (vBin (inP false) (vPk 11) (vPk 9))) (vVar 11) [11])) (vNil)))) (vVal (vC (.int 0))))) (vLst (vCons (vVal (vVar 9)) (vCons (vVal (vVar 10)) (vNil)))) [9, 10]))
    (vSet 4 (vBin addP (vVal (vBin addP (vPk 8) (vPk 7))) (vVal (vLc (vItL (vVar 7)) (gL [9, 10]) (vYes) (vLst (vCons (vVal (vBin addP (vPk 9) (vVal (vLst (vCons (vVal (vVar 6)) (vNil)))))) (vCons (vVal (vVar 10)) (vNil)))) [9, 10])))))))
    (vRet (vMv 4))))
/-! ### all worlds -/
abbrev Wd := List Str × List Str
def encW (w : Wd) : D := .lst [encS w.1, encS w.2]
def edStep (forced : Bool) (ws : List Wd) (one : Str) : List Wd := ws.map (fun w => (w.1 ++ [one], w.2)) ++ (if forced then [] else ws)
def metB (as : List Str) (w : Wd) : Bool := as.any fun x => decide (x ∈ w.1)
def callStep (ws : List Wd) (c : Str) (as : List Str) : List Wd :=
  (ws.filter fun w => !metB as w) ++ (ws.filter (metB as)).map (fun w => (w.1, w.2 ++ [c])) ++ ((ws.filter (metB as)).map (fun w => (w.1, w.2 ++ [c]))).map fun w => (w.1 ++ [c], w.2)
def worldsOf (cs : Gr) (ed : List Str) (forced : Bool) : List Wd := cs.foldl (fun ws p => callStep ws p.1 p.2) (ed.foldl (edStep forced) [([], [])])
def S_all_worlds : VSp := fun ρs R => ∃ (cs : Gr) (ed : List Str) (forced : Bool), ρs = [.sh (encS (cs.map (·.1))), .sh (encG cs), .sh (encS ed), .sh (.bl forced)] ∧ GOk cs ∧ cs.length ≤ 8 ∧ ed.length ≤ 8 ∧
  R (.ow false (.lst ((worldsOf cs ed forced).map encW))) [.sh (encS (cs.map (·.1))), .sh (encG cs), .sh (encS ed), .sh (.bl forced)]
theorem foldl_take {α β : Type} (f : β → α → β) (b : β) (l : List α) (j : Nat) {x : α} (h : l[j]? = some x) : (l.take (j + 1)).foldl f b = f ((l.take j).foldl f b) x := by
  rw [List.take_add_one, h, List.foldl_append]; rfl
structure WOk (n m : Nat) (ws : List Wd) : Prop where
  len : ws.length ≤ 2 ^ n
  mem : ∀ w ∈ ws, w.1.length ≤ n ∧ w.2.length ≤ m
theorem wok_ed {forced : Bool} {n : Nat} {ws : List Wd} {one : Str} (h : WOk n n ws) : WOk (n + 1) (n + 1) (edStep forced ws one) := by
  refine ⟨?_, fun w hw => ?_⟩
  · unfold edStep
    rw [List.length_append, List.length_map]
    have := h.len
    have e : 2 ^ (n + 1) = 2 ^ n + 2 ^ n := by rw [Nat.pow_succ]; omega
    cases forced <;> simp <;> omega
  · rcases List.mem_append.mp hw with hw | hw
    · obtain ⟨v, hv, e⟩ := List.mem_map.mp hw
      subst e
      have := h.mem v hv
      simp; omega
    · cases forced with
      | true => simp at hw
      | false => have := h.mem w (by simpa using hw); omega
theorem filter_split {α : Type} (p : α → Bool) (l : List α) : (l.filter fun x => !p x).length + (l.filter p).length = l.length := by
  induction l with
  | nil => rfl
  | cons x r ih =>
    cases h : p x
    · rw [List.filter_cons_of_pos (by simp [h]), List.filter_cons_of_neg (by simp [h])]; simp only [List.length_cons]; omega
    · rw [List.filter_cons_of_neg (by simp [h]), List.filter_cons_of_pos (by simp [h])]; simp only [List.length_cons]; omega
theorem wok_call {n : Nat} {ws : List Wd} {c : Str} {as : List Str} (h : WOk n n ws) : WOk (n + 1) (n + 1) (callStep ws c as) := by
  refine ⟨?_, fun w hw => ?_⟩
  · unfold callStep
    rw [List.length_append, List.length_append, List.length_map, List.length_map, List.length_map]
    have := h.len
    have e : 2 ^ (n + 1) = 2 ^ n + 2 ^ n := by rw [Nat.pow_succ]; omega
    have := filter_split (metB as) ws
    have := List.length_filter_le (metB as) ws
    omega
  · unfold callStep at hw
    rcases List.mem_append.mp hw with hw | hw
    · rcases List.mem_append.mp hw with hw | hw
      · have := h.mem w (List.mem_filter.mp hw).1; omega
      · obtain ⟨v, hv, e⟩ := List.mem_map.mp hw
        subst e
        have := h.mem v (List.mem_filter.mp hv).1
        simp; omega
    · rw [List.map_map] at hw
      obtain ⟨v, hv, e⟩ := List.mem_map.mp hw
      subst e
      have := h.mem v (List.mem_filter.mp hv).1
      simp; omega
theorem pow_le16 {n : Nat} (h : n ≤ 16) : 2 ^ n ≤ 65536 := by
  have : 2 ^ n ≤ 2 ^ 16 := Nat.pow_le_pow_right (by decide) h
  exact this
/-- the call's arguments among what is new, counted -/
theorem any_pos {as new : List Str} : decide (0 < (((as.filter fun x => decide (x ∈ new)).map D.str).length : Int)) = as.any fun x => decide (x ∈ new) := by
  rw [← any_filter, List.length_map]
  cases h : (as.filter fun x => decide (x ∈ new)) <;> simp
theorem any_zero {as new : List Str} : decide ((((as.filter fun x => decide (x ∈ new)).map D.str).length : Int) = 0) = !as.any fun x => decide (x ∈ new) := by
  rw [← any_filter, List.length_map]
  cases h : (as.filter fun x => decide (x ∈ new)) with
  | nil => rfl
  | cons _ _ => simp; omega
theorem rd_all_worlds : Reads S_all_worlds v_all_worlds 8 := fun ρs R h => by
  obtain ⟨cs, ed, forced, rfl, ok, hlc, hle, q⟩ := h
  unfold v_all_worlds
  show vSeq _ _ _ [.sh (encS (cs.map (·.1))), .sh (encG cs), .sh (encS ed), .sh (.bl forced), .un, .un, .un, .un, .un, .un, .un, .un]
  walk_at "ss"
  refine k_for (fun j ρ' => ∃ s5, Slot.free s5 = true ∧ ρ' = [.sh (encS (cs.map (·.1))), .sh (encG cs), .sh (encS ed), .sh (.bl forced), .ow false (.lst (((ed.take j).foldl (edStep forced) [([], [])]).map encW)), s5, .un, .un, .un, .un, .un, .un] ∧
    j ≤ ed.length ∧ WOk j j ((ed.take j).foldl (edStep forced) [([], [])])) ⟨.un, rfl, rfl, Nat.zero_le _, ⟨by simp, fun w hw => by simp at hw; subst hw; exact ⟨Nat.le_refl _, Nat.le_refl _⟩⟩⟩ ?_ ?_
  · rintro j d ρ' hj ⟨s5, f5, rfl, hjl, wok⟩
    rw [List.getElem?_map] at hj
    obtain ⟨one, ho, rfl⟩ := Option.map_eq_some_iff.mp hj
    have hj' := (List.getElem?_eq_some_iff.mp ho).1
    have hst := foldl_take (edStep forced) [([], [])] ed j ho
    have wok' := wok_ed (forced := forced) (one := one) wok
    rw [← hst] at wok'
    revert hst wok wok'
    generalize (ed.take j).foldl (edStep forced) [([], [])] = ws
    intro wok hst wok'
    have hwl : ws.length ≤ 65536 := Nat.le_trans wok.len (pow_le16 (by omega))
    refine u_gN rfl f5 ?_
    show vSet _ _ _ [.sh (encS (cs.map (·.1))), .sh (encG cs), .sh (encS ed), .sh (.bl forced), .ow false (.lst (ws.map encW)), .sh (.str one), .un, .un, .un, .un, .un, .un]
    walk_at "ss"
    refine k_lcM ws encW (fun _ => true) (fun w => encW (w.1 ++ [one], w.2)) _ rfl (by show ws.length < 16777216; omega) (by simp [Slot.free]) (by dsimp only [wipeR, List.set]) ?_ ?_
    · intro w acc I hw hz t1 _
      have := wok.mem w hw
      walk_at "ss"
      refine p_addL (by rw [List.length_map]; simp only [List.length_cons, List.length_nil]; exact small24 (by omega)) ?_
      walk_at "ss"
      refine k_lcE rfl hz ?_
      have t2 := t1 rfl
      unfold encW encS at t2
      rw [List.map_append] at t2
      exact t2
    · rw [List.filter_eq_self.mpr (fun _ _ => rfl)]
      walk_at "ss"
      refine k_ifE (fun z => ?_) (fun z => ?_)
      · subst z
        walk_at "ss"
        refine p_addL (by rw [List.length_map]; exact small24 (by simp; omega)) ?_
        walk_at "ss"
        refine ⟨.sh (.str one), rfl, ?_, hj', wok'⟩
        rw [hst]
        unfold edStep
        simp [List.map_map]
      · subst z
        walk_at "ss"
        refine p_addL (by rw [List.length_map, List.length_map]; exact small24 (by omega)) ?_
        walk_at "ss"
        refine ⟨.sh (.str one), rfl, ?_, hj', wok'⟩
        rw [hst]
        unfold edStep
        simp [List.map_map]
  · rintro ρ' ⟨s5, f5, rfl, hjl, wok⟩
    rw [List.length_map, List.take_length] at wok ⊢
    revert wok
    generalize hw0 : ed.foldl (edStep forced) [([], [])] = w0
    intro wok
    walk_at "ss"
    refine k_for (fun j ρ' => ∃ s6 s7 s8, Slot.free s6 = true ∧ Slot.free s7 = true ∧ Slot.free s8 = true ∧ ρ' = [.sh (encS (cs.map (·.1))), .sh (encG cs), .sh (encS ed), .sh (.bl forced), .ow false (.lst (((cs.take j).foldl (fun ws p => callStep ws p.1 p.2) w0).map encW)), s5, s6, s7, s8, .un, .un, .un] ∧
      j ≤ cs.length ∧ WOk (ed.length + j) (ed.length + j) ((cs.take j).foldl (fun ws p => callStep ws p.1 p.2) w0)) ⟨.un, .un, .un, rfl, rfl, rfl, rfl, Nat.zero_le _, wok⟩ ?_ ?_
    · rintro j d ρ' hj ⟨s6, s7, s8, f6, f7, f8, rfl, hjl, wok⟩
      rw [List.getElem?_map, List.getElem?_map] at hj
      obtain ⟨c, ho', rfl⟩ := Option.map_eq_some_iff.mp hj
      obtain ⟨⟨c', as⟩, ho, e⟩ := Option.map_eq_some_iff.mp ho'
      have e' : c' = c := e
      subst e'
      have hj' := (List.getElem?_eq_some_iff.mp ho).1
      have hmem : (c', as) ∈ cs := List.mem_of_getElem? ho
      have hst := foldl_take (fun ws (p : Str × List Str) => callStep ws p.1 p.2) w0 cs j ho
      have wok' := wok_call (c := c') (as := as) wok
      rw [← hst] at wok'
      revert hst wok wok'
      generalize (cs.take j).foldl (fun ws p => callStep ws p.1 p.2) w0 = ws
      intro wok hst wok'
      have hwl : ws.length ≤ 65536 := Nat.le_trans wok.len (pow_le16 (by omega))
      refine u_gN rfl f6 ?_
      show vSeq _ _ _ [.sh (encS (cs.map (·.1))), .sh (encG cs), .sh (encS ed), .sh (.bl forced), .ow false (.lst (ws.map encW)), s5, .sh (.str c'), s7, s8, .un, .un, .un]
      have hla : as.length < 16777216 := Nat.lt_trans (ok.args _ hmem) (by decide)
      walk_at "ss"
      refine k_lcM ws encW (metB as) (fun w => encW (w.1, w.2 ++ [c'])) _ rfl (by show ws.length < 16777216; omega) (by simp [Slot.free, f7, f8]) (by dsimp only [wipeR, List.set]) ?_ ?_
      · intro w acc I hw hz t1 t2
        have := wok.mem w hw
        walk_at "ss"
        refine p_ixD rfl (look_gr ok.nd hmem) ?_
        walk_at "ss"
        refine k_lcM as D.str (fun x => decide (x ∈ w.1)) D.str _ rfl hla (by simp [Slot.free]) (by dsimp only [wipeR, List.set]) ?_ ?_
        · intro x acc I hx hz t1 t2
          walk_at "ss"
          refine k_lcT (fun z => ?_) (fun z => t2 z)
          walk_at "ss"
          exact k_lcE rfl hz (t1 z)
        · walk_at "ss"
          rw [any_pos]
          refine k_lcT (fun z => ?_) (fun z => t2 z)
          walk_at "ss"
          refine p_addL (by rw [List.length_map]; simp only [List.length_cons, List.length_nil]; exact small24 (by omega)) ?_
          walk_at "ss"
          refine k_lcE rfl hz ?_
          have t3 := t1 z
          unfold encW encS at t3
          rw [List.map_append] at t3
          exact t3
      · refine k_set rfl f7 ?_
        walk_at "ss"
        refine k_lcM ws encW (fun w => !metB as w) encW _ rfl (by show ws.length < 16777216; omega) (by simp [Slot.free, f7, f8]) (by dsimp only [wipeR, List.set]) ?_ ?_
        · intro w acc I hw hz t1 t2
          walk_at "ss"
          refine p_ixD rfl (look_gr ok.nd hmem) ?_
          walk_at "ss"
          refine k_lcM as D.str (fun x => decide (x ∈ w.1)) D.str _ rfl hla (by simp [Slot.free]) (by dsimp only [wipeR, List.set]) ?_ ?_
          · intro x acc I hx hz t1 t2
            walk_at "ss"
            refine k_lcT (fun z => ?_) (fun z => t2 z)
            walk_at "ss"
            exact k_lcE rfl hz (t1 z)
          · walk_at "ss"
            rw [any_zero]
            refine k_lcT (fun z => ?_) (fun z => t2 z)
            walk_at "ss"
            exact k_lcE rfl hz (t1 z)
        · refine k_set rfl f8 ?_
          walk_at "ss"
          have hf1 := filter_split (metB as) ws
          refine p_addL (by rw [List.length_map, List.length_map]; exact small24 (by omega)) ?_
          walk_at "ss"
          refine k_lcM ((ws.filter (metB as)).map fun w => (w.1, w.2 ++ [c'])) encW (fun _ => true) (fun w => encW (w.1 ++ [c'], w.2)) _ (by rw [List.map_map]; rfl) (by rw [List.length_map]; show _ < 16777216; omega) (by simp [Slot.free]) (by dsimp only [wipeR, List.set]) ?_ ?_
          · intro w acc I hw hz t1 _
            obtain ⟨v, hv, e⟩ := List.mem_map.mp hw
            have hv2 := wok.mem v (List.mem_filter.mp hv).1
            have hwl : w.1.length ≤ ed.length + j := by subst e; exact hv2.1
            walk_at "ss"
            refine p_addL (by rw [List.length_map]; simp only [List.length_cons, List.length_nil]; exact small24 (by omega)) ?_
            walk_at "ss"
            refine k_lcE rfl hz ?_
            have t3 := t1 rfl
            unfold encW encS at t3
            rw [List.map_append] at t3
            exact t3
          · rw [List.filter_eq_self.mpr (fun _ _ => rfl)]
            walk_at "ss"
            refine p_addL (by rw [List.length_append, List.length_map, List.length_map, List.length_map, List.length_map]; exact small24 (by omega)) ?_
            walk_at "ss"
            have e : (ws.filter fun w => !metB as w).map encW ++ ((ws.filter (metB as)).map fun w => encW (w.1, w.2 ++ [c'])) ++ (((ws.filter (metB as)).map fun w => (w.1, w.2 ++ [c'])).map fun w => encW (w.1 ++ [c'], w.2)) = (((cs.take (j + 1)).foldl (fun ws p => callStep ws p.1 p.2) w0).map encW) := by
              rw [hst]
              unfold callStep
              simp only [List.map_append, List.map_map]
              rfl
            rw [e]
            exact ⟨_, _, _, rfl, rfl, rfl, rfl, hj', wok'⟩
    · rintro ρ' ⟨s6, s7, s8, f6, f7, f8, rfl, hjl, wok⟩
      rw [List.length_map, List.length_map, List.take_length]
      walk_at "ss"
      unfold worldsOf at q
      rw [hw0] at q
      exact q
end WL


set_option Elab.async false
set_option linter.all false
set_option maxRecDepth 100000
set_option maxHeartbeats 4000000
/-! HV: the helpers that the laws share: what they promise, and that they keep it. -/
namespace WL
open PySem PySem.Spec PyProof.Rows L2
local macro_rules | `(tactic| walk_at "s") => `(tactic| first
  | ((with_reducible show vSeq _ _ _ _); refine u_seq ?_)
  | ((with_reducible show vSet _ _ _ _); refine u_set ?_)
  | ((with_reducible show kSet _ _ _ _); refine k_set rfl rfl ?_)
  | ((with_reducible show vRet _ _ _); refine u_ret ?_)
  | ((with_reducible show vIf _ _ _ _ _); refine u_if ?_)
  | ((with_reducible show vExpr _ _ _); refine u_expr ?_)
  | ((with_reducible show kExpr _ _ _); refine k_expr ?_)
  | ((with_reducible show vRetN _ _); refine u_retN ?_)
  | ((with_reducible show vAsg _ _ _ _); refine u_asg ?_)
  | ((with_reducible show kAsg _ _ _ _); refine k_asg rfl ?_)
  | ((with_reducible show vNext _ _); refine u_next ?_)
  | ((with_reducible show vBreak _ _); refine u_break ?_)
  | ((with_reducible show vCont _ _); refine u_cont ?_)
  | ((with_reducible show kIf _ _ _ _ _); (first | refine k_ifT ?_ | refine k_ifF ?_))
  | ((with_reducible show vVal _ _ _); refine u_val ?_)
  | ((with_reducible show kVal _ _ _); refine k_val ?_)
  | ((with_reducible show vPk _ _ _); refine u_pk rfl rfl ?_)
  | ((with_reducible show vC _ _ _); refine u_c ?_)
  | ((with_reducible show vVar _ _ _); (first | refine u_var rfl ?_ | refine u_varL rfl ?_ | refine u_varD rfl ?_ | refine u_varE rfl ?_))
  | ((with_reducible show vMv _ _ _); (first | refine u_mv rfl ?_ | refine u_mvO rfl ?_))
  | ((with_reducible show vBin _ _ _ _ _); refine u_bin ?_)
  | ((with_reducible show kBin1 _ _ _ _ _); refine k_bin1 ?_)
  | ((with_reducible show kBin2 _ _ _ _ _); refine k_bin2 rfl rfl ?_)
  | ((with_reducible show vUn _ _ _ _); refine u_un ?_)
  | ((with_reducible show kUn _ _ _ _); refine k_un rfl ?_)
  | ((with_reducible show vCons _ _ _ _); refine u_cons ?_)
  | ((with_reducible show kCons1 _ _ _ _); refine k_cons1 ?_)
  | ((with_reducible show vNil _ _); refine u_nil ?_)
  | ((with_reducible show kCons2 _ _ _ _); refine k_cons2 ?_)
  | ((with_reducible show vPrim _ _ _ _); refine u_prim ?_)
  | ((with_reducible show kPrim _ _ _ _); (first | refine k_prim1 rfl ?_ | refine k_prim2 rfl rfl ?_))
  | ((with_reducible show kRet _ _ _); (first | refine k_retV ?_ | refine k_retL ?_ | refine k_retT ?_ | refine k_retD ?_))
  | ((with_reducible show vSh _ _ _); refine u_sh ?_)
  | ((with_reducible show kSh _ _ _); (first | refine k_sh ?_ | refine k_shL ?_ | refine k_shD ?_))
  | ((with_reducible show vT _ _ _); refine u_t ?_)
  | ((with_reducible show kT _ _ _); refine k_t ?_)
  | ((with_reducible show vTru _ _ _); refine u_tru ?_)
  | ((with_reducible show kTru _ _ _); refine k_tru rfl rfl ?_)
  | ((with_reducible show vAnd _ _ _ _); refine u_and ?_)
  | ((with_reducible show kAnd _ _ _ _); (first | refine k_andT ?_ | refine k_andF ?_))
  | ((with_reducible show vOr _ _ _ _); refine u_or ?_)
  | ((with_reducible show kOr _ _ _ _); (first | refine k_orT ?_ | refine k_orF ?_))
  | ((with_reducible show vNot _ _ _); refine u_not ?_)
  | ((with_reducible show kNot _ _ _); refine k_not ?_)
  | ((with_reducible show vAndV _ _ _ _); refine u_andV ?_)
  | ((with_reducible show kAndV _ _ _ _); (first | refine k_andVT ?_ | refine k_andVF ?_))
  | ((with_reducible show kOrV _ _ _ _); (first | refine k_orVT ?_ | refine k_orVF ?_))
  | ((with_reducible show vOrV _ _ _ _); refine u_orV ?_)
  | ((with_reducible show vNotV _ _ _); refine u_notV ?_)
  | ((with_reducible show kNotV _ _ _); refine k_notV ?_)
  | ((with_reducible show vIfE _ _ _ _ _); refine u_ifE ?_)
  | ((with_reducible show kIfE _ _ _ _ _); (first | refine k_ifET ?_ | refine k_ifEF ?_))
  | ((with_reducible show vLst _ _ _); refine u_lst ?_)
  | ((with_reducible show kLst _ _ _); refine k_lst rfl (by simp only [List.length_cons, List.length_nil]; decide) ?_)
  | ((with_reducible show vTup _ _ _); refine u_tup ?_)
  | ((with_reducible show kTup _ _ _); refine k_tup rfl (by simp only [List.length_cons, List.length_nil]; decide) ?_)
  | ((with_reducible show vNewD _ _); refine u_newD ?_)
  | ((with_reducible show vSl _ _ _ _ _); refine u_sl ?_)
  | ((with_reducible show kSl0 _ _ _ _ _); refine k_sl0 ?_)
  | ((with_reducible show kSl1 _ _ _ _ _); refine k_sl1 ?_)
  | ((with_reducible show kSl2 _ _ _ _ _); refine k_sl2 rfl ?_)
  | ((with_reducible show vNoPart _ _); refine u_noPart ?_)
  | ((with_reducible show vPart _ _ _); refine u_part ?_)
  | ((with_reducible show kPart _ _ _); refine k_part ?_)
  | ((with_reducible show vApp _ _ _ _); refine u_app rfl ?_)
  | ((with_reducible show vPopAt _ _ _ _); refine u_popAt rfl ?_)
  | ((with_reducible show vExt _ _ _ _); refine u_ext rfl ?_)
  | ((with_reducible show vM1 _ _ _ _ _); refine u_m1 ?_)
  | ((with_reducible show kM1a _ _ _ _ _); refine k_m1a rfl ?_)
  | ((with_reducible show kM1b _ _ _ _ _); refine k_m1b rfl rfl ?_)
  | ((with_reducible show vGet2 _ _ _ _ _); refine u_get2 ?_)
  | ((with_reducible show kGet1 _ _ _ _ _); refine k_get1 rfl ?_)
  | ((with_reducible show kGet2 _ _ _ _ _); refine k_get2 ?_)
  | ((with_reducible show vSetL _ _ _ _ _); refine u_setL ?_)
  | ((with_reducible show kSetL1 _ _ _ _ _); refine k_setL1 rfl ?_)
  | ((with_reducible show kSetL2 _ _ _ _ _); (first | refine k_setL2j 0 rfl rfl (by simp) rfl ?_ | refine k_setL2j 1 rfl rfl (by simp) rfl ?_ | refine k_setL2j 2 rfl rfl (by simp) rfl ?_))
  | ((with_reducible show vPutD _ _ _ _ _); refine u_putD ?_)
  | ((with_reducible show kPutD1 _ _ _ _ _); refine k_putD1 rfl ?_)
  | ((with_reducible show vAugL _ _ _ _ _ _); refine u_augL rfl ?_)
  | ((with_reducible show kAugL1 _ _ _ _ _ _); (first | refine k_augL1j 0 rfl rfl rfl ?_ | refine k_augL1j 1 rfl rfl rfl ?_ | refine k_augL1j 2 rfl rfl rfl ?_))
  | ((with_reducible show kAugL2 _ _ _ _ _ _ _); refine k_augL2j rfl (by simp) ?_)
  | ((with_reducible show vAug _ _ _ _ _); refine u_aug rfl ?_)
  | ((with_reducible show kAug _ _ _ _ _ _); (first | refine k_augAdd rfl ?_ | refine k_augSub rfl ?_))
  | ((with_reducible show vCall _ _ _ _); refine u_call ?_)
  | ((with_reducible show gN _ _ _ _); refine u_gN rfl rfl ?_)
  | ((with_reducible show gT _ _ _ _); refine u_gT rfl ?_)
  | ((with_reducible show gL _ _ _ _); refine u_gL rfl rfl ?_)
  | ((with_reducible show gTs _ _ _ _); (first | refine u_gTs0 ?_ | refine u_gTs ?_))
  | ((with_reducible show vItL _ _ _); refine u_itL ?_)
  | ((with_reducible show kItL _ _ _); refine k_itL rfl rfl ?_)
  | ((with_reducible show vItT _ _ _); refine u_itT ?_)
  | ((with_reducible show kItT _ _ _); refine k_itT rfl rfl ?_)
  | ((with_reducible show vItR1 _ _ _); refine u_itR1 ?_)
  | ((with_reducible show vItR2 _ _ _); refine u_itR2 ?_)
  | ((with_reducible show vFor _ _ _ _ _); refine u_for ?_)
  | ((with_reducible show vLc _ _ _ _ _ _ _); refine u_lc ?_)
  | ((with_reducible show vLcK _ _ _ _ _ _ _); refine u_lcK rfl ?_)
  | ((with_reducible show vYes _ _); refine u_yes ?_)
  | ((with_reducible show kLcT _ _ _ _ _ _); refine k_lcTT ?_)
  | ((with_reducible show addP _ _); refine p_addI ?_)
  | ((with_reducible show subP _ _); refine p_subI ?_)
  | ((with_reducible show mulP _ _); (first | refine p_mulI (.inl (.inl (by omega))) ?_ | refine p_mulI (.inl (.inr (by omega))) ?_))
  | ((with_reducible show modP _ _); refine p_modI (by omega) ?_)
  | ((with_reducible show divP _ _); refine p_divI (.inl (by constructor <;> omega)) ?_)
  | ((with_reducible show negP _ _); refine p_negI ?_)
  | ((with_reducible show ltP _ _); refine p_ltI ?_)
  | ((with_reducible show leP _ _); refine p_leI ?_)
  | ((with_reducible show gtP _ _); refine p_gtI ?_)
  | ((with_reducible show geP _ _); refine p_geI ?_)
  | ((with_reducible show eqP _ _); (first | refine p_eqI ?_ | refine p_eqS ?_ | refine p_eqB ?_ | refine p_eqN ?_))
  | ((with_reducible show neP _ _); (first | refine p_neI ?_ | refine p_neS ?_ | refine p_neB ?_))
  | ((with_reducible show isNP _ _); (first | refine p_isNn ?_ | refine p_isNi ?_ | refine p_isNs ?_ | refine p_isNb ?_ | refine p_isNl ?_ | refine p_isNt ?_ | refine p_isNd ?_))
  | ((with_reducible show notNP _ _); (first | refine p_notNn ?_ | refine p_notNi ?_ | refine p_notNs ?_ | refine p_notNb ?_ | refine p_notNl ?_ | refine p_notNt ?_ | refine p_notNd ?_))
  | ((with_reducible show isiP _ _); refine p_isi rfl rfl ?_)
  | ((with_reducible show isiTP _ _); refine p_isiT rfl rfl ?_)
  | ((with_reducible show reprP _ _); (first | refine p_reprB ?_ | refine p_reprN ?_))
  | ((with_reducible show lenP _ _); (first | refine p_lenL ?_ | refine p_lenF ?_ | refine p_lenT ?_ | refine p_lenD ?_))
  | ((with_reducible show absP _ _); refine p_absI ?_)
  | ((with_reducible show intP _ _); refine p_intI ?_)
  | ((with_reducible show listP _ _); (first | refine p_listL ?_ | refine p_listF ?_ | refine p_listD ?_))
  | ((with_reducible show ixP _ _); (first | refine p_ixLj 0 rfl rfl ?_ | refine p_ixLj 1 rfl rfl ?_ | refine p_ixLj 2 rfl rfl ?_ | refine p_ixLj 3 rfl rfl ?_ | refine p_ixTj 0 rfl rfl ?_ | refine p_ixTj 1 rfl rfl ?_ | refine p_ixTj 2 rfl rfl ?_ | refine p_ixTj 3 rfl rfl ?_))
  | ((with_reducible show inP _ _ _); (first | refine p_inS0 ?_ | refine p_inS1 ?_ | refine p_inI0 ?_ | refine p_inI1 ?_ | refine p_inD0 rfl ?_ | refine p_inD1 rfl ?_))
  | ((with_reducible show slP _ _ _ _); (first | refine p_slL ?_ | refine p_slF ?_))
  | ((with_reducible show sumP _ _); refine p_sum ?_)
  | ((with_reducible show maxP _ _); refine p_max2 ?_)
  | ((with_reducible show minP _ _); refine p_min2 ?_)
  | ((with_reducible show allP _ _); refine p_all ?_)
  | ((with_reducible show anyP _ _); refine p_any ?_))
local macro_rules | `(tactic| walk_at "ss") => `(tactic| repeat walk_at "s")
local macro_rules | `(tactic| walk_at "back") => `(tactic| refine k_back ?_ (by dsimp only [takeBack, backS, List.set, List.getElem?_cons_zero, List.getElem?_cons_succ]))
def v_graph : VS :=
  vSeq (vSet 1 (vCall S_words (vCons (vPk 0) (vCons (vVal (vC (.int 6))) (vCons (vVal (vC (.int 10))) (vNil))))))
    (vSeq (vSet 2 (vCall S_names (vCons (vPk 0) (vCons (vVal (vSh (vBin addP (vVal (vC (.int 2))) (vVal (vCall S_pick (vCons (vPk 0) (vCons (vVal (vC (.int 3))) (vNil)))))))) (vCons (vVal (vC (.int 1))) (vNil))))))
    (vSeq (vSet 3 (vBin addP (vVal (vC (.int 2))) (vVal (vCall S_pick (vCons (vPk 0) (vCons (vVal (vC (.int 5))) (vNil)))))))
    (vSeq (vSet 4 (vNewD))
    (vSeq (vFor (vItR1 (vCons (vPk 3) (vNil))) (gN 5) (vSeq (vSet 6 (vBin addP (vVal (vBin addP (vPk 2) (vVal (vSl (vPk 1) (vNoPart) (vPart (vVar 5)))))) (vVal (vSl (vPk 1) (vPart (vPrim maxP (vCons (vVal (vC (.int 0))) (vCons (vVal (vBin subP (vPk 5) (vVal (vC (.int 2))))) (vNil))))) (vPart (vVar 5))))))
    (vSeq (vSet 7 (vLc (vItR1 (vCons (vVal (vBin addP (vVal (vC (.int 1))) (vVal (vCall S_pick (vCons (vPk 0) (vCons (vVal (vC (.int 3))) (vNil))))))) (vNil))) (gN 8) (vYes) (vCall S_choice (vCons (vPk 0) (vCons (vVal (vVar 6)) (vNil)))) [8]))
    (vPutD 4 (vBin ixP (vPk 1) (vPk 5)) (vVar 7)))))
    (vRet (vTup (vCons (vVal (vSl (vPk 1) (vNoPart) (vPart (vVar 3)))) (vCons (vVal (vVar 4)) (vCons (vVal (vVar 2)) (vNil))))))))))
/-! ### the drawn graph -/
structure GraphOk (cs : Gr) (srcs : List Str) : Prop where
  keys : WordsOk (cs.map (·.1)) cs.length
  two : 2 ≤ cs.length
  six : cs.length ≤ 6
  src : NamesOk srcs srcs.length
  stwo : 2 ≤ srcs.length
  few : srcs.length ≤ 4
  args : ∀ i c as, cs[i]? = some (c, as) → as ≠ [] ∧ as.length ≤ 3 ∧ ∀ x ∈ as, x ∈ srcs ∨ x ∈ (cs.take i).map (·.1)
theorem GraphOk.ok {cs : Gr} {srcs : List Str} (h : GraphOk cs srcs) : GOk cs := by
  refine ⟨h.keys.nd, Nat.lt_of_le_of_lt h.six (by decide), fun p hp => ?_⟩
  obtain ⟨i, hi, e⟩ := List.mem_iff_getElem.mp hp
  have := (h.args i p.1 p.2 (by rw [List.getElem?_eq_getElem hi, e])).2.1
  omega
def S_graph : VSp := fun ρs R => ∃ a b c, ρs = [srcD a b c] ∧ ∀ (a' b' c' : Int) (cs : Gr) (srcs : List Str), GraphOk cs srcs → R (.sh (.tup [encS (cs.map (·.1)), encG cs, encS srcs])) [srcD a' b' c']
theorem set_get {α : Type} {l : List α} {i : Nat} {x : α} (h : l[i]? = some x) : l.set i x = l := by
  obtain ⟨hi, e⟩ := List.getElem?_eq_some_iff.mp h
  subst e
  exact List.set_getElem_self hi
/-- a name's list, own or shared -/
theorem u_varA {ρ ρ' : Rho} {i : Nat} {s : Slot} {ds : List D} {Q : VK0} (e : ρ[i]? = some s) (hs : s = .sh (.lst ds) ∨ s = .ow false (.lst ds)) (h : Q (.sh (.lst ds)) ρ') (he : ρ.set i (.sh (.lst ds)) = ρ' := by dsimp only [List.set]) : vVar i ρ Q := by
  subst he
  rcases hs with rfl | rfl
  · rw [set_get e] at h
    exact .inl ⟨_, e, h⟩
  · exact .inr ⟨_, e, h⟩
theorem rd_graph : Reads S_graph v_graph 8 := fun ρs R h => by
  obtain ⟨a, b, c, rfl, q⟩ := h
  unfold v_graph
  show vSeq _ _ _ [srcD a b c, .un, .un, .un, .un, .un, .un, .un, .un]
  walk_at "ss"
  refine k_call rfl ⟨a, b, c, 6, 10, rfl, by decide, by decide, by decide, by decide, fun a b c st at' ws h1 h2 h3 h4 hp => ?_⟩
  have wok : WordsOk (ws.map SX.S) 6 := words_ok h1 h4 (by decide) hp
  revert wok
  generalize ws.map SX.S = W
  intro wok
  walk_at "back"
  walk_at "ss"
  refine k_call rfl ⟨a, b, c, 3, rfl, by decide, by decide, fun a b c n n0 n1 => ?_⟩
  walk_at "back"
  walk_at "ss"
  refine k_call rfl ⟨a, b, c, 2 + n, 1, rfl, by omega, by omega, by decide, by decide, fun a b c st m tl ns h1 h2 h3 h4 h5 hp => ?_⟩
  have nok : NamesOk (ns.map SX.S) (2 + n).toNat := names_ok h1 (by omega) h4 h5 (by omega) hp
  revert nok
  generalize ns.map SX.S = srcs
  intro nok
  have ls := nok.len
  walk_at "back"
  walk_at "ss"
  refine k_call rfl ⟨a, b, c, 5, rfl, by decide, by decide, fun a b c m m0 m1 => ?_⟩
  walk_at "back"
  walk_at "ss"
  refine k_itR1 rfl (by omega) ?_
  have lw := wok.len
  refine k_for (fun j ρ' => ∃ a b c cs s5 s6 s7, Slot.free s5 = true ∧ Slot.free s6 = true ∧ Slot.free s7 = true ∧ ρ' = [srcD a b c, .ow false (encO W), .ow false (encO srcs), .sh (.int (2 + m)), .ow false (.dct (cs.map fun p => ((Sum.inr p.1 : Key), encS p.2))), s5, s6, s7, .un] ∧
    cs.length = j ∧ cs.map (·.1) = W.take j ∧ ∀ i c as, cs[i]? = some (c, as) → as ≠ [] ∧ as.length ≤ 3 ∧ ∀ x ∈ as, x ∈ srcs ∨ x ∈ W.take i) ⟨a, b, c, [], .un, .un, .un, rfl, rfl, rfl, rfl, rfl, by simp, fun i c as e => by simp at e⟩ ?_ ?_
  · rintro j d ρ' hj ⟨a, b, c, cs, s5, s6, s7, f5, f6, f7, rfl, hl, hk, ha⟩
    have hjm : j < (2 + m).toNat := by
      have := (List.getElem?_eq_some_iff.mp hj).1
      rwa [rangeD_len] at this
    rw [rangeD_get hjm] at hj
    cases hj
    have hjw : j < W.length := by omega
    refine u_gN rfl f5 ?_
    show vSeq _ _ _ [srcD a b c, .ow false (encO W), .ow false (encO srcs), .sh (.int (2 + m)), .ow false (.dct (cs.map fun p => ((Sum.inr p.1 : Key), encS p.2))), .sh (.int (0 + (j : Int))), s6, s7, .un]
    rw [show (0 + (j : Int)) = (j : Int) by omega]
    walk_at "ss"
    rw [cutL_map]
    have hc1 := cutL_len W none (some (j : Int))
    refine p_addL (by rw [List.length_map, List.length_map]; exact small24 (by omega)) ?_
    walk_at "ss"
    rw [cutL_map]
    have hc2 : ∀ lo, (cutL W lo (some (j : Int))).length ≤ W.length := fun lo => cutL_len W lo _
    refine p_addL (by rw [List.length_append, List.length_map, List.length_map, List.length_map]; have := hc2 (some (if (j : Int) - 2 > 0 then (j : Int) - 2 else 0)); exact small24 (by omega)) ?_
    walk_at "ss"
    refine k_set rfl f6 ?_
    walk_at "ss"
    refine k_call rfl ⟨a, b, c, 3, rfl, by decide, by decide, fun a b c r r0 r1 => ?_⟩
    walk_at "back"
    walk_at "ss"
    refine k_itR1 rfl (by omega) ?_
    rw [← List.map_append, ← List.map_append]
    have hsub : ∀ x ∈ srcs ++ cutL W none (some (j : Int)) ++ cutL W (some (if (j : Int) - 2 > 0 then (j : Int) - 2 else 0)) (some (j : Int)), x ∈ srcs ∨ x ∈ W.take j := fun x hx => by
      rcases List.mem_append.mp hx with hx | hx
      · rcases List.mem_append.mp hx with hx | hx
        · exact .inl hx
        · exact .inr (by have := mem_cut (by omega) hx; simpa using this)
      · exact .inr (by have := mem_cut (by omega) hx; simpa using this)
    have hpl : (srcs ++ cutL W none (some (j : Int)) ++ cutL W (some (if (j : Int) - 2 > 0 then (j : Int) - 2 else 0)) (some (j : Int))).length ≤ 100 := by
      rw [List.length_append, List.length_append]
      have := hc2 (some (if (j : Int) - 2 > 0 then (j : Int) - 2 else 0))
      omega
    have hpn : srcs ++ cutL W none (some (j : Int)) ++ cutL W (some (if (j : Int) - 2 > 0 then (j : Int) - 2 else 0)) (some (j : Int)) ≠ [] := by
      intro z
      have := congrArg List.length z
      rw [List.length_append, List.length_append, List.length_nil] at this
      omega
    revert hsub hpl hpn
    generalize srcs ++ cutL W none (some (j : Int)) ++ cutL W (some (if (j : Int) - 2 > 0 then (j : Int) - 2 else 0)) (some (j : Int)) = pool
    intro hsub hpl hpn
    refine k_lc (by simp [Slot.free]) (fun i acc ρ' => ∃ a b c s6 as, (s6 = Slot.sh (.lst (pool.map D.str)) ∨ s6 = .ow false (.lst (pool.map D.str))) ∧ ρ' = [srcD a b c, .ow false (encO W), .ow false (encO srcs), .sh (.int (2 + m)), .ow false (.dct (cs.map fun p => ((Sum.inr p.1 : Key), encS p.2))), .sh (.int (j : Int)), s6, s7, .un] ∧ as.length = i ∧ (∀ x ∈ as, x ∈ pool) ∧ acc = as.map D.str) ⟨a, b, c, _, [], .inr rfl, rfl, rfl, by simp, rfl⟩ ?_ ?_
    · rintro i acc d ρ' hi ⟨a, b, c, s6, as, hs6, rfl, hla, hmem, rfl⟩
      have hi' : i < (1 + r).toNat := by
        have := (List.getElem?_eq_some_iff.mp hi).1
        rwa [rangeD_len] at this
      walk_at "ss"
      refine u_varA rfl hs6 ?_
      walk_at "ss"
      refine k_call rfl ⟨a, b, c, pool.map D.str, rfl, by intro z; exact hpn (List.map_eq_nil_iff.mp z), by rw [List.length_map]; omega, fun a b c d hd => ?_⟩
      obtain ⟨x, hx, rfl⟩ := List.mem_map.mp hd
      walk_at "back"
      refine k_lcE rfl (by rw [List.length_map]; exact Nat.lt_of_le_of_lt (show as.length ≤ 3 by omega) (by decide)) ?_
      exact ⟨a, b, c, _, as ++ [x], .inl rfl, rfl, by simp [hla], fun y hy => by
        rcases List.mem_append.mp hy with hy | hy
        · exact hmem y hy
        · rw [List.mem_singleton.mp hy]; exact hx, by simp⟩
    · rintro acc ρ' ⟨a, b, c, s6, as, hs6, rfl, hla, hmem, rfl⟩
      rw [rangeD_len] at hla
      refine k_set rfl f7 ?_
      walk_at "ss"
      refine p_ixLj j rfl (by rw [List.getElem?_map, List.getElem?_eq_getElem hjw]; rfl) ?_
      walk_at "ss"
      have hnew : ∀ kv ∈ cs.map fun p => ((Sum.inr p.1 : Key), encS p.2), kv.1 ≠ Sum.inr W[j] := fun kv hkv e => by
        obtain ⟨p, hp, rfl⟩ := List.mem_map.mp hkv
        injection e with e
        have h1 : W[j] ∈ cs.map (·.1) := by rw [← e]; exact List.mem_map_of_mem hp
        rw [hk] at h1
        obtain ⟨i, hi, hx⟩ := List.mem_iff_getElem.mp h1
        rw [List.getElem_take] at hx
        rw [List.length_take] at hi
        have := (List.getElem_inj wok.nd).mp hx
        omega
      refine k_putD2 rfl rfl (by rw [List.length_map]; exact Nat.lt_of_le_of_lt (show cs.length ≤ 10 by omega) (by decide)) rfl ?_
      rw [putD_new hnew]
      have has : as ≠ [] := fun z => by rw [z, List.length_nil] at hla; omega
      have e1 : (cs.map fun p => ((Sum.inr p.1 : Key), encS p.2)) ++ [((Sum.inr W[j] : Key), D.lst (as.map D.str))] = (cs ++ [(W[j], as)]).map fun p => ((Sum.inr p.1 : Key), encS p.2) := by rw [List.map_append]; rfl
      have hs6' : Slot.free s6 = true := by rcases hs6 with rfl | rfl <;> rfl
      refine ⟨a, b, c, cs ++ [(W[j], as)], _, s6, _, rfl, hs6', rfl, by rw [← e1], by rw [List.length_append, hl]; rfl, ?_, ?_⟩
      · rw [List.map_append, hk, List.take_add_one, List.getElem?_eq_getElem hjw]; rfl
      · intro i c' as' he
        by_cases hi : i < cs.length
        · rw [List.getElem?_append_left hi] at he
          exact ha i c' as' he
        · rw [List.getElem?_append_right (by omega)] at he
          have hi0 : i - cs.length = 0 := by
            have := (List.getElem?_eq_some_iff.mp he).1
            simp at this; omega
          rw [hi0] at he
          have hee : (W[j], as) = (c', as') := by simpa using he
          cases hee
          have hij : i = j := by omega
          rw [hij]
          exact ⟨has, by omega, fun x hx => hsub x (hmem x hx)⟩
  · rintro ρ' ⟨a, b, c, cs, s5, s6, s7, f5, f6, f7, rfl, hl, hk, ha⟩
    rw [rangeD_len] at hl hk
    have hcut : cutL W none (some (2 + m)) = W.take (2 + m).toNat := by
      have e : (2 + m) = (((2 + m).toNat : Nat) : Int) := by omega
      unfold cutL
      rw [e, HT.sIx_none, HT.sIx_nat, List.drop_zero]
      congr 1
      omega
    walk_at "ss"
    rw [cutL_map, hcut, ← hk]
    walk_at "ss"
    have hkl : (cs.map (·.1)).length = cs.length := List.length_map ..
    refine q a b c cs srcs ⟨⟨?_, hkl, ?_, ?_⟩, by omega, by omega, ⟨nok.nd, rfl, nok.tx, nok.mrk⟩, by omega, by omega, fun i c as he => ?_⟩
    · rw [hk]; exact wok.nd.sublist (List.take_sublist _ _)
    · rw [hk]; exact fun w hw => wok.tx w (List.mem_of_mem_take hw)
    · rw [hk]; exact fun w hw => wok.pl w (List.mem_of_mem_take hw)
    · obtain ⟨h1, h2, h3⟩ := ha i c as he
      refine ⟨h1, h2, fun x hx => ?_⟩
      rcases h3 x hx with h | h
      · exact .inl h
      · have hi := (List.getElem?_eq_some_iff.mp he).1
        rw [List.map_take, hk, List.take_take, Nat.min_eq_left (by omega)]
        exact .inr h
end WL


set_option Elab.async false
set_option linter.all false
set_option maxRecDepth 100000
set_option maxHeartbeats 4000000
/-! HV: the helpers that the laws share: what they promise, and that they keep it. -/
namespace WL
open PySem PySem.Spec PyProof.Rows L2
/-! ### the plain law: worlds and reach -/
theorem mem_step {ws : List Wd} {c : Str} {as : List Str} {w : Wd} : w ∈ callStep ws c as ↔ ∃ v ∈ ws, (metB as v = false ∧ w = v) ∨ (metB as v = true ∧ (w = (v.1, v.2 ++ [c]) ∨ w = (v.1 ++ [c], v.2 ++ [c]))) := by
  unfold callStep
  rw [List.mem_append, List.mem_append, List.map_map]
  constructor
  · rintro ((h | h) | h)
    · have := List.mem_filter.mp h
      exact ⟨w, this.1, .inl ⟨by simpa using this.2, rfl⟩⟩
    · obtain ⟨v, hv, e⟩ := List.mem_map.mp h
      have := List.mem_filter.mp hv
      exact ⟨v, this.1, .inr ⟨this.2, .inl e.symm⟩⟩
    · obtain ⟨v, hv, e⟩ := List.mem_map.mp h
      have := List.mem_filter.mp hv
      exact ⟨v, this.1, .inr ⟨this.2, .inr e.symm⟩⟩
  · rintro ⟨v, hv, ⟨h, e⟩ | ⟨h, e | e⟩⟩
    · subst e
      exact .inl (.inl (List.mem_filter.mpr ⟨hv, by simpa using h⟩))
    · exact .inl (.inr (List.mem_map.mpr ⟨v, List.mem_filter.mpr ⟨hv, h⟩, e.symm⟩))
    · exact .inr (List.mem_map.mpr ⟨v, List.mem_filter.mpr ⟨hv, h⟩, e.symm⟩)
theorem met_iff {as : List Str} {w : Wd} : metB as w = true ↔ ∃ x ∈ as, x ∈ w.1 := by
  unfold metB; simp
theorem met_not {as : List Str} {w : Wd} (h : metB as w = false) : ∀ x ∈ as, x ∉ w.1 := by
  unfold metB at h; simpa using h
/-- the worlds before any call -/
theorem ed_forced (ed : List Str) : ∀ (ws : List Wd), (∀ w ∈ ws, w.2 = []) → ∀ w ∈ ed.foldl (edStep true) ws, ∃ v ∈ ws, w = (v.1 ++ ed, []) := by
  induction ed with
  | nil => intro ws hw w h; exact ⟨w, h, by rw [List.append_nil]; have := hw w h; cases w; simp_all⟩
  | cons x r ih =>
    intro ws hw w h
    obtain ⟨v, hv, e⟩ := ih (edStep true ws x) (fun v hv => by
      unfold edStep at hv
      rw [if_pos rfl, List.append_nil] at hv
      obtain ⟨u, hu, e⟩ := List.mem_map.mp hv
      subst e; exact hw u hu) w h
    unfold edStep at hv
    rw [if_pos rfl, List.append_nil] at hv
    obtain ⟨u, hu, e2⟩ := List.mem_map.mp hv
    subst e2
    exact ⟨u, hu, by rw [e]; simp⟩
theorem ed_has (ed : List Str) (forced : Bool) (p : Str → Bool) (hp : forced = true → ∀ x ∈ ed, p x = true) : ∀ (ws : List Wd) (v : Wd), v ∈ ws → (v.1 ++ ed.filter p, v.2) ∈ ed.foldl (edStep forced) ws := by
  induction ed with
  | nil => intro ws v hv; simpa using hv
  | cons x r ih =>
    intro ws v hv
    rw [List.foldl_cons]
    cases hx : p x with
    | true =>
      have := ih (fun z y hy => hp z y (List.mem_cons_of_mem _ hy)) (edStep forced ws x) (v.1 ++ [x], v.2) (by unfold edStep; exact List.mem_append_left _ (List.mem_map.mpr ⟨v, hv, rfl⟩))
      rw [List.filter_cons_of_pos hx]
      simpa using this
    | false =>
      have hf : forced = false := by
        cases forced with
        | false => rfl
        | true => have := hp rfl x (by simp); rw [hx] at this; cases this
      subst hf
      have := ih (fun z => by cases z) (edStep false ws x) v (by unfold edStep; exact List.mem_append_right _ (by simpa using hv))
      rw [List.filter_cons_of_neg (by simp [hx])]
      exact this
theorem ed_sub (ed : List Str) (forced : Bool) : ∀ (ws : List Wd), ∀ w ∈ ed.foldl (edStep forced) ws, ∃ v ∈ ws, (∀ x ∈ w.1, x ∈ v.1 ∨ x ∈ ed) ∧ w.2 = v.2 := by
  induction ed with
  | nil => intro ws w h; exact ⟨w, h, fun x hx => .inl hx, rfl⟩
  | cons x r ih =>
    intro ws w h
    obtain ⟨v, hv, h1, h2⟩ := ih _ w h
    unfold edStep at hv
    rcases List.mem_append.mp hv with hv | hv
    · obtain ⟨u, hu, e⟩ := List.mem_map.mp hv
      subst e
      refine ⟨u, hu, fun y hy => ?_, h2⟩
      rcases h1 y hy with h | h
      · rcases List.mem_append.mp h with h | h
        · exact .inl h
        · rw [List.mem_singleton.mp h]; exact .inr (by simp)
      · exact .inr (by simp [h])
    · cases forced with
      | true => simp at hv
      | false => exact ⟨v, by simpa using hv, fun y hy => (h1 y hy).elim .inl fun h => .inr (by simp [h]), h2⟩
/-- facts carried along the order -/
theorem fold_inv {cs : Gr} (I : Gr → List Wd → Prop) (step : ∀ ps c as rest ws, cs = ps ++ (c, as) :: rest → I ps ws → I (ps ++ [(c, as)]) (callStep ws c as)) : ∀ (rest ps : Gr) (ws : List Wd), cs = ps ++ rest → I ps ws → I cs (rest.foldl (fun ws p => callStep ws p.1 p.2) ws)
  | [], ps, ws, e, h => by rw [List.append_nil] at e; subst e; exact h
  | (c, as) :: r, ps, ws, e, h => by
    rw [List.foldl_cons]
    exact fold_inv I step r (ps ++ [(c, as)]) (callStep ws c as) (by rw [e]; simp) (step ps c as r ws e h)
/-- a graph in its order -/
structure Ord (cs : Gr) (ed : List Str) : Prop where
  nd : (cs.map (·.1)).Nodup
  noed : ∀ x ∈ ed, x ∉ cs.map (·.1)
  ord : ∀ ps c as rest, cs = ps ++ (c, as) :: rest → ∀ x ∈ as, x ∈ cs.map (·.1) → x ∈ ps.map (·.1)
section
variable {cs : Gr} {ed : List Str}
theorem Ord.fresh (o : Ord cs ed) {ps : Gr} {c : Str} {as : List Str} {rest : Gr} (e : cs = ps ++ (c, as) :: rest) : c ∉ ps.map (·.1) := fun h => by
  have nd := o.nd
  rw [e, List.map_append, List.map_cons, List.nodup_append] at nd
  exact nd.2.2 c h c (by simp) rfl
theorem Ord.mem {ps : Gr} {c : Str} {as : List Str} {rest : Gr} (e : cs = ps ++ (c, as) :: rest) : (c, as) ∈ cs := by rw [e]; simp
structure WInv (cs : Gr) (ed : List Str) (ps : Gr) (w : Wd) : Prop where
  new : ∀ x ∈ w.1, x ∈ ed ∨ x ∈ w.2
  run : ∀ r ∈ w.2, ∃ as, (r, as) ∈ ps ∧ ∃ x ∈ as, x ∈ w.1
  not : ∀ r as, (r, as) ∈ ps → r ∉ w.2 → ∀ x ∈ as, x ∉ w.1
  rch : ∀ B : List Str, (∀ x ∈ w.1, x ∉ B) → ∀ x ∈ w.1, Reach cs ed B x
theorem winv_step (o : Ord cs ed) {ps : Gr} {c : Str} {as : List Str} {rest : Gr} (e : cs = ps ++ (c, as) :: rest) {v w : Wd} (h : WInv cs ed ps v)
    (hw : (metB as v = false ∧ w = v) ∨ (metB as v = true ∧ (w = (v.1, v.2 ++ [c]) ∨ w = (v.1 ++ [c], v.2 ++ [c])))) : WInv cs ed (ps ++ [(c, as)]) w := by
  have fr := o.fresh e
  have crun : c ∉ v.2 := fun z => by
    obtain ⟨as', h1, _⟩ := h.run c z
    exact fr (List.mem_map.mpr ⟨_, h1, rfl⟩)
  have cas : c ∉ as := fun z => fr (o.ord ps c as rest e c z (List.mem_map.mpr ⟨_, Ord.mem e, rfl⟩))
  have later : ∀ r bs, (r, bs) ∈ ps → c ∉ bs := fun r bs hr z => by
    obtain ⟨p1, p2, e2⟩ := List.append_of_mem hr
    have e3 : cs = p1 ++ (r, bs) :: (p2 ++ (c, as) :: rest) := by rw [e, e2]; simp
    have := o.ord p1 r bs _ e3 c z (List.mem_map.mpr ⟨_, Ord.mem e, rfl⟩)
    exact fr (by rw [e2]; simp only [List.map_append, List.mem_append]; exact .inl this)
  rcases hw with ⟨hm, rfl⟩ | ⟨hm, rfl | rfl⟩
  · refine ⟨h.new, fun r hr => ?_, fun r bs hr hn => ?_, h.rch⟩
    · obtain ⟨bs, h1, h2⟩ := h.run r hr
      exact ⟨bs, List.mem_append_left _ h1, h2⟩
    · rcases List.mem_append.mp hr with hr | hr
      · exact h.not r bs hr hn
      · have : (r, bs) = (c, as) := by simpa using hr
        cases this
        exact met_not hm
  · refine ⟨fun x hx => (h.new x hx).imp id fun z => List.mem_append_left _ z, fun r hr => ?_, fun r bs hr hn => ?_, h.rch⟩
    · rcases List.mem_append.mp hr with hr | hr
      · obtain ⟨bs, h1, h2⟩ := h.run r hr
        exact ⟨bs, List.mem_append_left _ h1, h2⟩
      · rw [List.mem_singleton.mp hr]
        exact ⟨as, by simp, met_iff.mp hm⟩
    · rcases List.mem_append.mp hr with hr | hr
      · exact h.not r bs hr fun z => hn (List.mem_append_left _ z)
      · have : (r, bs) = (c, as) := by simpa using hr
        cases this
        exact absurd (by simp) hn
  · refine ⟨fun x hx => ?_, fun r hr => ?_, fun r bs hr hn x hx hxn => ?_, fun B hB x hx => ?_⟩
    · rcases List.mem_append.mp hx with hx | hx
      · exact (h.new x hx).imp id fun z => List.mem_append_left _ z
      · exact .inr (List.mem_append_right _ hx)
    · rcases List.mem_append.mp hr with hr | hr
      · obtain ⟨bs, h1, x, h2, h3⟩ := h.run r hr
        exact ⟨bs, List.mem_append_left _ h1, x, h2, List.mem_append_left _ h3⟩
      · rw [List.mem_singleton.mp hr]
        obtain ⟨x, h2, h3⟩ := met_iff.mp hm
        exact ⟨as, by simp, x, h2, List.mem_append_left _ h3⟩
    · rcases List.mem_append.mp hr with hr | hr
      · rcases List.mem_append.mp hxn with hxn | hxn
        · exact h.not r bs hr (fun z => hn (List.mem_append_left _ z)) x hx hxn
        · rw [List.mem_singleton.mp hxn] at hx
          exact later r bs hr hx
      · have : (r, bs) = (c, as) := by simpa using hr
        cases this
        exact absurd (by simp) hn
    · have hB' : ∀ x ∈ v.1, x ∉ B := fun x hx => hB x (List.mem_append_left _ hx)
      rcases List.mem_append.mp hx with hx | hx
      · exact h.rch B hB' x hx
      · rw [List.mem_singleton.mp hx]
        obtain ⟨y, h2, h3⟩ := met_iff.mp hm
        exact .call (Ord.mem e) (hB c (by simp)) h2 (h.rch B hB' y h3)
theorem winv_all (o : Ord cs ed) (forced : Bool) : ∀ w ∈ worldsOf cs ed forced, WInv cs ed cs w := by
  unfold worldsOf
  refine fold_inv (cs := cs) (fun ps ws => ∀ w ∈ ws, WInv cs ed ps w) (fun ps c as rest ws e h w hw => ?_) cs [] _ rfl (fun w hw => ?_)
  · obtain ⟨v, hv, hw⟩ := mem_step.mp hw
    exact winv_step o e (h v hv) hw
  · obtain ⟨v, hv, h1, h2⟩ := ed_sub ed forced _ w hw
    have : v = ([], []) := by simpa using hv
    subst this
    have hed : ∀ x ∈ w.1, x ∈ ed := fun x hx => (h1 x hx).elim (fun z => by cases z) id
    exact ⟨fun x hx => .inl (hed x hx), fun r hr => absurd hr (by rw [h2]; exact List.not_mem_nil), fun r as hr => absurd hr List.not_mem_nil, fun B hB x hx => .src (hed x hx) (hB x hx)⟩
end
section
variable {cs : Gr} {ed : List Str}
/-- the arguments of a name -/
def argsOf (cs : Gr) (r : Str) : List Str := ((cs.find? fun q => decide (q.1 = r)).map (·.2)).getD []
theorem argsOf_mem (nd : (cs.map (·.1)).Nodup) {r : Str} {as : List Str} (h : (r, as) ∈ cs) : argsOf cs r = as := by
  unfold argsOf
  induction cs with
  | nil => cases h
  | cons q l ih =>
    rw [List.map_cons, List.nodup_cons] at nd
    by_cases e : q.1 = r
    · rw [List.find?_cons_of_pos (by simp [e])]
      rcases List.mem_cons.mp h with h | h
      · subst h; rfl
      · exact absurd (List.mem_map_of_mem (f := (·.1)) h) (by rw [← e]; exact nd.1)
    · rw [List.find?_cons_of_neg (by simp [e])]
      rcases List.mem_cons.mp h with h | h
      · subst h; exact absurd rfl e
      · exact ih nd.2 h
def wantW (cs : Gr) (c : Str) (w : Wd) : Bool := decide (c ∉ w.2) && w.2.any fun r => decide (c ∈ argsOf cs r)
/-- Reach does not leave ed and the keys -/
theorem Reach.dom {B : List Str} {x : Str} (h : Reach cs ed B x) : x ∈ ed ∨ ∃ as, (x, as) ∈ cs ∧ ∃ y ∈ as, Reach cs ed B y := by
  cases h with
  | src h _ => exact .inl h
  | call h _ hx r => exact .inr ⟨_, h, _, hx, r⟩
theorem Reach.nb {B : List Str} {x : Str} (h : Reach cs ed B x) : x ∉ B := by
  cases h with
  | src _ b => exact b
  | call _ b _ _ => exact b
/-- the world in which all that is reached (and only that) is new -/
theorem full_world (o : Ord cs ed) (forced : Bool) (B : List Str) (hB : forced = true → ∀ x ∈ ed, x ∉ B) : ∃ w ∈ worldsOf cs ed forced, (∀ x, x ∈ w.1 ↔ Reach cs ed B x) ∧ (∀ r as, (r, as) ∈ cs → (r ∈ w.2 ↔ ∃ x ∈ as, Reach cs ed B x)) ∧ w.2.length = (cs.filter fun p => @decide _ (Classical.propDecidable (∃ x ∈ p.2, Reach cs ed B x))).length := by
  have key := fold_inv (cs := cs) (fun ps ws => ∃ w ∈ ws, (∀ x, x ∈ w.1 ↔ Reach cs ed B x ∧ (x ∈ ed ∨ x ∈ ps.map (·.1))) ∧ (∀ r as, (r, as) ∈ ps → (r ∈ w.2 ↔ ∃ x ∈ as, Reach cs ed B x)) ∧ (∀ r ∈ w.2, r ∈ ps.map (·.1)) ∧
      w.2.length = (ps.filter fun p => @decide _ (Classical.propDecidable (∃ x ∈ p.2, Reach cs ed B x))).length) (fun ps c as rest ws e ⟨v, hv, h1, h2, h3, h4⟩ => ?_) cs [] (ed.foldl (edStep forced) [([], [])]) rfl ?_
  · obtain ⟨w, hw, h1, h2, _, h4⟩ := key
    refine ⟨w, hw, fun x => ⟨fun h => ((h1 x).mp h).1, fun h => (h1 x).mpr ⟨h, ?_⟩⟩, h2, h4⟩
    rcases h.dom with h | ⟨as, h, _⟩
    · exact .inl h
    · exact .inr (List.mem_map.mpr ⟨_, h, rfl⟩)
  · have fr := o.fresh e
    have hm : metB as v = true ↔ ∃ x ∈ as, Reach cs ed B x := by
      rw [met_iff]
      refine ⟨fun ⟨x, hx, hn⟩ => ⟨x, hx, ((h1 x).mp hn).1⟩, fun ⟨x, hx, hr⟩ => ⟨x, hx, (h1 x).mpr ⟨hr, ?_⟩⟩⟩
      rcases hr.dom with h | ⟨bs, h, _⟩
      · exact .inl h
      · exact .inr (o.ord ps c as rest e x hx (List.mem_map.mpr ⟨_, h, rfl⟩))
    have crun : c ∉ v.2 := fun z => fr (h3 c z)
    have ced : c ∉ ed := fun z => o.noed c z (List.mem_map.mpr ⟨_, Ord.mem e, rfl⟩)
    have hlen : ((ps ++ [(c, as)]).filter fun p => @decide _ (Classical.propDecidable (∃ x ∈ p.2, Reach cs ed B x))).length = v.2.length + (if metB as v = true then 1 else 0) := by
      rw [List.filter_append, List.length_append, ← h4]
      congr 1
      by_cases hx : metB as v = true
      · rw [if_pos hx, List.filter_cons_of_pos (by simpa using hm.mp hx)]; rfl
      · rw [if_neg hx, List.filter_cons_of_neg (by simpa using fun z => hx (hm.mpr z))]; rfl
    by_cases hx : metB as v = true
    · by_cases hc : c ∈ B
      · refine ⟨(v.1, v.2 ++ [c]), mem_step.mpr ⟨v, hv, .inr ⟨hx, .inl rfl⟩⟩, fun x => ?_, fun r bs hr => ?_, fun r hr => ?_, by rw [hlen, if_pos hx]; simp⟩
        · rw [h1]
          refine ⟨fun ⟨a, b⟩ => ⟨a, b.imp id fun z => by simp only [List.map_append, List.mem_append]; exact .inl z⟩, fun ⟨a, b⟩ => ⟨a, b.imp id fun z => ?_⟩⟩
          rw [List.map_append, List.mem_append] at z
          rcases z with z | z
          · exact z
          · rw [show x = c by simpa using z] at a
            exact absurd hc a.nb
        · rcases List.mem_append.mp hr with hr | hr
          · rw [← h2 r bs hr, List.mem_append]
            refine ⟨fun z => z.elim id fun z => ?_, .inl⟩
            rw [List.mem_singleton.mp z] at hr
            exact absurd (List.mem_map.mpr ⟨_, hr, rfl⟩) fr
          · have : (r, bs) = (c, as) := by simpa using hr
            cases this
            exact ⟨fun _ => hm.mp hx, fun _ => by simp⟩
        · rcases List.mem_append.mp hr with hr | hr
          · simp only [List.map_append, List.mem_append]; exact .inl (h3 r hr)
          · rw [List.mem_singleton.mp hr]; simp
      · have hrc : Reach cs ed B c := by
          obtain ⟨x, h, hr⟩ := hm.mp hx
          exact .call (Ord.mem e) hc h hr
        refine ⟨(v.1 ++ [c], v.2 ++ [c]), mem_step.mpr ⟨v, hv, .inr ⟨hx, .inr rfl⟩⟩, fun x => ?_, fun r bs hr => ?_, fun r hr => ?_, by rw [hlen, if_pos hx]; simp⟩
        · rw [List.mem_append, h1]
          refine ⟨fun z => z.elim (fun ⟨a, b⟩ => ⟨a, b.imp id fun z => by simp only [List.map_append, List.mem_append]; exact .inl z⟩) fun z => ?_, fun ⟨a, b⟩ => ?_⟩
          · rw [List.mem_singleton.mp z]
            exact ⟨hrc, .inr (by simp)⟩
          · rw [List.map_append, List.mem_append] at b
            rcases b with b | b | b
            · exact .inl ⟨a, .inl b⟩
            · exact .inl ⟨a, .inr b⟩
            · exact .inr b
        · rcases List.mem_append.mp hr with hr | hr
          · rw [← h2 r bs hr, List.mem_append]
            refine ⟨fun z => z.elim id fun z => ?_, .inl⟩
            rw [List.mem_singleton.mp z] at hr
            exact absurd (List.mem_map.mpr ⟨_, hr, rfl⟩) fr
          · have : (r, bs) = (c, as) := by simpa using hr
            cases this
            exact ⟨fun _ => hm.mp hx, fun _ => by simp⟩
        · rcases List.mem_append.mp hr with hr | hr
          · simp only [List.map_append, List.mem_append]; exact .inl (h3 r hr)
          · rw [List.mem_singleton.mp hr]; simp
    · have hx' : metB as v = false := by simpa using hx
      have hno : ¬ ∃ x ∈ as, Reach cs ed B x := fun z => hx (hm.mpr z)
      refine ⟨v, mem_step.mpr ⟨v, hv, .inl ⟨hx', rfl⟩⟩, fun x => ?_, fun r bs hr => ?_, fun r hr => ?_, by rw [hlen, if_neg hx]; rfl⟩
      · rw [h1]
        refine ⟨fun ⟨a, b⟩ => ⟨a, b.imp id fun z => by simp only [List.map_append, List.mem_append]; exact .inl z⟩, fun ⟨a, b⟩ => ⟨a, b.imp id fun z => ?_⟩⟩
        rw [List.map_append, List.mem_append] at z
        rcases z with z | z
        · exact z
        · rw [show x = c by simpa using z] at a
          rcases a.dom with h | ⟨bs, h, hy⟩
          · exact absurd h ced
          · rw [key_fun o.nd h (Ord.mem e)] at hy
            exact absurd hy hno
      · rcases List.mem_append.mp hr with hr | hr
        · exact h2 r bs hr
        · have : (r, bs) = (c, as) := by simpa using hr
          cases this
          exact ⟨fun z => absurd z crun, fun z => absurd z hno⟩
      · simp only [List.map_append, List.mem_append]; exact .inl (h3 r hr)
  · refine ⟨_, ed_has ed forced (fun x => decide (x ∉ B)) (fun z x hx => by simpa using hB z x hx) [([], [])] ([], []) (by simp), fun x => ?_, fun r as h => absurd h List.not_mem_nil, fun r h => absurd h List.not_mem_nil, rfl⟩
    rw [List.nil_append, List.mem_filter]
    refine ⟨fun ⟨a, b⟩ => ⟨.src a (by simpa using b), .inl a⟩, fun ⟨a, b⟩ => ⟨b.resolve_right (by simp), by simpa using a.nb⟩⟩
/-- A: what must be kept is what some world wants -/
theorem must_iff (o : Ord cs ed) {c : Str} (hc : c ∈ cs.map (·.1)) : ((worldsOf cs ed false).any (wantW cs c) = true) ↔ MustKeep cs ed c := by
  obtain ⟨⟨c', as⟩, hm, e⟩ := List.mem_map.mp hc
  have e' : c' = c := e
  subst e'
  constructor
  · intro h
    obtain ⟨w, hw, hx⟩ := List.any_eq_true.mp h
    unfold wantW at hx
    rw [Bool.and_eq_true] at hx
    have hn : c' ∉ w.2 := of_decide_eq_true hx.1
    obtain ⟨r, hr, hcr⟩ := List.any_eq_true.mp hx.2
    have iw := winv_all o false w hw
    obtain ⟨bs, hrb, x, hxb, hxn⟩ := iw.run r hr
    rw [argsOf_mem o.nd hrb] at hcr
    refine ⟨as, hm, r, bs, hrb, of_decide_eq_true hcr, x, hxb, iw.rch (c' :: as) (fun y hy hyb => ?_) x hxn⟩
    rcases List.mem_cons.mp hyb with z | z
    · subst z
      rcases iw.new y hy with h | h
      · exact o.noed y h hc
      · exact hn h
    · exact iw.not c' as hm hn y z hy
  · rintro ⟨as2, hm2, r, bs, hrb, hcb, x, hxb, hr⟩
    rw [key_fun o.nd hm2 hm] at hr
    obtain ⟨w, hw, h1, h2, _⟩ := full_world o false (c' :: as) (fun z => by cases z)
    refine List.any_eq_true.mpr ⟨w, hw, ?_⟩
    unfold wantW
    rw [Bool.and_eq_true]
    refine ⟨decide_eq_true fun z => ?_, List.any_eq_true.mpr ⟨r, (h2 r bs hrb).mpr ⟨x, hxb, hr⟩, ?_⟩⟩
    · obtain ⟨y, hy, hyr⟩ := (h2 c' as hm).mp z
      exact hyr.nb (by simp [hy])
    · rw [argsOf_mem o.nd hrb]
      exact decide_eq_true hcb
end
section
variable {cs : Gr} {ed : List Str}
theorem filter_snoc {α : Type} (p : α → Bool) (l : List α) (x : α) : ((l ++ [x]).filter p).length = (l.filter p).length + (if p x = true then 1 else 0) := by
  rw [List.filter_append, List.length_append]
  congr 1
  by_cases h : p x = true
  · rw [if_pos h, List.filter_cons_of_pos h]; rfl
  · rw [if_neg h, List.filter_cons_of_neg h]; rfl
theorem least_all : (∀ w ∈ worldsOf cs ed true, leastOf cs ed ≤ w.2.length) ∧ ∃ w ∈ worldsOf cs ed true, w.2.length = leastOf cs ed := by
  have key := fold_inv (cs := cs) (fun ps ws => (∀ w ∈ ws, (∀ x ∈ ed, x ∈ w.1) ∧ (ps.filter fun p => p.2.any fun x => decide (x ∈ ed)).length ≤ w.2.length) ∧
      ∃ w ∈ ws, w.1 = ed ∧ w.2.length = (ps.filter fun p => p.2.any fun x => decide (x ∈ ed)).length) (fun ps c as rest ws e ⟨h1, v, hv, h2, h3⟩ => ?_) cs [] (ed.foldl (edStep true) [([], [])]) rfl ?_
  · exact ⟨fun w hw => (key.1 w hw).2, key.2.imp fun w h => ⟨h.1, h.2.2⟩⟩
  · refine ⟨fun w hw => ?_, ?_⟩
    · obtain ⟨u, hu, hw⟩ := mem_step.mp hw
      obtain ⟨i1, i2⟩ := h1 u hu
      rw [filter_snoc]
      have grow : (if (as.any fun x => decide (x ∈ ed)) = true then 1 else 0) ≤ (if metB as u = true then 1 else 0) := by
        by_cases h : (as.any fun x => decide (x ∈ ed)) = true
        · have : metB as u = true := by
            obtain ⟨x, hx, hd⟩ := List.any_eq_true.mp h
            exact met_iff.mpr ⟨x, hx, i1 x (of_decide_eq_true hd)⟩
          rw [if_pos this]; split <;> omega
        · rw [if_neg h]; omega
      rcases hw with ⟨hm, rfl⟩ | ⟨hm, rfl | rfl⟩
      · rw [hm, if_neg Bool.false_ne_true] at grow
        exact ⟨i1, by show _ + (if (as.any fun x => decide (x ∈ ed)) = true then 1 else 0) ≤ _; omega⟩
      · rw [if_pos hm] at grow
        exact ⟨i1, by simp only [List.length_append, List.length_cons, List.length_nil]; omega⟩
      · rw [if_pos hm] at grow
        exact ⟨fun x hx => List.mem_append_left _ (i1 x hx), by simp only [List.length_append, List.length_cons, List.length_nil]; omega⟩
    · have hm : metB as v = as.any fun x => decide (x ∈ ed) := by unfold metB; rw [h2]
      rw [filter_snoc]
      cases hb : metB as v with
      | true =>
        refine ⟨(v.1, v.2 ++ [c]), mem_step.mpr ⟨v, hv, .inr ⟨hb, .inl rfl⟩⟩, h2, ?_⟩
        rw [hb] at hm
        simp only [← hm, List.length_append, List.length_cons, List.length_nil, h3]
        rfl
      | false =>
        refine ⟨v, mem_step.mpr ⟨v, hv, .inl ⟨hb, rfl⟩⟩, h2, ?_⟩
        rw [hb] at hm
        simp only [← hm, h3]
        rfl
  · have all := ed_forced ed [([], [])] (by simp)
    have has := ed_has ed true (fun _ => true) (fun _ _ _ => rfl) [([], [])] ([], []) (by simp)
    refine ⟨fun w hw => ?_, _, has, by simp, rfl⟩
    obtain ⟨v, hv, e⟩ := all w hw
    have : v = ([], []) := by simpa using hv
    subst this; subst e
    exact ⟨fun x hx => by simpa using hx, Nat.zero_le _⟩
theorem most_eq (o : Ord cs ed) : mostOf cs ed = (cs.filter fun p => @decide _ (Classical.propDecidable (∃ x ∈ p.2, Reach cs ed [] x))).length := by
  unfold mostOf
  rw [List.filter_map, List.length_map]
  congr 1
  refine List.filter_congr fun p hp => ?_
  have : Reach cs ed [] p.1 ↔ ∃ x ∈ p.2, Reach cs ed [] x := by
    refine ⟨fun h => ?_, fun ⟨x, hx, hr⟩ => .call (c := p.1) (as := p.2) hp (by simp) hx hr⟩
    rcases h.dom with h | ⟨as, h, hy⟩
    · exact absurd (List.mem_map.mpr ⟨p, hp, rfl⟩) (o.noed _ h)
    · rw [key_fun o.nd h (as := as) (bs := p.2) hp] at hy
      exact hy
  simp only [Function.comp]
  by_cases h : Reach cs ed [] p.1
  · rw [@decide_eq_true _ (Classical.propDecidable _) h, @decide_eq_true _ (Classical.propDecidable _) (this.mp h)]
  · rw [@decide_eq_false _ (Classical.propDecidable _) h, @decide_eq_false _ (Classical.propDecidable _) fun z => h (this.mpr z)]
theorem most_all (o : Ord cs ed) : (∀ w ∈ worldsOf cs ed true, w.2.length ≤ mostOf cs ed) ∧ ∃ w ∈ worldsOf cs ed true, w.2.length = mostOf cs ed := by
  rw [most_eq o]
  refine ⟨?_, ?_⟩
  · have key := fold_inv (cs := cs) (fun ps ws => ∀ w ∈ ws, (∀ x ∈ w.1, Reach cs ed [] x) ∧ w.2.length ≤ (ps.filter fun p => @decide _ (Classical.propDecidable (∃ x ∈ p.2, Reach cs ed [] x))).length)
      (fun ps c as rest ws e h w hw => ?_) cs [] (ed.foldl (edStep true) [([], [])]) rfl (fun w hw => ?_)
    · exact fun w hw => (key w hw).2
    · obtain ⟨u, hu, hw⟩ := mem_step.mp hw
      obtain ⟨i1, i2⟩ := h u hu
      rw [filter_snoc]
      rcases hw with ⟨hm, rfl⟩ | ⟨hm, hw⟩
      · exact ⟨i1, Nat.le_trans i2 (Nat.le_add_right _ _)⟩
      · obtain ⟨x, hx, hn⟩ := met_iff.mp hm
        have hr : ∃ x ∈ as, Reach cs ed [] x := ⟨x, hx, i1 x hn⟩
        rw [if_pos (@decide_eq_true _ (Classical.propDecidable _) hr)]
        rcases hw with rfl | rfl
        · exact ⟨i1, by simp only [List.length_append, List.length_cons, List.length_nil]; omega⟩
        · refine ⟨fun y hy => ?_, by simp only [List.length_append, List.length_cons, List.length_nil]; omega⟩
          rcases List.mem_append.mp hy with hy | hy
          · exact i1 y hy
          · rw [List.mem_singleton.mp hy]
            exact .call (Ord.mem e) (by simp) hx (i1 x hn)
    · obtain ⟨v, hv, h1, h2⟩ := ed_sub ed true _ w hw
      have : v = ([], []) := by simpa using hv
      subst this
      exact ⟨fun x hx => .src ((h1 x hx).elim (fun z => absurd z List.not_mem_nil) id) (by simp), by rw [h2]; exact Nat.zero_le _⟩
  · obtain ⟨w, hw, _, _, h⟩ := full_world o true [] (fun _ _ _ => by simp)
    exact ⟨w, hw, h⟩
end
end WL


set_option Elab.async false
set_option linter.all false
set_option maxRecDepth 100000
set_option maxHeartbeats 4000000
/-! HV: the helpers that the laws share: what they promise, and that they keep it. -/
namespace WL
open PySem PySem.Spec PyProof.Rows L2
/-! sorted texts are one list -/
theorem rising_le : ∀ (l : List Str) (p : Str), risingS p l = true → ∀ y ∈ l, p.cps.toList ≤ y.cps.toList
  | [], _, _, y, hy => by cases hy
  | x :: r, p, h, y, hy => by
    have h' : (!ltCps x.cps.toList p.cps.toList && risingS x r) = true := h
    rw [Bool.and_eq_true, ltCps_eq] at h'
    have h1 : p.cps.toList ≤ x.cps.toList := by simpa using h'.1
    rcases List.mem_cons.mp hy with e | hy
    · subst e; exact h1
    · exact List.le_trans h1 (rising_le r x h'.2 y hy)
theorem sorted_pw : ∀ (l : List Str), sortedS l = true → l.Pairwise fun a b => a.cps.toList ≤ b.cps.toList
  | [], _ => .nil
  | x :: r, h => by
    refine List.pairwise_cons.mpr ⟨rising_le r x h, sorted_pw r ?_⟩
    cases r with
    | nil => rfl
    | cons y s =>
      have h' : (!ltCps y.cps.toList x.cps.toList && risingS y s) = true := h
      rw [Bool.and_eq_true] at h'
      exact h'.2
theorem str_ext {a b : Str} (h : a.cps.toList = b.cps.toList) : a = b := by rw [← SX.S_tl a, ← SX.S_tl b, h]
theorem sorted_one {ys zs : List Str} (p : ys.Perm zs) (hy : sortedS ys = true) (hz : sortedS zs = true) : ys = zs :=
  p.eq_of_pairwise (fun a b _ _ h1 h2 => str_ext (List.le_antisymm h1 h2)) (sorted_pw ys hy) (sorted_pw zs hz)
theorem perm_keep {cs ms : Gr} (p : ms.Perm cs) (ed asked : List Str) : (keepOf ms ed asked).Perm (keepOf cs ed asked) := by
  have hr : ∀ B x, Reach ms ed B x ↔ Reach cs ed B x := fun B x => by
    constructor
    · intro h
      induction h with
      | src h b => exact .src h b
      | call h b hx _ ih => exact .call (p.mem_iff.mp h) b hx ih
    · intro h
      induction h with
      | src h b => exact .src h b
      | call h b hx _ ih => exact .call (p.mem_iff.mpr h) b hx ih
  have hk : ∀ c, MustKeep ms ed c ↔ MustKeep cs ed c := fun c => by
    unfold MustKeep
    constructor
    · rintro ⟨as, h1, r, bs, h2, h3, x, h4, h5⟩
      exact ⟨as, p.mem_iff.mp h1, r, bs, p.mem_iff.mp h2, h3, x, h4, (hr _ _).mp h5⟩
    · rintro ⟨as, h1, r, bs, h2, h3, x, h4, h5⟩
      exact ⟨as, p.mem_iff.mpr h1, r, bs, p.mem_iff.mpr h2, h3, x, h4, (hr _ _).mpr h5⟩
  unfold keepOf
  have e : (fun c => @decide _ (Classical.propDecidable (c ∈ asked ∨ MustKeep ms ed c))) = fun c => @decide _ (Classical.propDecidable (c ∈ asked ∨ MustKeep cs ed c)) := by
    funext c
    have : (c ∈ asked ∨ MustKeep ms ed c) = (c ∈ asked ∨ MustKeep cs ed c) := by rw [propext (hk c)]
    congr
  rw [e]
  exact (p.map (·.1)).filter _
theorem perm_reach {cs ms : Gr} (p : ms.Perm cs) (ed B : List Str) (x : Str) : Reach ms ed B x ↔ Reach cs ed B x := by
  constructor
  · intro h
    induction h with
    | src h b => exact .src h b
    | call h b hx _ ih => exact .call (p.mem_iff.mp h) b hx ih
  · intro h
    induction h with
    | src h b => exact .src h b
    | call h b hx _ ih => exact .call (p.mem_iff.mpr h) b hx ih
theorem perm_least {cs ms : Gr} (p : ms.Perm cs) (ed : List Str) : leastOf ms ed = leastOf cs ed := (p.filter _).length_eq
theorem perm_most {cs ms : Gr} (p : ms.Perm cs) (ed : List Str) : mostOf ms ed = mostOf cs ed := by
  unfold mostOf
  have e : (fun c => @decide _ (Classical.propDecidable (Reach ms ed [] c))) = fun c => @decide _ (Classical.propDecidable (Reach cs ed [] c)) := by
    funext c
    have : Reach ms ed [] c = Reach cs ed [] c := propext (perm_reach p ed [] c)
    congr
  rw [e]
  exact ((p.map (·.1)).filter _).length_eq
theorem least_nil (cs : Gr) : leastOf cs [] = 0 := by
  unfold leastOf
  rw [List.length_eq_zero_iff, List.filter_eq_nil_iff]
  intro p _; simp
theorem reach_nil {cs : Gr} {B : List Str} {x : Str} (h : Reach cs [] B x) : False := by
  induction h with
  | src h _ => cases h
  | call _ _ _ _ ih => exact ih
theorem most_nil (cs : Gr) : mostOf cs [] = 0 := by
  unfold mostOf
  rw [List.length_eq_zero_iff, List.filter_eq_nil_iff]
  intro p _
  simpa using fun h => reach_nil h
theorem perm_ok {cs ms : Gr} (p : ms.Perm cs) (h : GOk cs) : GOk ms := ⟨(p.map (·.1)).nodup_iff.mpr h.nd, by rw [p.length_eq]; exact h.len, fun q hq => h.args q (p.mem_iff.mp hq)⟩
theorem ord_of {cs : Gr} {srcs ed : List Str} (h : GraphOk cs srcs) (he : ∀ x ∈ ed, x ∈ srcs) : Ord cs ed := by
  have no : ∀ x ∈ srcs, x ∉ cs.map (·.1) := fun x hx hk => not_marked (h.keys.pl x hk) (h.src.mrk x hx)
  refine ⟨h.keys.nd, fun x hx => no x (he x hx), fun ps c as rest e x hx hk => ?_⟩
  have := (h.args ps.length c as (by rw [e]; simp)).2.2 x hx
  rcases this with h1 | h1
  · exact absurd hk (no x h1)
  · rw [e, List.take_left] at h1
    exact h1
/-- dicts of the same entries -/
theorem toPy_S (as : List Str) : toPy (encS as) = some (.list (as.map PyData.str)) := by
  have : ∀ as : List Str, toPys (as.map D.str) = some (as.map PyData.str) := by
    intro as
    induction as with
    | nil => rfl
    | cons x r ih => rw [List.map_cons]; unfold toPys; rw [ih]; rfl
  unfold encS toPy
  rw [this]; rfl
theorem lay_S {as : List Str} (h : ∀ x ∈ as, PyData.strOk x = true) : PyData.canLayAll0 (as.map PyData.str) = true := by
  induction as with
  | nil => rfl
  | cons x r ih => rw [List.map_cons]; simp [PyData.canLayAll0, PyData.canLay0, ih fun y hy => h y (List.mem_cons_of_mem _ hy), h x (by simp)]
theorem depth_S (as : List Str) : (PyData.list (as.map PyData.str)).depth ≤ 2 := by
  have : PyData.depthAll (as.map PyData.str) ≤ 1 := by
    induction as with
    | nil => exact Nat.zero_le _
    | cons x r ih =>
      rw [List.map_cons]
      unfold PyData.depthAll
      exact Nat.max_le.mpr ⟨by simp [PyData.depth], ih⟩
  unfold PyData.depth
  omega
theorem shaped_S {as : List Str} (h : ∀ x ∈ as, PyData.strOk x = true) : SeqAt.shaped (PyData.list (as.map PyData.str)) = true := by
  unfold SeqAt.shaped
  have h1 : (PyData.list (as.map PyData.str)).canLay0 = true := by simp only [PyData.canLay0]; exact lay_S h
  rw [h1, decide_eq_true (Nat.le_trans (depth_S as) (by decide))]; rfl
theorem hits_same {cs : Gr} (nd : (cs.map (·.1)).Nodup) (ok : ∀ p ∈ cs, ∀ x ∈ p.2, PyData.strOk x = true) : ∀ {ms : Gr}, (∀ p ∈ ms, p ∈ cs) → HitsE (cs.map fun p => ((Sum.inr p.1 : Key), encS p.2)) (ms.map fun p => ((Sum.inr p.1 : Key), encS p.2)) true
  | [], _ => .nil
  | (c, as) :: r, hp => by
    have h : ∀ x ∈ as, PyData.strOk x = true := ok (c, as) (hp _ (by simp))
    have e : PyData.eqv (.list (as.map PyData.str)) (.list (as.map PyData.str)) = true := SeqAt.eqv_refl _ (by simp only [PyData.canLay0]; exact lay_S h)
    have := HitsE.hit (v := encS as) (look_gr nd (hp (c, as) (by simp))) (toPy_S as) (toPy_S as) (shaped_S h) (shaped_S h) (Nat.le_trans (depth_S as) (by decide)) (hits_same nd ok fun p hq => hp p (List.mem_cons_of_mem _ hq))
    rw [e] at this
    exact this
theorem pairs_S : ∀ ms : Gr, pairsD (ms.map fun p => D.tup [.str p.1, encS p.2]) = some (ms.map fun p => ((Sum.inr p.1 : Key), encS p.2))
  | [] => rfl
  | p :: r => by rw [List.map_cons]; unfold pairsD; rw [pairs_S r]; rfl
theorem merge_new : ∀ {ms : Gr} {ks : Gr}, ((ks ++ ms).map (·.1)).Nodup → mergeD (ks.map fun p => ((Sum.inr p.1 : Key), encS p.2)) (ms.map fun p => ((Sum.inr p.1 : Key), encS p.2)) = (ks ++ ms).map fun p => ((Sum.inr p.1 : Key), encS p.2)
  | [], ks, _ => by rw [List.append_nil]; rfl
  | p :: r, ks, nd => by
    rw [List.map_cons]
    unfold mergeD
    rw [List.foldl_cons]
    have hn : ∀ kv ∈ ks.map fun p => ((Sum.inr p.1 : Key), encS p.2), kv.1 ≠ Sum.inr p.1 := fun kv hkv e => by
      obtain ⟨q, hq, rfl⟩ := List.mem_map.mp hkv
      injection e with e
      rw [List.map_append, List.nodup_append] at nd
      exact nd.2.2 q.1 (List.mem_map.mpr ⟨q, hq, rfl⟩) p.1 (by simp) e
    have ih := merge_new (ms := r) (ks := ks ++ [p]) (by rw [List.append_assoc]; exact nd)
    unfold mergeD at ih
    rw [putD_new hn]
    rw [List.append_assoc, List.map_append] at ih
    exact ih
end WL


set_option Elab.async false
set_option linter.all false
set_option maxRecDepth 100000
set_option maxHeartbeats 4000000
/-! HV: the helpers that the laws share: what they promise, and that they keep it. -/
namespace WL
open PySem PySem.Spec PyProof.Rows L2
local macro_rules | `(tactic| walk_at "s") => `(tactic| first
  | ((with_reducible show vSeq _ _ _ _); refine u_seq ?_)
  | ((with_reducible show vSet _ _ _ _); refine u_set ?_)
  | ((with_reducible show kSet _ _ _ _); refine k_set rfl rfl ?_)
  | ((with_reducible show vRet _ _ _); refine u_ret ?_)
  | ((with_reducible show vIf _ _ _ _ _); refine u_if ?_)
  | ((with_reducible show vExpr _ _ _); refine u_expr ?_)
  | ((with_reducible show kExpr _ _ _); refine k_expr ?_)
  | ((with_reducible show vRetN _ _); refine u_retN ?_)
  | ((with_reducible show vAsg _ _ _ _); refine u_asg ?_)
  | ((with_reducible show kAsg _ _ _ _); refine k_asg rfl ?_)
  | ((with_reducible show vNext _ _); refine u_next ?_)
  | ((with_reducible show vBreak _ _); refine u_break ?_)
  | ((with_reducible show vCont _ _); refine u_cont ?_)
  | ((with_reducible show kIf _ _ _ _ _); (first | refine k_ifT ?_ | refine k_ifF ?_))
  | ((with_reducible show vVal _ _ _); refine u_val ?_)
  | ((with_reducible show kVal _ _ _); refine k_val ?_)
  | ((with_reducible show vPk _ _ _); refine u_pk rfl rfl ?_)
  | ((with_reducible show vC _ _ _); refine u_c ?_)
  | ((with_reducible show vVar _ _ _); (first | refine u_var rfl ?_ | refine u_varL rfl ?_ | refine u_varD rfl ?_ | refine u_varE rfl ?_))
  | ((with_reducible show vMv _ _ _); (first | refine u_mv rfl ?_ | refine u_mvO rfl ?_))
  | ((with_reducible show vBin _ _ _ _ _); refine u_bin ?_)
  | ((with_reducible show kBin1 _ _ _ _ _); refine k_bin1 ?_)
  | ((with_reducible show kBin2 _ _ _ _ _); refine k_bin2 rfl rfl ?_)
  | ((with_reducible show vUn _ _ _ _); refine u_un ?_)
  | ((with_reducible show kUn _ _ _ _); refine k_un rfl ?_)
  | ((with_reducible show vCons _ _ _ _); refine u_cons ?_)
  | ((with_reducible show kCons1 _ _ _ _); refine k_cons1 ?_)
  | ((with_reducible show vNil _ _); refine u_nil ?_)
  | ((with_reducible show kCons2 _ _ _ _); refine k_cons2 ?_)
  | ((with_reducible show vPrim _ _ _ _); refine u_prim ?_)
  | ((with_reducible show kPrim _ _ _ _); (first | refine k_prim1 rfl ?_ | refine k_prim2 rfl rfl ?_))
  | ((with_reducible show kRet _ _ _); (first | refine k_retV ?_ | refine k_retL ?_ | refine k_retT ?_ | refine k_retD ?_))
  | ((with_reducible show vSh _ _ _); refine u_sh ?_)
  | ((with_reducible show kSh _ _ _); (first | refine k_sh ?_ | refine k_shL ?_ | refine k_shD ?_))
  | ((with_reducible show vT _ _ _); refine u_t ?_)
  | ((with_reducible show kT _ _ _); refine k_t ?_)
  | ((with_reducible show vTru _ _ _); refine u_tru ?_)
  | ((with_reducible show kTru _ _ _); refine k_tru rfl rfl ?_)
  | ((with_reducible show vAnd _ _ _ _); refine u_and ?_)
  | ((with_reducible show kAnd _ _ _ _); (first | refine k_andT ?_ | refine k_andF ?_))
  | ((with_reducible show vOr _ _ _ _); refine u_or ?_)
  | ((with_reducible show kOr _ _ _ _); (first | refine k_orT ?_ | refine k_orF ?_))
  | ((with_reducible show vNot _ _ _); refine u_not ?_)
  | ((with_reducible show kNot _ _ _); refine k_not ?_)
  | ((with_reducible show vAndV _ _ _ _); refine u_andV ?_)
  | ((with_reducible show kAndV _ _ _ _); (first | refine k_andVT ?_ | refine k_andVF ?_))
  | ((with_reducible show kOrV _ _ _ _); (first | refine k_orVT ?_ | refine k_orVF ?_))
  | ((with_reducible show vOrV _ _ _ _); refine u_orV ?_)
  | ((with_reducible show vNotV _ _ _); refine u_notV ?_)
  | ((with_reducible show kNotV _ _ _); refine k_notV ?_)
  | ((with_reducible show vIfE _ _ _ _ _); refine u_ifE ?_)
  | ((with_reducible show kIfE _ _ _ _ _); (first | refine k_ifET ?_ | refine k_ifEF ?_))
  | ((with_reducible show vLst _ _ _); refine u_lst ?_)
  | ((with_reducible show kLst _ _ _); refine k_lst rfl (by simp only [List.length_cons, List.length_nil]; decide) ?_)
  | ((with_reducible show vTup _ _ _); refine u_tup ?_)
  | ((with_reducible show kTup _ _ _); refine k_tup rfl (by simp only [List.length_cons, List.length_nil]; decide) ?_)
  | ((with_reducible show vNewD _ _); refine u_newD ?_)
  | ((with_reducible show vSl _ _ _ _ _); refine u_sl ?_)
  | ((with_reducible show kSl0 _ _ _ _ _); refine k_sl0 ?_)
  | ((with_reducible show kSl1 _ _ _ _ _); refine k_sl1 ?_)
  | ((with_reducible show kSl2 _ _ _ _ _); refine k_sl2 rfl ?_)
  | ((with_reducible show vNoPart _ _); refine u_noPart ?_)
  | ((with_reducible show vPart _ _ _); refine u_part ?_)
  | ((with_reducible show kPart _ _ _); refine k_part ?_)
  | ((with_reducible show vApp _ _ _ _); refine u_app rfl ?_)
  | ((with_reducible show vPopAt _ _ _ _); refine u_popAt rfl ?_)
  | ((with_reducible show vExt _ _ _ _); refine u_ext rfl ?_)
  | ((with_reducible show vM1 _ _ _ _ _); refine u_m1 ?_)
  | ((with_reducible show kM1a _ _ _ _ _); refine k_m1a rfl ?_)
  | ((with_reducible show kM1b _ _ _ _ _); refine k_m1b rfl rfl ?_)
  | ((with_reducible show vGet2 _ _ _ _ _); refine u_get2 ?_)
  | ((with_reducible show kGet1 _ _ _ _ _); refine k_get1 rfl ?_)
  | ((with_reducible show kGet2 _ _ _ _ _); refine k_get2 ?_)
  | ((with_reducible show vSetL _ _ _ _ _); refine u_setL ?_)
  | ((with_reducible show kSetL1 _ _ _ _ _); refine k_setL1 rfl ?_)
  | ((with_reducible show kSetL2 _ _ _ _ _); (first | refine k_setL2j 0 rfl rfl (by simp) rfl ?_ | refine k_setL2j 1 rfl rfl (by simp) rfl ?_ | refine k_setL2j 2 rfl rfl (by simp) rfl ?_))
  | ((with_reducible show vPutD _ _ _ _ _); refine u_putD ?_)
  | ((with_reducible show kPutD1 _ _ _ _ _); refine k_putD1 rfl ?_)
  | ((with_reducible show vAugL _ _ _ _ _ _); refine u_augL rfl ?_)
  | ((with_reducible show kAugL1 _ _ _ _ _ _); (first | refine k_augL1j 0 rfl rfl rfl ?_ | refine k_augL1j 1 rfl rfl rfl ?_ | refine k_augL1j 2 rfl rfl rfl ?_))
  | ((with_reducible show kAugL2 _ _ _ _ _ _ _); refine k_augL2j rfl (by simp) ?_)
  | ((with_reducible show vAug _ _ _ _ _); refine u_aug rfl ?_)
  | ((with_reducible show kAug _ _ _ _ _ _); (first | refine k_augAdd rfl ?_ | refine k_augSub rfl ?_))
  | ((with_reducible show vCall _ _ _ _); refine u_call ?_)
  | ((with_reducible show gN _ _ _ _); refine u_gN rfl rfl ?_)
  | ((with_reducible show gT _ _ _ _); refine u_gT rfl ?_)
  | ((with_reducible show gL _ _ _ _); refine u_gL rfl rfl ?_)
  | ((with_reducible show gTs _ _ _ _); (first | refine u_gTs0 ?_ | refine u_gTs ?_))
  | ((with_reducible show vItL _ _ _); refine u_itL ?_)
  | ((with_reducible show kItL _ _ _); refine k_itL rfl rfl ?_)
  | ((with_reducible show vItT _ _ _); refine u_itT ?_)
  | ((with_reducible show kItT _ _ _); refine k_itT rfl rfl ?_)
  | ((with_reducible show vItR1 _ _ _); refine u_itR1 ?_)
  | ((with_reducible show vItR2 _ _ _); refine u_itR2 ?_)
  | ((with_reducible show vFor _ _ _ _ _); refine u_for ?_)
  | ((with_reducible show vLc _ _ _ _ _ _ _); refine u_lc ?_)
  | ((with_reducible show vLcK _ _ _ _ _ _ _); refine u_lcK rfl ?_)
  | ((with_reducible show vYes _ _); refine u_yes ?_)
  | ((with_reducible show kLcT _ _ _ _ _ _); refine k_lcTT ?_)
  | ((with_reducible show addP _ _); refine p_addI ?_)
  | ((with_reducible show subP _ _); refine p_subI ?_)
  | ((with_reducible show mulP _ _); (first | refine p_mulI (.inl (.inl (by omega))) ?_ | refine p_mulI (.inl (.inr (by omega))) ?_))
  | ((with_reducible show modP _ _); refine p_modI (by omega) ?_)
  | ((with_reducible show divP _ _); refine p_divI (.inl (by constructor <;> omega)) ?_)
  | ((with_reducible show negP _ _); refine p_negI ?_)
  | ((with_reducible show ltP _ _); refine p_ltI ?_)
  | ((with_reducible show leP _ _); refine p_leI ?_)
  | ((with_reducible show gtP _ _); refine p_gtI ?_)
  | ((with_reducible show geP _ _); refine p_geI ?_)
  | ((with_reducible show eqP _ _); (first | refine p_eqI ?_ | refine p_eqS ?_ | refine p_eqB ?_ | refine p_eqN ?_))
  | ((with_reducible show neP _ _); (first | refine p_neI ?_ | refine p_neS ?_ | refine p_neB ?_))
  | ((with_reducible show isNP _ _); (first | refine p_isNn ?_ | refine p_isNi ?_ | refine p_isNs ?_ | refine p_isNb ?_ | refine p_isNl ?_ | refine p_isNt ?_ | refine p_isNd ?_))
  | ((with_reducible show notNP _ _); (first | refine p_notNn ?_ | refine p_notNi ?_ | refine p_notNs ?_ | refine p_notNb ?_ | refine p_notNl ?_ | refine p_notNt ?_ | refine p_notNd ?_))
  | ((with_reducible show isiP _ _); refine p_isi rfl rfl ?_)
  | ((with_reducible show isiTP _ _); refine p_isiT rfl rfl ?_)
  | ((with_reducible show reprP _ _); (first | refine p_reprB ?_ | refine p_reprN ?_))
  | ((with_reducible show lenP _ _); (first | refine p_lenL ?_ | refine p_lenF ?_ | refine p_lenT ?_ | refine p_lenD ?_))
  | ((with_reducible show absP _ _); refine p_absI ?_)
  | ((with_reducible show intP _ _); refine p_intI ?_)
  | ((with_reducible show listP _ _); (first | refine p_listL ?_ | refine p_listF ?_ | refine p_listD ?_))
  | ((with_reducible show ixP _ _); (first | refine p_ixLj 0 rfl rfl ?_ | refine p_ixLj 1 rfl rfl ?_ | refine p_ixLj 2 rfl rfl ?_ | refine p_ixLj 3 rfl rfl ?_ | refine p_ixTj 0 rfl rfl ?_ | refine p_ixTj 1 rfl rfl ?_ | refine p_ixTj 2 rfl rfl ?_ | refine p_ixTj 3 rfl rfl ?_))
  | ((with_reducible show inP _ _ _); (first | refine p_inS0 ?_ | refine p_inS1 ?_ | refine p_inI0 ?_ | refine p_inI1 ?_ | refine p_inD0 rfl ?_ | refine p_inD1 rfl ?_))
  | ((with_reducible show slP _ _ _ _); (first | refine p_slL ?_ | refine p_slF ?_))
  | ((with_reducible show sumP _ _); refine p_sum ?_)
  | ((with_reducible show maxP _ _); refine p_max2 ?_)
  | ((with_reducible show minP _ _); refine p_min2 ?_)
  | ((with_reducible show allP _ _); refine p_all ?_)
  | ((with_reducible show anyP _ _); refine p_any ?_))
local macro_rules | `(tactic| walk_at "ss") => `(tactic| repeat walk_at "s")
local macro_rules | `(tactic| walk_at "back") => `(tactic| refine k_back ?_ (by dsimp only [takeBack, backS, List.set, List.getElem?_cons_zero, List.getElem?_cons_succ]))
theorem p_neK {ks ls : List (Key × D)} {r : Bool} {R : Ret → Prop} (hh : HitsE ls ks r) (h : R (.val (.bl (!(ks.length == ls.length && r))))) : neP [.dct ks, .dct ls] R := ⟨r, hh, h⟩
def S_one_graph : VSp := fun ρs R => ∃ a b c, ρs = [srcD a b c] ∧ ∀ a' b' c' : Int, R (.sh (.bl true)) [srcD a' b' c']
def v_one_graph : VS :=
  vSeq (vAsg (gT [9, 10, 11]) (vCall S_graph (vCons (vPk 0) (vNil))))
    (vSeq (vSet 1 (vSl (vVal (vCall S_shuffled (vCons (vPk 0) (vCons (vVal (vVar 11)) (vNil))))) (vNoPart) (vPart (vBin addP (vVal (vC (.int 1))) (vVal (vCall S_pick (vCons (vPk 0) (vCons (vVal (vSh (vPrim lenP (vCons (vPk 11) (vNil))))) (vNil)))))))))
    (vSeq (vSet 2 (vLc (vItL (vVar 9)) (gN 6) (vT (vBin eqP (vVal (vPrim lenP (vCons (vVal (vLc (vItL (vVar 9)) (gN 15) (vT (vBin (inP false) (vPk 6) (vVal (vBin ixP (vPk 10) (vPk 15))))) (vVar 15) [15])) (vNil)))) (vVal (vC (.int 0))))) (vVar 6) [6]))
    (vSeq (vSet 3 (vBin addP (vPk 2) (vVal (vLc (vItL (vVar 9)) (gN 6) (vAnd (vT (vBin (inP true) (vPk 6) (vPk 2))) (vT (vBin eqP (vVal (vCall S_pick (vCons (vPk 0) (vCons (vVal (vC (.int 5))) (vNil))))) (vVal (vC (.int 0)))))) (vVar 6) [6]))))
    (vSeq (vSet 4 (vCall S_all_worlds (vCons (vVal (vVar 9)) (vCons (vVal (vVar 10)) (vCons (vVal (vVar 1)) (vCons (vVal (vC (.bl false))) (vNil)))))))
    (vSeq (vSet 5 (vLst (vNil)))
    (vSeq (vFor (vItL (vVar 9)) (gN 6) (vSeq (vSet 12 (vBin (inP false) (vPk 6) (vPk 3)))
    (vSeq (vFor (vItL (vVar 4)) (gL [13, 14]) (vIf (vAnd (vT (vBin (inP true) (vPk 6) (vPk 14))) (vT (vBin gtP (vVal (vPrim lenP (vCons (vVal (vLc (vItL (vVar 14)) (gN 15) (vT (vBin (inP false) (vPk 6) (vVal (vBin ixP (vPk 10) (vPk 15))))) (vVar 15) [15])) (vNil)))) (vVal (vC (.int 0)))))) (vSet 12 (vC (.bl true))) (vNext)))
    (vIf (vTru (vPk 12)) (vExpr (vApp 5 (vVar 6))) (vNext)))))
    (vSeq (vSet 7 (vPrim dictP (vCons (vVal (vLc (vItL (vCall S_shuffled (vCons (vPk 0) (vCons (vVal (vVar 9)) (vNil))))) (gN 6) (vYes) (vTup (vCons (vVal (vVar 6)) (vCons (vVal (vPrim listP (vCons (vVal (vBin ixP (vPk 10) (vPk 6))) (vNil)))) (vNil)))) [6])) (vNil))))
    (vSeq (vIf (vNot (vTru (vVal (vCall S_same (vCons (vVal (vSh (vCall S_plain_keep (vCons (vVal (vVar 7)) (vCons (vVal (vSh (vPrim listP (vCons (vPk 1) (vNil))))) (vCons (vVal (vSh (vPrim listP (vCons (vPk 3) (vNil))))) (vNil))))))) (vCons (vVal (vSh (vPrim sortedP (vCons (vPk 5) (vNil))))) (vNil))))))) (vRet (vC (.bl false))) (vNext))
    (vSeq (vIf (vT (vBin neP (vPk 7) (vPk 10))) (vRet (vC (.bl false))) (vNext))
    (vSeq (vSet 8 (vLc (vItL (vCall S_all_worlds (vCons (vVal (vVar 9)) (vCons (vVal (vVar 10)) (vCons (vVal (vVar 1)) (vCons (vVal (vC (.bl true))) (vNil))))))) (gL [13, 14]) (vYes) (vPrim lenP (vCons (vPk 14) (vNil))) [13, 14]))
    (vRet (vAndV (vCall S_same (vCons (vVal (vSh (vCall S_plain_costs (vCons (vVal (vVar 7)) (vCons (vVal (vVar 1)) (vNil)))))) (vCons (vVal (vSh (vTup (vCons (vVal (vPrim minP (vCons (vPk 8) (vNil)))) (vCons (vVal (vPrim maxP (vCons (vPk 8) (vNil)))) (vNil)))))) (vNil)))) (vCall S_same (vCons (vVal (vSh (vCall S_plain_costs (vCons (vVal (vVar 7)) (vCons (vVal (vSh (vLst (vNil)))) (vNil)))))) (vCons (vVal (vSh (vTup (vCons (vVal (vC (.int 0))) (vCons (vVal (vC (.int 0))) (vNil)))))) (vNil))))))))))))))))
theorem cut_take {α : Type} (xs : List α) {k : Int} (h : 0 ≤ k) : cutL xs none (some k) = xs.take k.toNat := by
  obtain ⟨m, rfl⟩ := Int.eq_ofNat_of_zero_le h
  unfold cutL
  rw [HT.sIx_none, HT.sIx_nat, List.drop_zero, Nat.sub_zero, List.take_eq_take_iff, Int.toNat_natCast]
  omega
theorem perm_strs {es : List D} {xs : List Str} (h : es.Perm (xs.map D.str)) : ∃ ys : List Str, ys.Perm xs ∧ es = ys.map D.str := perm_map_inv _ h
theorem filter_one {α : Type} (p : α → Bool) (x : α) : [x].filter p = if p x = true then [x] else [] := by
  by_cases h : p x = true
  · rw [List.filter_cons_of_pos h, if_pos h]; rfl
  · rw [List.filter_cons_of_neg h, if_neg h]; rfl
theorem any_posG {α : Type} (p : α → Bool) (f : α → D) (l : List α) : decide (0 < (((l.filter p).map f).length : Int)) = l.any p := by
  rw [← any_filter, List.length_map]
  cases h : l.filter p <;> simp
theorem worlds_ok (cs : Gr) (ed : List Str) (forced : Bool) : WOk (ed.length + cs.length) (ed.length + cs.length) (worldsOf cs ed forced) := by
  have h1 : ∀ (ed : List Str) (n : Nat) (ws : List Wd), WOk n n ws → WOk (n + ed.length) (n + ed.length) (ed.foldl (edStep forced) ws) := by
    intro ed
    induction ed with
    | nil => intro n ws h; exact h
    | cons x r ih => intro n ws h; have := ih (n + 1) _ (wok_ed (forced := forced) (one := x) h); rw [List.length_cons, show n + (r.length + 1) = n + 1 + r.length by omega]; exact this
  have h2 : ∀ (cs : Gr) (n : Nat) (ws : List Wd), WOk n n ws → WOk (n + cs.length) (n + cs.length) (cs.foldl (fun ws p => callStep ws p.1 p.2) ws) := by
    intro cs
    induction cs with
    | nil => intro n ws h; exact h
    | cons x r ih => intro n ws h; have := ih (n + 1) _ (wok_call (c := x.1) (as := x.2) h); rw [List.length_cons, show n + (r.length + 1) = n + 1 + r.length by omega]; exact this
  have h0 : WOk 0 0 [(([] : List Str), ([] : List Str))] := ⟨Nat.le_refl _, fun w hw => by simp at hw; subst hw; exact ⟨Nat.le_refl _, Nat.le_refl _⟩⟩
  have := h2 cs _ _ (h1 ed 0 _ h0)
  rw [Nat.zero_add] at this
  exact this
theorem rd_one_graph : Reads S_one_graph v_one_graph 15 := fun ρs R h => by
  obtain ⟨a, b, c, rfl, q⟩ := h
  unfold v_one_graph
  show vSeq _ _ _ [srcD a b c, .un, .un, .un, .un, .un, .un, .un, .un, .un, .un, .un, .un, .un, .un, .un]
  walk_at "ss"
  refine k_call rfl ⟨a, b, c, rfl, fun a b c cs srcs gr => ?_⟩
  have ok := gr.ok
  have h6 := gr.six
  have hs2 := gr.stwo
  have hs4 := gr.few
  walk_at "back"
  walk_at "ss"
  refine k_call rfl ⟨a, b, c, srcs.map D.str, rfl, by rw [List.length_map]; omega, fun a b c es hp => ?_⟩
  obtain ⟨sh, hsh, rfl⟩ := perm_strs hp
  walk_at "back"
  walk_at "ss"
  refine k_call rfl ⟨a, b, c, _, rfl, by rw [List.length_map]; omega, by rw [List.length_map]; omega, fun a b c n n0 n1 => ?_⟩
  rw [List.length_map] at n1
  walk_at "back"
  walk_at "ss"
  rw [cutL_map, cut_take _ (by omega)]
  have hed : ∀ x ∈ sh.take (1 + n).toNat, x ∈ srcs := fun x hx => hsh.mem_iff.mp (List.mem_of_mem_take hx)
  have hedl : (sh.take (1 + n).toNat).length ≤ 4 := by rw [List.length_take, hsh.length_eq]; omega
  revert hed hedl
  generalize sh.take (1 + n).toNat = ed
  intro hed hedl
  walk_at "ss"
  -- tops: the names that no call reads
  refine k_lcM (cs.map (·.1)) D.str (fun c => decide ((((cs.filter fun q => decide (c ∈ q.2)).map fun q => D.str q.1).length : Int) = 0)) D.str _ rfl (by rw [List.length_map]; show cs.length < 16777216; omega) (by simp [Slot.free]) (by dsimp only [wipeR, List.set]) ?_ ?_
  · intro x acc I hx hz t1 t2
    walk_at "ss"
    refine k_lcM cs (fun q => D.str q.1) (fun q => decide (x ∈ q.2)) (fun q => D.str q.1) _ (by rw [List.map_map]; rfl) (by show cs.length < 16777216; omega) (by simp [Slot.free]) (by dsimp only [wipeR, List.set]) ?_ ?_
    · intro p acc I hp hz t1 t2
      walk_at "ss"
      refine p_ixD rfl (look_gr ok.nd (c := p.1) (as := p.2) hp) ?_
      walk_at "ss"
      refine k_lcT (fun z => ?_) (fun z => t2 z)
      walk_at "ss"
      exact k_lcE rfl hz (t1 z)
    · walk_at "ss"
      refine k_lcT (fun z => ?_) (fun z => t2 z)
      walk_at "ss"
      exact k_lcE rfl hz (t1 z)
  · generalize htops : (cs.map (·.1)).filter (fun c => decide ((((cs.filter fun q => decide (c ∈ q.2)).map fun q => D.str q.1).length : Int) = 0)) = tops
    have htl : tops.length ≤ 6 := by rw [← htops]; exact Nat.le_trans (List.length_filter_le _ _) (by rw [List.length_map]; exact h6)
    walk_at "ss"
    -- asked: some more names
    refine k_lc (by simp [Slot.free]) (fun j acc ρ' => ∃ a b c xs, ρ' = [srcD a b c, .ow false (encO ed), .ow false (encO tops), .un, .un, .un, .un, .un, .un, .sh (encS (cs.map (·.1))), .sh (encG cs), .sh (encS srcs), .un, .un, .un, .un] ∧ xs.length ≤ j ∧ acc = xs.map D.str) ⟨a, b, c, [], rfl, Nat.le_refl _, rfl⟩ ?_ ?_
    · rintro j acc d ρ' hj ⟨a, b, c, xs, rfl, hxl, rfl⟩
      have hj' : j < 6 := by
        have := (List.getElem?_eq_some_iff.mp hj).1
        rw [List.length_map, List.length_map] at this
        omega
      rw [List.getElem?_map] at hj
      obtain ⟨x, hx, rfl⟩ := Option.map_eq_some_iff.mp hj
      walk_at "ss"
      have stay : ∃ (a' b' c' : Int) (xs' : List Str), [srcD a b c, Slot.ow false (encO ed), .ow false (encO tops), .un, .un, .un, .un, .un, .un, .sh (encS (cs.map (·.1))), .sh (encG cs), .sh (encS srcs), .un, .un, .un, .un] = [srcD a' b' c', .ow false (encO ed), .ow false (encO tops), .un, .un, .un, .un, .un, .un, .sh (encS (cs.map (·.1))), .sh (encG cs), .sh (encS srcs), .un, .un, .un, .un] ∧ xs'.length ≤ j + 1 ∧ xs.map D.str = xs'.map D.str := ⟨a, b, c, xs, rfl, by omega, rfl⟩
      refine k_and (fun z1 => ?_) (fun z1 => k_lcT (fun z => by cases z) (fun _ => stay))
      walk_at "ss"
      refine k_call rfl ⟨a, b, c, 5, rfl, by decide, by decide, fun a b c r r0 r1 => ?_⟩
      walk_at "back"
      walk_at "ss"
      refine k_lcT (fun z => ?_) (fun z => ⟨a, b, c, xs, rfl, by omega, rfl⟩)
      walk_at "ss"
      refine k_lcE rfl (by rw [List.length_map]; exact Nat.lt_of_le_of_lt (show xs.length ≤ 10 by omega) (by decide)) ?_
      exact ⟨a, b, c, xs ++ [x], rfl, by simp; omega, by simp⟩
    · rintro acc ρ' ⟨a, b, c, xs, rfl, hxl, rfl⟩
      rw [List.length_map, List.length_map] at hxl
      walk_at "ss"
      refine p_addL (by rw [List.length_map, List.length_map]; exact small24 (by omega)) ?_
      rw [← List.map_append]
      generalize hask : tops ++ xs = asked
      have hal : asked.length ≤ 12 := by rw [← hask, List.length_append]; omega
      clear hask htops
      walk_at "ss"
      refine k_call rfl ⟨cs, ed, false, rfl, ok, by omega, by omega, ?_⟩
      have od : Ord cs ed := ord_of gr hed
      have winv := winv_all od false
      have want : ∀ c ∈ cs.map (·.1), ((worldsOf cs ed false).any (wantW cs c) = true) ↔ MustKeep cs ed c := fun c hc => must_iff od hc
      have wlen : ∀ w ∈ worldsOf cs ed false, w.2.length ≤ 10 := fun w hw => Nat.le_trans ((worlds_ok cs ed false).mem w hw).2 (by omega)
      generalize worldsOf cs ed false = ws at winv want wlen ⊢
      walk_at "back"
      walk_at "ss"
      -- due
      refine k_for (fun j ρ' => ∃ s4 s6 s12 s13 s14, (s4 = Slot.sh (.lst (ws.map encW)) ∨ s4 = .ow false (.lst (ws.map encW))) ∧ Slot.free s6 = true ∧ Slot.free s12 = true ∧ Slot.free s13 = true ∧ Slot.free s14 = true ∧
        ρ' = [srcD a b c, .sh (encS ed), .ow false (encO tops), .ow false (encO asked), s4, .ow false (encO (((cs.take j).map (·.1)).filter fun c => decide (c ∈ asked) || ws.any (wantW cs c))), s6, .un, .un, .sh (encS (cs.map (·.1))), .sh (encG cs), .sh (encS srcs), s12, s13, s14, .un]) ⟨_, _, _, _, _, .inr rfl, rfl, rfl, rfl, rfl, rfl⟩ ?_ ?_
      · rintro j d ρ' hj ⟨s4, s6, s12, s13, s14, h4, f6, f12, f13, f14, rfl⟩
        rw [List.getElem?_map, List.getElem?_map] at hj
        obtain ⟨c0, hc0, rfl⟩ := Option.map_eq_some_iff.mp hj
        obtain ⟨⟨c1, as⟩, hc1, e1⟩ := Option.map_eq_some_iff.mp hc0
        have e1' : c1 = c0 := e1
        subst e1'
        have hjl := (List.getElem?_eq_some_iff.mp hc1).1
        have hmem : (c1, as) ∈ cs := List.mem_of_getElem? hc1
        have hst : (((cs.take (j + 1)).map (·.1)).filter fun c => decide (c ∈ asked) || ws.any (wantW cs c)) = (((cs.take j).map (·.1)).filter fun c => decide (c ∈ asked) || ws.any (wantW cs c)) ++ (if (decide (c1 ∈ asked) || ws.any (wantW cs c1)) = true then [c1] else []) := by
          rw [List.take_add_one, hc1, List.map_append, List.filter_append]
          congr 1
          exact filter_one _ _
        have hdl : (((cs.take j).map (·.1)).filter fun c => decide (c ∈ asked) || ws.any (wantW cs c)).length ≤ 6 := Nat.le_trans (List.length_filter_le _ _) (by rw [List.length_map, List.length_take]; omega)
        generalize (((cs.take j).map (·.1)).filter fun c => decide (c ∈ asked) || ws.any (wantW cs c)) = due at hst hdl ⊢
        refine u_gN rfl f6 ?_
        show vSeq _ _ _ [srcD a b c, .sh (encS ed), .ow false (encO tops), .ow false (encO asked), s4, .ow false (encO due), .sh (.str c1), .un, .un, .sh (encS (cs.map (·.1))), .sh (encG cs), .sh (encS srcs), s12, s13, s14, .un]
        walk_at "ss"
        refine k_set rfl f12 ?_
        walk_at "ss"
        refine u_varA rfl h4 ?_
        walk_at "ss"
        refine k_for (fun i ρ' => ∃ s13 s14, Slot.free s13 = true ∧ Slot.free s14 = true ∧ ρ' = [srcD a b c, .sh (encS ed), .ow false (encO tops), .ow false (encO asked), .sh (.lst (ws.map encW)), .ow false (encO due), .sh (.str c1), .un, .un, .sh (encS (cs.map (·.1))), .sh (encG cs), .sh (encS srcs), .sh (.bl (decide (c1 ∈ asked) || (ws.take i).any (wantW cs c1))), s13, s14, .un])
          ⟨s13, s14, f13, f14, by rw [List.take_zero, List.any_nil, Bool.or_false]⟩ ?_ ?_
        · rintro i d ρ' hi ⟨s13, s14, f13, f14, rfl⟩
          rw [List.getElem?_map] at hi
          obtain ⟨w, hw, rfl⟩ := Option.map_eq_some_iff.mp hi
          have hwm : w ∈ ws := List.mem_of_getElem? hw
          have iw := winv w hwm
          have hacc : (decide (c1 ∈ asked) || (ws.take (i + 1)).any (wantW cs c1)) = ((decide (c1 ∈ asked) || (ws.take i).any (wantW cs c1)) || wantW cs c1 w) := by
            rw [List.take_add_one, hw, List.any_append, Bool.or_assoc]
            simp
          rw [hacc]
          generalize (decide (c1 ∈ asked) || (ws.take i).any (wantW cs c1)) = g
          have stay : wantW cs c1 w = false → ∃ s13 s14, Slot.free s13 = true ∧ Slot.free s14 = true ∧ [srcD a b c, Slot.sh (encS ed), .ow false (encO tops), .ow false (encO asked), .sh (.lst (ws.map encW)), .ow false (encO due), .sh (.str c1), .un, .un, .sh (encS (cs.map (·.1))), .sh (encG cs), .sh (encS srcs), .sh (.bl g), .sh (encS w.1), .sh (encS w.2), .un] = [srcD a b c, .sh (encS ed), .ow false (encO tops), .ow false (encO asked), .sh (.lst (ws.map encW)), .ow false (encO due), .sh (.str c1), .un, .un, .sh (encS (cs.map (·.1))), .sh (encG cs), .sh (encS srcs), .sh (.bl (g || wantW cs c1 w)), s13, s14, .un] := fun h => ⟨_, _, rfl, rfl, by rw [h, Bool.or_false]⟩
          refine u_gL rfl rfl ?_
          refine u_gTs ?_
          refine u_gN rfl f13 ?_
          refine u_gTs ?_
          refine u_gN rfl f14 ?_
          show gTs [] [] [srcD a b c, .sh (encS ed), .ow false (encO tops), .ow false (encO asked), .sh (.lst (ws.map encW)), .ow false (encO due), .sh (.str c1), .un, .un, .sh (encS (cs.map (·.1))), .sh (encG cs), .sh (encS srcs), .sh (.bl g), .sh (encS w.1), .sh (encS w.2), .un] _
          walk_at "ss"
          refine k_and (fun z1 => ?_) (fun z1 => k_ifF (stay ?_))
          · walk_at "ss"
            refine k_lcM w.2 D.str (fun r => decide (c1 ∈ argsOf cs r)) D.str _ rfl ?_ (by simp [Slot.free]) (by dsimp only [wipeR, List.set]) ?_ ?_
            · exact Nat.lt_of_le_of_lt (wlen w hwm) (by decide)
            · intro r acc I hr hz t1 t2
              obtain ⟨bs, hb, _⟩ := iw.run r hr
              rw [argsOf_mem od.nd hb] at t1 t2
              walk_at "ss"
              refine p_ixD rfl (look_gr ok.nd hb) ?_
              walk_at "ss"
              refine k_lcT (fun z => ?_) (fun z => t2 z)
              walk_at "ss"
              exact k_lcE rfl hz (t1 z)
            · walk_at "ss"
              rw [any_posG]
              have hwant : wantW cs c1 w = w.2.any fun r => decide (c1 ∈ argsOf cs r) := by
                unfold wantW
                have : decide (c1 ∉ w.2) = true := by simpa using z1
                rw [this, Bool.true_and]
              rw [← hwant]
              refine k_if (fun z => ?_) (fun z => stay z)
              walk_at "ss"
              exact ⟨_, _, rfl, rfl, by rw [z, Bool.or_true]⟩
          · unfold wantW
            have : decide (c1 ∉ w.2) = false := by simpa using z1
            rw [this, Bool.false_and]
        · rintro ρ' ⟨s13, s14, f13, f14, rfl⟩
          rw [List.length_map, List.take_length]
          walk_at "ss"
          refine k_if (fun z => ?_) (fun z => ?_)
          · rw [if_pos z] at hst
            walk_at "ss"
            refine k_app rfl rfl (by rw [List.length_map]; exact Nat.lt_of_le_of_lt hdl (by decide)) ?_
            walk_at "ss"
            refine ⟨_, .sh (.str c1), .sh (.bl (decide (c1 ∈ asked) || ws.any (wantW cs c1))), s13, s14, .inl rfl, rfl, rfl, f13, f14, ?_⟩
            rw [hst]
            unfold encO
            rw [List.map_append]
            rfl
          · rw [if_neg (by rw [z]; exact Bool.false_ne_true), List.append_nil] at hst
            walk_at "ss"
            refine ⟨_, .sh (.str c1), .sh (.bl (decide (c1 ∈ asked) || ws.any (wantW cs c1))), s13, s14, .inl rfl, rfl, rfl, f13, f14, ?_⟩
            rw [hst]
      · rintro ρ' ⟨s4, s6, s12, s13, s14, h4, f6, f12, f13, f14, rfl⟩
        rw [List.length_map, List.length_map, List.take_length]
        have hdue : ((cs.map (·.1)).filter fun c => decide (c ∈ asked) || ws.any (wantW cs c)) = keepOf cs ed asked := by
          unfold keepOf
          refine List.filter_congr fun c hc => ?_
          have : (c ∈ asked ∨ MustKeep cs ed c) ↔ (decide (c ∈ asked) || ws.any (wantW cs c)) = true := by
            rw [Bool.or_eq_true, want c hc, decide_eq_true_iff]
          by_cases h : c ∈ asked ∨ MustKeep cs ed c
          · rw [@decide_eq_true _ (Classical.propDecidable _) h, this.mp h]
          · rw [@decide_eq_false _ (Classical.propDecidable _) h]
            cases hb : (decide (c ∈ asked) || ws.any (wantW cs c)) with
            | false => rfl
            | true => exact absurd (this.mpr hb) h
        rw [hdue]
        walk_at "ss"
        refine k_call rfl ⟨a, b, c, (cs.map (·.1)).map D.str, rfl, by rw [List.length_map, List.length_map]; omega, fun a b c es hp => ?_⟩
        rw [List.map_map] at hp
        obtain ⟨ms, hms, rfl⟩ := perm_map_inv (D.str ∘ fun x : Str × List Str => x.1) hp
        walk_at "back"
        walk_at "ss"
        have hml := hms.length_eq
        refine k_lcM ms (D.str ∘ fun x : Str × List Str => x.1) (fun _ => true) (fun p => .tup [.str p.1, encS p.2]) _ rfl (by show ms.length < 16777216; omega) (fun v hv => by rw [List.mem_singleton.mp hv]; exact ⟨_, rfl, f6⟩) (by dsimp only [wipeR, List.set]) ?_ ?_
        · intro p acc I hp hz t1 _
          have hpc : (p.1, p.2) ∈ cs := hms.mem_iff.mp hp
          dsimp only [Function.comp]
          walk_at "ss"
          refine p_ixD rfl (look_gr ok.nd hpc) ?_
          walk_at "ss"
          exact k_lcE rfl hz (t1 rfl)
        · rw [List.filter_eq_self.mpr (fun _ _ => rfl)]
          walk_at "ss"
          refine p_dict (pairs_S ms) ?_
          have mok := perm_ok hms ok
          have hmg := merge_new (ms := ms) (ks := []) mok.nd
          rw [List.map_nil, List.nil_append] at hmg
          rw [hmg]
          walk_at "ss"
          refine k_call rfl ⟨ms, ed, asked, rfl, mok, by omega, fun ys hys hso => ?_⟩
          walk_at "back"
          walk_at "ss"
          refine p_sortS (Nat.lt_of_le_of_lt (List.length_filter_le _ _) (by rw [List.length_map]; omega)) (fun zs hzs hsz => ?_)
          have hyz : ys = zs := sorted_one ((hys.trans (perm_keep hms ed asked)).trans hzs.symm) hso hsz
          subst hyz
          walk_at "ss"
          have hym : ∀ y ∈ ys, SText y := fun y hy => gr.keys.tx y (List.mem_filter.mp (hzs.mem_iff.mp hy)).1
          refine k_call rfl ⟨_, rfl, .lst (fun d hd => ?_) ?_, ?_⟩
          · obtain ⟨y, hy, rfl⟩ := List.mem_map.mp hd
            exact .str (hym y hy).rp
          · rw [List.length_map, hzs.length_eq]
            exact Nat.lt_of_le_of_lt (List.length_filter_le _ _) (by rw [List.length_map]; omega)
          walk_at "back"
          walk_at "ss"
          refine p_neK (hits_same od.nd (fun p hp x hx => ?_) fun p hp => hms.mem_iff.mp hp) ?_
          · obtain ⟨i, hi, e⟩ := List.mem_iff_getElem.mp hp
            have := (gr.args i p.1 p.2 (by rw [List.getElem?_eq_getElem hi, e])).2.2 x hx
            rcases this with h | h
            · exact (gr.src.tx x h).ok
            · rw [List.map_take] at h
              exact (gr.keys.tx x (List.mem_of_mem_take h)).ok
          rw [show (((ms.map fun p => ((Sum.inr p.1 : Key), encS p.2)).length == (cs.map fun p => ((Sum.inr p.1 : Key), encS p.2)).length) && true) = true by rw [List.length_map, List.length_map, hml]; simp]
          walk_at "ss"
          refine k_call rfl ⟨cs, ed, true, rfl, ok, by omega, by omega, ?_⟩
          have least := least_all (cs := cs) (ed := ed)
          have most := most_all od
          have wlen2 : ∀ w ∈ worldsOf cs ed true, w.2.length ≤ 10 := fun w hw => Nat.le_trans ((worlds_ok cs ed true).mem w hw).2 (by omega)
          have wmany : (worldsOf cs ed true).length ≤ 65536 := Nat.le_trans (worlds_ok cs ed true).len (pow_le16 (by omega))
          generalize worldsOf cs ed true = ws2 at least most wlen2 wmany ⊢
          walk_at "back"
          walk_at "ss"
          refine k_lcM ws2 encW (fun _ => true) (fun w => .int (w.2.length : Int)) _ rfl (by show ws2.length < 16777216; omega) (fun v hv => by
            rcases List.mem_cons.mp hv with rfl | hv
            · exact ⟨_, rfl, f13⟩
            · rw [List.mem_singleton.mp hv]; exact ⟨_, rfl, f14⟩) (by dsimp only [wipeR, List.set]) ?_ ?_
          · intro w acc I hw hz t1 _
            walk_at "ss"
            rw [List.length_map]
            exact k_lcE rfl hz (t1 rfl)
          · rw [List.filter_eq_self.mpr (fun _ _ => rfl), show (fun w : Wd => D.int (w.2.length : Int)) = D.int ∘ (fun w : Wd => (w.2.length : Int)) from rfl, ← List.map_map]
            walk_at "ss"
            have noms : ∀ x ∈ ed, x ∉ ms.map (·.1) := fun x hx h => od.noed x hx ((hms.map (·.1)).mem_iff.mp h)
            refine k_call rfl ⟨ms, ed, rfl, mok, by omega, noms, ?_⟩
            rw [perm_least hms, perm_most hms]
            walk_at "back"
            walk_at "ss"
            have hne : ws2.map (fun w : Wd => (w.2.length : Int)) ≠ [] := fun z => by
              obtain ⟨w, hw, _⟩ := least.2
              rw [List.map_eq_nil_iff.mp z] at hw
              cases hw
            refine p_minL hne (fun m hm hmin => ?_)
            have em : m = (leastOf cs ed : Int) := by
              obtain ⟨w, hw, e⟩ := List.mem_map.mp hm
              have h1 := least.1 w hw
              obtain ⟨w2, hw2, h2⟩ := least.2
              have h3 := hmin _ (List.mem_map.mpr ⟨w2, hw2, rfl⟩)
              rw [h2] at h3
              omega
            subst em
            walk_at "ss"
            refine p_maxL hne (fun m hm hmax => ?_)
            have em : m = (mostOf cs ed : Int) := by
              obtain ⟨w, hw, e⟩ := List.mem_map.mp hm
              have h1 := most.1 w hw
              obtain ⟨w2, hw2, h2⟩ := most.2
              have h3 := hmax _ (List.mem_map.mpr ⟨w2, hw2, rfl⟩)
              rw [h2] at h3
              omega
            subst em
            walk_at "ss"
            have b1 : leastOf cs ed ≤ 60 := Nat.le_trans (List.length_filter_le _ _) (by omega)
            have b2 : mostOf cs ed ≤ 60 := by
              obtain ⟨w, hw, e⟩ := most.2
              have := wlen2 w hw
              omega
            refine k_call rfl ⟨_, rfl, .tup (fun d hd => ?_) (by simp), ?_⟩
            · simp only [List.mem_cons, List.not_mem_nil, or_false] at hd
              rcases hd with rfl | rfl
              · exact .int (log2_lt (by omega))
              · exact .int (log2_lt (by omega))
            walk_at "back"
            walk_at "ss"
            refine k_call rfl ⟨ms, [], rfl, mok, by decide, (fun x hx => by cases hx), ?_⟩
            rw [least_nil, most_nil]
            walk_at "back"
            walk_at "ss"
            refine k_call rfl ⟨_, rfl, .tup (fun d hd => ?_) (by simp), ?_⟩
            · simp only [List.mem_cons, List.not_mem_nil, or_false] at hd
              rcases hd with rfl | rfl
              · exact .int (log2_lt (by decide))
              · exact .int (log2_lt (by decide))
            walk_at "back"
            exact q _ _ _
def S_law : VSp := fun ρs R => ∃ ns : List Int, ρs = [.sh (.fls (ns.map D.int))] ∧ ns.length ≤ 63 ∧ R (.sh (.bl true)) [.sh (.fls (ns.map D.int))]
def v_law : VS :=
  vRet (vPrim allP (vCons (vVal (vLc (vItR1 (vCons (vVal (vC (.int 2))) (vNil))) (gN 1) (vYes) (vCall S_one_graph (vCons (vVal (vCall S_source (vCons (vVal (vVar 0)) (vCons (vVal (vVar 1)) (vNil))))) (vNil))) [1])) (vNil)))
theorem rd_law : Reads S_law v_law 1 := fun ρs R h => by
  obtain ⟨ns, rfl, hl, q⟩ := h
  unfold v_law
  show vRet _ _ [.sh (.fls (ns.map D.int)), .un]
  walk_at "ss"
  refine k_itR1 rfl (by decide) ?_
  refine k_lcM (List.range (Int.toNat 2)) (fun (i : Nat) => D.int (0 + (i : Int))) (fun _ => true) (fun _ => .bl true) _ rfl (by decide) (by simp [Slot.free]) (by dsimp only [wipeR, List.set]) ?_ ?_
  · intro x acc I hx hz t1 _
    have hx' : x < 2 := List.mem_range.mp hx
    walk_at "ss"
    refine k_call rfl ⟨ns, 0 + (x : Int), rfl, by omega, by omega, by omega, fun a b => ?_⟩
    walk_at "back"
    walk_at "ss"
    refine k_call rfl ⟨a, b, _, rfl, fun a' b' c' => ?_⟩
    walk_at "back"
    exact k_lcE rfl hz (t1 rfl)
  · rw [List.filter_eq_self.mpr (fun _ _ => rfl), show (fun _ : Nat => D.bl true) = D.bl ∘ (fun _ : Nat => true) from rfl, ← List.map_map]
    walk_at "ss"
    rw [all_true]
    exact q
end WL

set_option Elab.async false
set_option linter.all false
set_option maxRecDepth 100000
set_option maxHeartbeats 4000000
namespace WL
open PySem PySem.Spec PyProof.Rows L2
/-! ### the text (printed by gen.py) -/
def topS (i : Nat) : Stmt := PySem.Challenge.pw_firstreasons_k24_what_plain_graphs_must.main.body.getD i (.Pass ⟨0, 0, 0, 0⟩)
abbrev sreached : Stmt := topS 1
def Nreached : List Str := ["calls", "sources", "barred", "found", "grown", "call", "source", "x"]
theorem screached : FnScope Nreached ["calls", "sources", "barred"] (defScope sreached) := ⟨rfl, rfl, rfl, by decide +kernel, rfl, by decide +kernel, by decide +kernel⟩
abbrev smust_keep : Stmt := topS 2
def Nmust_keep : List Str := ["calls", "edited", "call", "changing", "reader", "x"]
theorem scmust_keep : FnScope Nmust_keep ["calls", "edited", "call"] (defScope smust_keep) := ⟨rfl, rfl, rfl, by decide +kernel, rfl, by decide +kernel, by decide +kernel⟩
abbrev splain_keep : Stmt := topS 3
def Nplain_keep : List Str := ["calls", "edited", "asked", "call"]
theorem scplain_keep : FnScope Nplain_keep ["calls", "edited", "asked"] (defScope splain_keep) := ⟨rfl, rfl, rfl, by decide +kernel, rfl, by decide +kernel, by decide +kernel⟩
abbrev splain_costs : Stmt := topS 4
def Nplain_costs : List Str := ["calls", "edited", "least", "sources", "behind", "source", "call", "x"]
theorem scplain_costs : FnScope Nplain_costs ["calls", "edited"] (defScope splain_costs) := ⟨rfl, rfl, rfl, by decide +kernel, rfl, by decide +kernel, by decide +kernel⟩
abbrev ssource : Stmt := topS 6
def Nsource : List Str := ["script", "at", "cell", "size", "small", "one"]
theorem scsource : FnScope Nsource ["script", "at"] (defScope ssource) := ⟨rfl, rfl, rfl, by decide +kernel, rfl, by decide +kernel, by decide +kernel⟩
abbrev spick : Stmt := topS 7
def Npick : List Str := ["source", "many", "found"]
theorem scpick : FnScope Npick ["source", "many"] (defScope spick) := ⟨rfl, rfl, rfl, by decide +kernel, rfl, by decide +kernel, by decide +kernel⟩
abbrev schoice : Stmt := topS 8
def Nchoice : List Str := ["source", "things"]
theorem scchoice : FnScope Nchoice ["source", "things"] (defScope schoice) := ⟨rfl, rfl, rfl, by decide +kernel, rfl, by decide +kernel, by decide +kernel⟩
abbrev sshuffled : Stmt := topS 9
def Nshuffled : List Str := ["source", "things", "left", "found"]
theorem scshuffled : FnScope Nshuffled ["source", "things"] (defScope sshuffled) := ⟨rfl, rfl, rfl, by decide +kernel, rfl, by decide +kernel, by decide +kernel⟩
abbrev swords : Stmt := topS 10
def Nwords : List Str := ["source", "many", "before", "letters", "stem", "at", "k"]
theorem scwords : FnScope Nwords ["source", "many", "before"] (defScope swords) := ⟨rfl, rfl, rfl, by decide +kernel, rfl, by decide +kernel, by decide +kernel⟩
abbrev snames : Stmt := topS 11
def Nnames : List Str := ["source", "many", "before", "letters", "stem", "mark", "tail", "k"]
theorem scnames : FnScope Nnames ["source", "many", "before"] (defScope snames) := ⟨rfl, rfl, rfl, by decide +kernel, rfl, by decide +kernel, by decide +kernel⟩
abbrev ssame : Stmt := topS 12
def Nsame : List Str := ["answer", "due", "pairs", "key", "one", "at"]
theorem scsame : FnScope Nsame ["answer", "due"] (defScope ssame) := ⟨rfl, rfl, rfl, by decide +kernel, rfl, by decide +kernel, by decide +kernel⟩
abbrev sgraph : Stmt := topS 13
def Ngraph : List Str := ["source", "words", "sources", "many", "calls", "k", "pool", "found", "j"]
theorem scgraph : FnScope Ngraph ["source"] (defScope sgraph) := ⟨rfl, rfl, rfl, by decide +kernel, rfl, by decide +kernel, by decide +kernel⟩
abbrev sall_worlds : Stmt := topS 14
def Nall_worlds : List Str := ["order", "calls", "edited", "forced", "worlds", "one", "call", "met", "rest", "new", "run", "x"]
theorem scall_worlds : FnScope Nall_worlds ["order", "calls", "edited", "forced"] (defScope sall_worlds) := ⟨rfl, rfl, rfl, by decide +kernel, rfl, by decide +kernel, by decide +kernel⟩
abbrev sone_graph : Stmt := topS 15
def None_graph : List Str := ["source", "edited", "tops", "asked", "worlds", "due", "call", "mixed", "sizes", "order", "calls", "sources", "wanted", "new", "run", "one"]
theorem scone_graph : FnScope None_graph ["source"] (defScope sone_graph) := ⟨rfl, rfl, rfl, by decide +kernel, rfl, by decide +kernel, by decide +kernel⟩
abbrev slaw : Stmt := topS 16
def Nlaw : List Str := ["script", "at"]
theorem sclaw : FnScope Nlaw ["script"] (defScope slaw) := ⟨rfl, rfl, rfl, by decide +kernel, rfl, by decide +kernel, by decide +kernel⟩
/-- the built-in names that the text leaves as they are -/
structure Blt (mg : Str → Option Value) : Prop where
  b_abs : mg "abs" = none
  b_all : mg "all" = none
  b_dict : mg "dict" = none
  b_int : mg "int" = none
  b_isinstance : mg "isinstance" = none
  b_len : mg "len" = none
  b_list : mg "list" = none
  b_max : mg "max" = none
  b_min : mg "min" = none
  b_range : mg "range" = none
  b_repr : mg "repr" = none
  b_sorted : mg "sorted" = none
  b_str : mg "str" = none
  b_sum : mg "sum" = none
  b_tuple : mg "tuple" = none
section
variable {P : Program} {w : World} {K : PySem.W.Frag} {mg : Str → Option Value} {base : Heap}
theorem def_reached {f : Addr} {fd : FuncData} (T : Blt mg) (F : Fun K "reached" "reached" sreached f fd) (g : mg "reached" = some (.ref f))
    (rd : ∀ ρs R, S_reached ρs R → v_reached { nx := fun ρ' => R (.sh .non) (fin ρs ρ'), rt := fun r ρ' => R r (fin ρs ρ') } (ρs ++ uns 5)) (len : ∀ ρs R, S_reached ρs R → ρs.length = 3) : Def P w K mg base 1 "reached" ["calls", "sources", "barred"] S_reached := by
  refine ⟨f, fd, fn_w F screached (by decide) len (fun cdv A outer s H E hr => ?_) rd, g, F.kp, F.binds fun _ _ _ _ _ _ us hl => match us, hl with | [_, _, _], _ => rfl⟩
  have hu : (A.deeper (envOfC "reached" (defScope sreached) s.heap.objs.size f cdv)).units + 1 < cLine := hu_of hr
  have hu64 : (A.deeper (envOfC "reached" (defScope sreached) s.heap.objs.size f cdv)).units + 64 < cLine := hr.units
  unfold v_reached
  exact pwss_cons (pws_set (ps_set (i := 3) screached.nd rfl (Or.inr rfl) pe_sem) (PWE.sem (pwe_of (pe_lc1 rfl screached.nd (blkOk_by (own := [("source", 6)]) (N := Nreached) (sc := defScope sreached) (by decide +kernel))) (run_lc1 (own := [("source", 6)]) (by exact pwi_list (pwe_var 1 (pv 1))) (fun _ _ _ _ _ => by exact pwg_of (pg_name (i := 6) screached.nd rfl (by first | exact Or.inl rfl | exact Or.inr rfl)) (rung_name 6)) (fun _ _ _ _ _ => by exact pwt_of (pt_cmpR (op_notinA hu) pe_sem pe_sem (by rfl)) (run_bin ok_in (pwo_var 6 (pv 6)) (pwo_var 2 (pv 2)))) (fun _ _ _ _ _ => by exact pwe_var 6 (pv 6))))))
    (pwss_cons (pws_set (ps_set (i := 4) screached.nd rfl (Or.inl rfl) pe_sem) (PWE.sem (pwe_bl)))
    (pwss_cons (pws_while (ps_while PassesOwn.never pt_sem pss_sem) (pwt_truth (pwo_var 4 (pv 4))) (pwss_cons (pws_set (ps_set (i := 4) screached.nd rfl (Or.inl rfl) pe_sem) (PWE.sem (pwe_bl)))
    (pwss_one (pws_forK 0 (ps_for PassesOwn.never rfl (pi_keys (pv 0)) pg_sem pss_sem) (pwg_of (pg_name (i := 5) screached.nd rfl (Or.inl rfl)) (rung_name 5)) (pwss_one (pws_if (PWW.pt (pww_and (pwt_of (pt_cmpR (op_notinA hu) pe_sem pe_sem (by rfl)) (run_bin ok_in (pwo_var 5 (pv 5)) (pwo_var 3 (pv 3)))) (pww_and (pwt_of (pt_cmpR (op_notinA hu) pe_sem pe_sem (by rfl)) (run_bin ok_in (pwo_var 5 (pv 5)) (pwo_var 2 (pv 2)))) (pww_and1 (pwt_truth (pwo_val (by exact pwe_of (pe_lc1 rfl screached.nd (blkOk_by (own := [("x", 7)]) (N := Nreached) (sc := defScope sreached) (by decide +kernel))) (run_lc1 (own := [("x", 7)]) (by exact pwi_list (pwe_of (pe_ix (ix_all hu) pe_sem pe_sem (fun _ _ => rfl)) (run_bin ok_ix (pwo_var 0 (pv 0)) (pwo_var 5 (pv 5))))) (fun _ _ _ _ _ => by exact pwg_of (pg_name (i := 7) screached.nd rfl (by first | exact Or.inl rfl | exact Or.inr rfl)) (rung_name 7)) (fun _ _ _ _ _ => by exact pwt_of (pt_cmpR (op_inA hu) pe_sem pe_sem (by rfl)) (run_bin ok_in (pwo_var 7 (pv 7)) (pwo_var 3 (pv 3)))) (fun _ _ _ _ _ => by exact pwe_var 7 (pv 7)))))))))) (pwss_cons (pws_expr (ps_expr pe_sem) (PWE.sem (pwe_of (pe_bm PySem.F.plainAttrs_list PySem.F.slot_list_append PySem.F.type_list_append mt_append (pv 3) (pa_cons pe_sem pa_nil)) (run_app 3 (pwe_var 5 (pv 5))))))
    (pwss_one (pws_set (ps_set (i := 4) screached.nd rfl (Or.inl rfl) pe_sem) (PWE.sem (pwe_bl))))) (pwss_nil)))))))
    (pwss_one (pws_ret (pwe_mv 3 (pv 3))))))
theorem def_must_keep {f : Addr} {fd : FuncData} (T : Blt mg) (D_reached : Def P w K mg base 1 "reached" ["calls", "sources", "barred"] S_reached) (F : Fun K "must_keep" "must_keep" smust_keep f fd) (g : mg "must_keep" = some (.ref f))
    (rd : ∀ ρs R, S_must_keep ρs R → v_must_keep { nx := fun ρ' => R (.sh .non) (fin ρs ρ'), rt := fun r ρ' => R r (fin ρs ρ') } (ρs ++ uns 3)) (len : ∀ ρs R, S_must_keep ρs R → ρs.length = 3) : Def P w K mg base 2 "must_keep" ["calls", "edited", "call"] S_must_keep := by
  refine ⟨f, fd, fn_w F scmust_keep (by decide) len (fun cdv A outer s H E hr => ?_) rd, g, F.kp, F.binds fun _ _ _ _ _ _ us hl => match us, hl with | [_, _, _], _ => rfl⟩
  have hu : (A.deeper (envOfC "must_keep" (defScope smust_keep) s.heap.objs.size f cdv)).units + 1 < cLine := hu_of hr
  have hu64 : (A.deeper (envOfC "must_keep" (defScope smust_keep) s.heap.objs.size f cdv)).units + 64 < cLine := hr.units
  unfold v_must_keep
  exact pwss_cons (pws_set (ps_set (i := 3) scmust_keep.nd rfl (Or.inr rfl) pe_sem) (PWE.sem (pwe_callD D_reached (hr.mono (by decide)) (by rfl) (pwa_cons (pwo_val (pwe_var 0 (pv 0))) (pwa_cons (pwo_val (pwe_var 1 (pv 1))) (pwa_cons (pwo_val (pwe_sh (by exact pwe_of (pe_op op_addA pe_sem pe_sem) (run_bin ok_add (pwo_val (by exact pwe_lst (pwa_cons (pwo_val (by exact pwe_var 2 (pv 2))) (pwa_nil)))) (pwo_val (by exact pwe_of (pe_callTy (call_listA rfl) (by rfl) T.b_list (by decide +kernel) pa_sem) (run_prim ok_list (pwa_cons (pwo_val (by exact pwe_of (pe_ix (ix_all hu) pe_sem pe_sem (fun _ _ => rfl)) (run_bin ok_ix (pwo_var 0 (pv 0)) (pwo_var 2 (pv 2))))) (pwa_nil))))))))) (pwa_nil)))))))
    (pwss_cons (pws_forK 0 (ps_for PassesOwn.never rfl (pi_keys (pv 0)) pg_sem pss_sem) (pwg_of (pg_name (i := 4) scmust_keep.nd rfl (Or.inl rfl)) (rung_name 4)) (pwss_one (pws_if (PWW.pt (pww_and (pwt_of (pt_cmpR (op_inA hu) pe_sem pe_sem (by rfl)) (run_bin ok_in (pwo_var 2 (pv 2)) (pwo_val (by exact pwe_of (pe_ix (ix_all hu) pe_sem pe_sem (fun _ _ => rfl)) (run_bin ok_ix (pwo_var 0 (pv 0)) (pwo_var 4 (pv 4))))))) (pww_and1 (pwt_truth (pwo_val (by exact pwe_of (pe_lc1 rfl scmust_keep.nd (blkOk_by (own := [("x", 5)]) (N := Nmust_keep) (sc := defScope smust_keep) (by decide +kernel))) (run_lc1 (own := [("x", 5)]) (by exact pwi_list (pwe_of (pe_ix (ix_all hu) pe_sem pe_sem (fun _ _ => rfl)) (run_bin ok_ix (pwo_var 0 (pv 0)) (pwo_var 4 (pv 4))))) (fun _ _ _ _ _ => by exact pwg_of (pg_name (i := 5) scmust_keep.nd rfl (by first | exact Or.inl rfl | exact Or.inr rfl)) (rung_name 5)) (fun _ _ _ _ _ => by exact pwt_of (pt_cmpR (op_inA hu) pe_sem pe_sem (by rfl)) (run_bin ok_in (pwo_var 5 (pv 5)) (pwo_var 3 (pv 3)))) (fun _ _ _ _ _ => by exact pwe_var 5 (pv 5))))))))) (pwss_one (pws_ret (pwe_bl))) (pwss_nil))))
    (pwss_one (pws_ret (pwe_bl))))
theorem def_plain_keep {f : Addr} {fd : FuncData} (T : Blt mg) (D_must_keep : Def P w K mg base 2 "must_keep" ["calls", "edited", "call"] S_must_keep) (F : Fun K "plain_keep" "plain_keep" splain_keep f fd) (g : mg "plain_keep" = some (.ref f))
    (rd : ∀ ρs R, S_plain_keep ρs R → v_plain_keep { nx := fun ρ' => R (.sh .non) (fin ρs ρ'), rt := fun r ρ' => R r (fin ρs ρ') } (ρs ++ uns 1)) (len : ∀ ρs R, S_plain_keep ρs R → ρs.length = 3) : Def P w K mg base 3 "plain_keep" ["calls", "edited", "asked"] S_plain_keep := by
  refine ⟨f, fd, fn_w F scplain_keep (by decide) len (fun cdv A outer s H E hr => ?_) rd, g, F.kp, F.binds fun _ _ _ _ _ _ us hl => match us, hl with | [_, _, _], _ => rfl⟩
  have hu : (A.deeper (envOfC "plain_keep" (defScope splain_keep) s.heap.objs.size f cdv)).units + 1 < cLine := hu_of hr
  have hu64 : (A.deeper (envOfC "plain_keep" (defScope splain_keep) s.heap.objs.size f cdv)).units + 64 < cLine := hr.units
  unfold v_plain_keep
  exact pwss_one (pws_ret (pwe_of (pe_callB call_sortedA (by rfl) T.b_sorted (by decide +kernel) pa_sem) (run_prim ok_sorted (pwa_cons (pwo_val (by exact pwe_lcK 0 (pe_lcK1 (own := [("call", 3)]) rfl scplain_keep.nd (pi_keys (pv 0)) (blkOk_by (own := [("call", 3)]) (N := Nplain_keep) (sc := defScope splain_keep) (by decide +kernel))) (rung_U (fun _ _ _ _ _ => by exact pwg_of (pg_name (i := 3) scplain_keep.nd rfl (by first | exact Or.inl rfl | exact Or.inr rfl)) (rung_name 3))) (runt_U (fun _ _ _ _ _ => by exact PWW.pt (pww_or (pwt_of (pt_cmpR (op_inA hu) pe_sem pe_sem (by rfl)) (run_bin ok_in (pwo_var 3 (pv 3)) (pwo_var 2 (pv 2)))) (pww_or1 (pwt_truth (pwo_val (by exact pwe_callD D_must_keep (hr.mono (by decide)) (by rfl) (pwa_cons (pwo_val (pwe_var 0 (pv 0))) (pwa_cons (pwo_val (pwe_var 1 (pv 1))) (pwa_cons (pwo_val (pwe_var 3 (pv 3))) (pwa_nil))))))))))) (rune_U (fun _ _ _ _ _ => by exact pwe_var 3 (pv 3))) (by decide))) (pwa_nil)))))
theorem def_plain_costs {f : Addr} {fd : FuncData} (T : Blt mg) (D_reached : Def P w K mg base 1 "reached" ["calls", "sources", "barred"] S_reached) (F : Fun K "plain_costs" "plain_costs" splain_costs f fd) (g : mg "plain_costs" = some (.ref f))
    (rd : ∀ ρs R, S_plain_costs ρs R → v_plain_costs { nx := fun ρ' => R (.sh .non) (fin ρs ρ'), rt := fun r ρ' => R r (fin ρs ρ') } (ρs ++ uns 6)) (len : ∀ ρs R, S_plain_costs ρs R → ρs.length = 2) : Def P w K mg base 2 "plain_costs" ["calls", "edited"] S_plain_costs := by
  refine ⟨f, fd, fn_w F scplain_costs (by decide) len (fun cdv A outer s H E hr => ?_) rd, g, F.kp, F.binds fun _ _ _ _ _ _ us hl => match us, hl with | [_, _], _ => rfl⟩
  have hu : (A.deeper (envOfC "plain_costs" (defScope splain_costs) s.heap.objs.size f cdv)).units + 1 < cLine := hu_of hr
  have hu64 : (A.deeper (envOfC "plain_costs" (defScope splain_costs) s.heap.objs.size f cdv)).units + 64 < cLine := hr.units
  unfold v_plain_costs
  exact pwss_cons (pws_set (ps_set (i := 2) scplain_costs.nd rfl (Or.inl rfl) pe_sem) (PWE.sem (pwe_of (pe_callB call_lenA (by rfl) T.b_len (by decide +kernel) pa_sem) (run_prim ok_len (pwa_cons (pwo_val (by exact pwe_lcK 0 (pe_lcK1 (own := [("call", 6)]) rfl scplain_costs.nd (pi_keys (pv 0)) (blkOk_by (own := [("call", 6)]) (N := Nplain_costs) (sc := defScope splain_costs) (by decide +kernel))) (rung_U (fun _ _ _ _ _ => by exact pwg_of (pg_name (i := 6) scplain_costs.nd rfl (by first | exact Or.inl rfl | exact Or.inr rfl)) (rung_name 6))) (runt_U (fun _ _ _ _ _ => by exact pwt_truth (pwo_val (by exact pwe_of (pe_lc1 rfl scplain_costs.nd (blkOk_by (own := [("x", 7)]) (N := Nplain_costs) (sc := relS _ (defScope splain_costs)) (by decide +kernel))) (run_lc1 (own := [("x", 7)]) (by exact pwi_list (pwe_of (pe_ix (ix_all hu) pe_sem pe_sem (fun _ _ => rfl)) (run_bin ok_ix (pwo_var 0 (pv 0)) (pwo_var 6 (pv 6))))) (fun _ _ _ _ _ => by exact pwg_of (pg_name (i := 7) scplain_costs.nd rfl (by first | exact Or.inl rfl | exact Or.inr rfl)) (rung_name 7)) (fun _ _ _ _ _ => by exact pwt_of (pt_cmpR (op_inA hu) pe_sem pe_sem (by rfl)) (run_bin ok_in (pwo_var 7 (pv 7)) (pwo_var 1 (pv 1)))) (fun _ _ _ _ _ => by exact pwe_var 7 (pv 7))))))) (rune_U (fun _ _ _ _ _ => by exact pwe_var 6 (pv 6))) (by decide))) (pwa_nil))))))
    (pwss_cons (pws_set (ps_setLc1 (i := 3) rfl scplain_costs.nd rfl rfl (sw_true rfl rfl rfl (by decide +kernel)) pi_sem (blkOk_by (own := [("source", 5)]) (N := Nplain_costs) (sc := defScope splain_costs) (by decide +kernel))) (run_lc1 (own := [("source", 5)]) (by exact pwi_list (pwe_var 1 (pv 1))) (fun _ _ _ _ _ => by exact pwg_of (pg_name (i := 5) scplain_costs.nd rfl (by first | exact Or.inl rfl | exact Or.inr rfl)) (rung_name 5)) (fun _ _ _ _ _ => by exact pwt_of (pt_cmpR (op_notinA hu) pe_sem pe_sem (by rfl)) (run_bin ok_in (pwo_var 5 (pv 5)) (pwo_var 0 (pv 0)))) (fun _ _ _ _ _ => by exact pwe_var 5 (pv 5))))
    (pwss_cons (pws_set (ps_set (i := 4) scplain_costs.nd rfl (Or.inr rfl) pe_sem) (PWE.sem (pwe_callD D_reached (hr.mono (by decide)) (by rfl) (pwa_cons (pwo_val (pwe_var 0 (pv 0))) (pwa_cons (pwo_val (pwe_var 3 (pv 3))) (pwa_cons (pwo_val (pwe_sh (by exact pwe_lst (pwa_nil)))) (pwa_nil)))))))
    (pwss_one (pws_ret (pwe_tup (pwa_cons (pwo_val (by exact pwe_var 2 (pv 2))) (pwa_cons (pwo_val (by exact pwe_of (pe_callB call_lenA (by rfl) T.b_len (by decide +kernel) pa_sem) (run_prim ok_len (pwa_cons (pwo_val (by exact pwe_lcK 0 (pe_lcK1 (own := [("call", 6)]) rfl scplain_costs.nd (pi_keys (pv 0)) (blkOk_by (own := [("call", 6)]) (N := Nplain_costs) (sc := defScope splain_costs) (by decide +kernel))) (rung_U (fun _ _ _ _ _ => by exact pwg_of (pg_name (i := 6) scplain_costs.nd rfl (by first | exact Or.inl rfl | exact Or.inr rfl)) (rung_name 6))) (runt_U (fun _ _ _ _ _ => by exact pwt_of (pt_cmpR (op_inA hu) pe_sem pe_sem (by rfl)) (run_bin ok_in (pwo_var 6 (pv 6)) (pwo_var 4 (pv 4))))) (rune_U (fun _ _ _ _ _ => by exact pwe_var 6 (pv 6))) (by decide))) (pwa_nil))))) (pwa_nil))))))))
theorem def_source {f : Addr} {fd : FuncData} (T : Blt mg) (F : Fun K "_law_source" "_law_source" ssource f fd) (g : mg "_law_source" = some (.ref f))
    (rd : ∀ ρs R, S_source ρs R → v_source { nx := fun ρ' => R (.sh .non) (fin ρs ρ'), rt := fun r ρ' => R r (fin ρs ρ') } (ρs ++ uns 4)) (len : ∀ ρs R, S_source ρs R → ρs.length = 2) : Def P w K mg base 1 "_law_source" ["script", "at"] S_source := by
  refine ⟨f, fd, fn_w F scsource (by decide) len (fun cdv A outer s H E hr => ?_) rd, g, F.kp, F.binds fun _ _ _ _ _ _ us hl => match us, hl with | [_, _], _ => rfl⟩
  have hu : (A.deeper (envOfC "_law_source" (defScope ssource) s.heap.objs.size f cdv)).units + 1 < cLine := hu_of hr
  have hu64 : (A.deeper (envOfC "_law_source" (defScope ssource) s.heap.objs.size f cdv)).units + 64 < cLine := hr.units
  unfold v_source
  exact pwss_cons (pws_set (ps_set (i := 2) scsource.nd rfl (Or.inl rfl) pe_sem) (PWE.sem (pwe_if (pwt_of (pt_cmpR op_ltA pe_sem pe_sem (nomark _)) (run_bin ok_lt (pwo_var 1 (pv 1)) (pwo_val (by exact pwe_of (pe_callB call_lenA (by rfl) T.b_len (by decide +kernel) pa_sem) (run_prim ok_len (pwa_cons (pwo_var 0 (pv 0)) (pwa_nil))))))) (pwe_of (pe_callTy call_int1 (by rfl) T.b_int (by decide +kernel) pa_sem) (run_prim ok_int (pwa_cons (pwo_val (by exact pwe_of (pe_ix (ix_all hu) pe_sem pe_sem (fun _ _ => rfl)) (run_bin ok_ix (pwo_var 0 (pv 0)) (pwo_var 1 (pv 1))))) (pwa_nil)))) (pwe_of (pe_op op_addA pe_sem pe_sem) (run_bin ok_add (pwo_val (by exact pwe_of (pe_op op_mulA pe_sem pe_sem) (run_bin ok_mul (pwo_val (by exact pwe_int)) (pwo_val (by exact pwe_of (pe_callB (cr_sum rfl) (by rfl) T.b_sum (by decide +kernel) pa_sem) (run_prim ok_sum (pwa_cons (pwo_val (by exact pwe_of (pe_lc0 rfl scsource.nd (blkOk_by (own := [("one", 5)]) (N := Nsource) (sc := defScope ssource) (by decide +kernel))) (run_lc0 (own := [("one", 5)]) (by exact pwi_list (pwe_of (pe_slice sl_all pe_sem po_none (po_some pe_sem)) (run_sl (pwo_var 0 (pv 0)) runo_none (runo_some (pwe_int))))) (fun _ _ _ _ _ => by exact pwg_of (pg_name (i := 5) scsource.nd rfl (by first | exact Or.inl rfl | exact Or.inr rfl)) (rung_name 5)) (fun _ _ _ _ _ => by exact pwe_of (pe_op op_mod pe_sem pe_sem) (run_bin ok_mod (pwo_val (by exact pwe_of (pe_callTy call_int1 (by rfl) T.b_int (by decide +kernel) pa_sem) (run_prim ok_int (pwa_cons (pwo_var 5 (pv 5)) (pwa_nil))))) (pwo_val (by exact pwe_int))))))) (pwa_nil)))))))) (pwo_val (by exact pwe_int)))))))
    (pwss_cons (pws_set (ps_set (i := 3) scsource.nd rfl (Or.inl rfl) pe_sem) (PWE.sem (pwe_of (pe_op op_mod pe_sem pe_sem) (run_bin ok_mod (pwo_val (by exact pwe_of (pe_callB call_abs (by rfl) T.b_abs (by decide +kernel) pa_sem) (run_prim ok_abs (pwa_cons (pwo_var 2 (pv 2)) (pwa_nil))))) (pwo_val (by exact pwe_of (pe_op op_mulA pe_sem pe_sem) (run_bin ok_mul (pwo_val (by exact pwe_of (pe_op op_pow pe_sem pe_sem) (run_bin ok_pow (pwo_val (by exact pwe_int)) (pwo_val (by exact pwe_int))))) (pwo_val (by exact pwe_of (pe_op op_pow pe_sem pe_sem) (run_bin ok_pow (pwo_val (by exact pwe_int)) (pwo_val (by exact pwe_int))))))))))))
    (pwss_cons (pws_set (ps_set (i := 4) scsource.nd rfl (Or.inl rfl) pe_sem) (PWE.sem (pwe_of (pe_op op_mod pe_sem pe_sem) (run_bin ok_mod (pwo_val (by exact pwe_of (pe_callTy call_int1 (by rfl) T.b_int (by decide +kernel) pa_sem) (run_prim ok_int (pwa_cons (pwo_val (by exact pwe_of (pe_op op_addA pe_sem pe_sem) (run_bin ok_add (pwo_val (by exact pwe_of (pe_op op_addA pe_sem pe_sem) (run_bin ok_add (pwo_val (by exact pwe_of (pe_op op_addA pe_sem pe_sem) (run_bin ok_add (pwo_val (by exact pwe_of (pe_op op_mulA pe_sem pe_sem) (run_bin ok_mul (pwo_val (by exact pwe_int)) (pwo_var 3 (pv 3))))) (pwo_val (by exact pwe_if (pwt_of (pt_cmpR op_ltA pe_sem pe_sem (nomark _)) (run_bin ok_lt (pwo_var 2 (pv 2)) (pwo_val (by exact pwe_int)))) (pwe_int) (pwe_int)))))) (pwo_val (by exact pwe_of (pe_op op_mulA pe_sem pe_sem) (run_bin ok_mul (pwo_var 1 (pv 1)) (pwo_val (by exact pwe_int)))))))) (pwo_val (by exact pwe_int))))) (pwa_nil))))) (pwo_val (by exact pwe_int))))))
    (pwss_one (pws_ret (pwe_lst (pwa_cons (pwo_val (by exact pwe_if (pwt_of (pt_cmpR op_ge pe_sem pe_sem (nomark _)) (run_bin ok_ge (pwo_var 3 (pv 3)) (pwo_val (by exact pwe_of (pe_op op_pow pe_sem pe_sem) (run_bin ok_pow (pwo_val (by exact pwe_int)) (pwo_val (by exact pwe_int))))))) (pwe_var 3 (pv 3)) (pwe_int))) (pwa_cons (pwo_val (by exact pwe_of (pe_op op_mod pe_sem pe_sem) (run_bin ok_mod (pwo_val (by exact pwe_of (pe_callTy call_int1 (by rfl) T.b_int (by decide +kernel) pa_sem) (run_prim ok_int (pwa_cons (pwo_val (by exact pwe_of (pe_op op_mulA pe_sem pe_sem) (run_bin ok_mul (pwo_val (by exact pwe_of (pe_op op_addA pe_sem pe_sem) (run_bin ok_add (pwo_var 4 (pv 4)) (pwo_val (by exact pwe_int))))) (pwo_val (by exact pwe_of (pe_op op_addA pe_sem pe_sem) (run_bin ok_add (pwo_var 4 (pv 4)) (pwo_val (by exact pwe_int)))))))) (pwa_nil))))) (pwo_val (by exact pwe_int))))) (pwa_cons (pwo_val (by exact pwe_var 1 (pv 1))) (pwa_nil)))))))))
theorem def_pick {f : Addr} {fd : FuncData} (T : Blt mg) (F : Fun K "_law_pick" "_law_pick" spick f fd) (g : mg "_law_pick" = some (.ref f))
    (rd : ∀ ρs R, S_pick ρs R → v_pick { nx := fun ρ' => R (.sh .non) (fin ρs ρ'), rt := fun r ρ' => R r (fin ρs ρ') } (ρs ++ uns 1)) (len : ∀ ρs R, S_pick ρs R → ρs.length = 2) : Def P w K mg base 1 "_law_pick" ["source", "many"] S_pick := by
  refine ⟨f, fd, fn_w F scpick (by decide) len (fun cdv A outer s H E hr => ?_) rd, g, F.kp, F.binds fun _ _ _ _ _ _ us hl => match us, hl with | [_, _], _ => rfl⟩
  have hu : (A.deeper (envOfC "_law_pick" (defScope spick) s.heap.objs.size f cdv)).units + 1 < cLine := hu_of hr
  have hu64 : (A.deeper (envOfC "_law_pick" (defScope spick) s.heap.objs.size f cdv)).units + 64 < cLine := hr.units
  unfold v_pick
  exact pwss_cons (pws_if (pwt_of (pt_cmpR op_gtA pe_sem pe_sem (nomark _)) (run_bin ok_gt (pwo_val (by exact pwe_of (pe_ix (ix_all hu) pe_sem pe_sem (fun _ _ => rfl)) (run_bin ok_ix (pwo_var 0 (pv 0)) (pwo_val (by exact pwe_int))))) (pwo_val (by exact pwe_int)))) (pwss_cons (pws_set (ps_set (i := 2) scpick.nd rfl (Or.inl rfl) pe_sem) (PWE.sem (pwe_of (pe_op op_mod pe_sem pe_sem) (run_bin ok_mod (pwo_val (by exact pwe_of (pe_callTy call_int1 (by rfl) T.b_int (by decide +kernel) pa_sem) (run_prim ok_int (pwa_cons (pwo_val (by exact pwe_of (pe_ix (ix_all hu) pe_sem pe_sem (fun _ _ => rfl)) (run_bin ok_ix (pwo_var 0 (pv 0)) (pwo_val (by exact pwe_int))))) (pwa_nil))))) (pwo_var 1 (pv 1))))))
    (pwss_cons (pws_setL 0 (ps_asg pe_sem (pg_sub (pv 0) pe_sem set_list)) (pwe_int) (pwe_of (pe_op op_divA pe_sem pe_sem) (run_bin ok_div (pwo_val (by exact pwe_of (pe_ix (ix_all hu) pe_sem pe_sem (fun _ _ => rfl)) (run_bin ok_ix (pwo_var 0 (pv 0)) (pwo_val (by exact pwe_int))))) (pwo_var 1 (pv 1)))))
    (pwss_one (pws_ret (pwe_mv 2 (pv 2)))))) (pwss_nil))
    (pwss_cons (pws_augL 0 (ps_augS (pv 0) pe_sem pget_list pe_sem ip_addA set_list) ok_iadd (pwe_int) (pwe_int))
    (pwss_cons (pws_setL 0 (ps_asg pe_sem (pg_sub (pv 0) pe_sem set_list)) (pwe_int) (pwe_of (pe_op op_mod pe_sem pe_sem) (run_bin ok_mod (pwo_val (by exact pwe_of (pe_callTy call_int1 (by rfl) T.b_int (by decide +kernel) pa_sem) (run_prim ok_int (pwa_cons (pwo_val (by exact pwe_of (pe_op op_addA pe_sem pe_sem) (run_bin ok_add (pwo_val (by exact pwe_of (pe_op op_mulA pe_sem pe_sem) (run_bin ok_mul (pwo_val (by exact pwe_of (pe_ix (ix_all hu) pe_sem pe_sem (fun _ _ => rfl)) (run_bin ok_ix (pwo_var 0 (pv 0)) (pwo_val (by exact pwe_int))))) (pwo_val (by exact pwe_int))))) (pwo_val (by exact pwe_of (pe_op op_mulA pe_sem pe_sem) (run_bin ok_mul (pwo_val (by exact pwe_of (pe_ix (ix_all hu) pe_sem pe_sem (fun _ _ => rfl)) (run_bin ok_ix (pwo_var 0 (pv 0)) (pwo_val (by exact pwe_int))))) (pwo_val (by exact pwe_int)))))))) (pwa_nil))))) (pwo_val (by exact pwe_int)))))
    (pwss_one (pws_ret (pwe_of (pe_op op_mod pe_sem pe_sem) (run_bin ok_mod (pwo_val (by exact pwe_of (pe_op op_divA pe_sem pe_sem) (run_bin ok_div (pwo_val (by exact pwe_of (pe_op op_mod pe_sem pe_sem) (run_bin ok_mod (pwo_val (by exact pwe_of (pe_callTy call_int1 (by rfl) T.b_int (by decide +kernel) pa_sem) (run_prim ok_int (pwa_cons (pwo_val (by exact pwe_of (pe_op op_addA pe_sem pe_sem) (run_bin ok_add (pwo_val (by exact pwe_of (pe_op op_mulA pe_sem pe_sem) (run_bin ok_mul (pwo_val (by exact pwe_of (pe_ix (ix_all hu) pe_sem pe_sem (fun _ _ => rfl)) (run_bin ok_ix (pwo_var 0 (pv 0)) (pwo_val (by exact pwe_int))))) (pwo_val (by exact pwe_int))))) (pwo_val (by exact pwe_of (pe_op op_mulA pe_sem pe_sem) (run_bin ok_mul (pwo_val (by exact pwe_of (pe_ix (ix_all hu) pe_sem pe_sem (fun _ _ => rfl)) (run_bin ok_ix (pwo_var 0 (pv 0)) (pwo_val (by exact pwe_int))))) (pwo_val (by exact pwe_int)))))))) (pwa_nil))))) (pwo_val (by exact pwe_int))))) (pwo_val (by exact pwe_int))))) (pwo_var 1 (pv 1))))))))
theorem def_choice {f : Addr} {fd : FuncData} (T : Blt mg) (D_pick : Def P w K mg base 1 "_law_pick" ["source", "many"] S_pick) (F : Fun K "_law_choice" "_law_choice" schoice f fd) (g : mg "_law_choice" = some (.ref f))
    (rd : ∀ ρs R, S_choice ρs R → v_choice { nx := fun ρ' => R (.sh .non) (fin ρs ρ'), rt := fun r ρ' => R r (fin ρs ρ') } (ρs ++ uns 0)) (len : ∀ ρs R, S_choice ρs R → ρs.length = 2) : Def P w K mg base 2 "_law_choice" ["source", "things"] S_choice := by
  refine ⟨f, fd, fn_w F scchoice (by decide) len (fun cdv A outer s H E hr => ?_) rd, g, F.kp, F.binds fun _ _ _ _ _ _ us hl => match us, hl with | [_, _], _ => rfl⟩
  have hu : (A.deeper (envOfC "_law_choice" (defScope schoice) s.heap.objs.size f cdv)).units + 1 < cLine := hu_of hr
  have hu64 : (A.deeper (envOfC "_law_choice" (defScope schoice) s.heap.objs.size f cdv)).units + 64 < cLine := hr.units
  unfold v_choice
  exact pwss_one (pws_ret (pwe_of (pe_ix (ix_all hu) pe_sem pe_sem (fun _ _ => rfl)) (run_bin ok_ix (pwo_var 1 (pv 1)) (pwo_val (by exact pwe_callD D_pick (hr.mono (by decide)) (by rfl) (pwa_cons (pwo_var 0 (pv 0)) (pwa_cons (pwo_val (pwe_sh (by exact pwe_of (pe_callB call_lenA (by rfl) T.b_len (by decide +kernel) pa_sem) (run_prim ok_len (pwa_cons (pwo_var 1 (pv 1)) (pwa_nil)))))) (pwa_nil))))))))
theorem def_shuffled {f : Addr} {fd : FuncData} (T : Blt mg) (D_pick : Def P w K mg base 1 "_law_pick" ["source", "many"] S_pick) (F : Fun K "_law_shuffled" "_law_shuffled" sshuffled f fd) (g : mg "_law_shuffled" = some (.ref f))
    (rd : ∀ ρs R, S_shuffled ρs R → v_shuffled { nx := fun ρ' => R (.sh .non) (fin ρs ρ'), rt := fun r ρ' => R r (fin ρs ρ') } (ρs ++ uns 2)) (len : ∀ ρs R, S_shuffled ρs R → ρs.length = 2) : Def P w K mg base 2 "_law_shuffled" ["source", "things"] S_shuffled := by
  refine ⟨f, fd, fn_w F scshuffled (by decide) len (fun cdv A outer s H E hr => ?_) rd, g, F.kp, F.binds fun _ _ _ _ _ _ us hl => match us, hl with | [_, _], _ => rfl⟩
  have hu : (A.deeper (envOfC "_law_shuffled" (defScope sshuffled) s.heap.objs.size f cdv)).units + 1 < cLine := hu_of hr
  have hu64 : (A.deeper (envOfC "_law_shuffled" (defScope sshuffled) s.heap.objs.size f cdv)).units + 64 < cLine := hr.units
  unfold v_shuffled
  exact pwss_cons (pws_set (ps_set (i := 2) scshuffled.nd rfl (Or.inl rfl) pe_sem) (PWE.sem (pwe_of (pe_callTy (call_listA rfl) (by rfl) T.b_list (by decide +kernel) pa_sem) (run_prim ok_list (pwa_cons (pwo_var 1 (pv 1)) (pwa_nil))))))
    (pwss_cons (pws_set (ps_set (i := 3) scshuffled.nd rfl (Or.inl rfl) pe_sem) (PWE.sem (pwe_lst (pwa_nil))))
    (pwss_cons (pws_while (ps_while PassesOwn.never pt_sem pss_sem) (pwt_of (pt_cmpR op_gtA pe_sem pe_sem (nomark _)) (run_bin ok_gt (pwo_val (by exact pwe_of (pe_callB call_lenA (by rfl) T.b_len (by decide +kernel) pa_sem) (run_prim ok_len (pwa_cons (pwo_var 2 (pv 2)) (pwa_nil))))) (pwo_val (by exact pwe_int)))) (pwss_one (pws_expr (ps_expr pe_sem) (PWE.sem (pwe_of (pe_bm PySem.F.plainAttrs_list PySem.F.slot_list_append PySem.F.type_list_append mt_append (pv 3) (pa_cons pe_sem pa_nil)) (run_app 3 (pwe_of (pe_bm PySem.F.plainAttrs_list PySem.F.slot_list_pop PySem.F.type_list_pop mt_popAt (pv 2) (pa_cons pe_sem pa_nil)) (run_popAt 2 (pwe_callD D_pick (hr.mono (by decide)) (by rfl) (pwa_cons (pwo_var 0 (pv 0)) (pwa_cons (pwo_val (pwe_sh (by exact pwe_of (pe_callB call_lenA (by rfl) T.b_len (by decide +kernel) pa_sem) (run_prim ok_len (pwa_cons (pwo_var 2 (pv 2)) (pwa_nil)))))) (pwa_nil))))))))))))
    (pwss_one (pws_ret (pwe_mv 3 (pv 3))))))
theorem def_words {f : Addr} {fd : FuncData} (T : Blt mg) (D_pick : Def P w K mg base 1 "_law_pick" ["source", "many"] S_pick) (D_shuffled : Def P w K mg base 2 "_law_shuffled" ["source", "things"] S_shuffled) (F : Fun K "_law_words" "_law_words" swords f fd) (g : mg "_law_words" = some (.ref f))
    (rd : ∀ ρs R, S_words ρs R → v_words { nx := fun ρ' => R (.sh .non) (fin ρs ρ'), rt := fun r ρ' => R r (fin ρs ρ') } (ρs ++ uns 4)) (len : ∀ ρs R, S_words ρs R → ρs.length = 3) : Def P w K mg base 3 "_law_words" ["source", "many", "before"] S_words := by
  refine ⟨f, fd, fn_w F scwords (by decide) len (fun cdv A outer s H E hr => ?_) rd, g, F.kp, F.binds fun _ _ _ _ _ _ us hl => match us, hl with | [_, _, _], _ => rfl⟩
  have hu : (A.deeper (envOfC "_law_words" (defScope swords) s.heap.objs.size f cdv)).units + 1 < cLine := hu_of hr
  have hu64 : (A.deeper (envOfC "_law_words" (defScope swords) s.heap.objs.size f cdv)).units + 64 < cLine := hr.units
  unfold v_words
  exact pwss_cons (pws_set (ps_set (i := 3) scwords.nd rfl (Or.inr rfl) pe_sem) (PWE.sem (pwe_str)))
    (pwss_cons (pws_set (ps_set (i := 4) scwords.nd rfl (Or.inr rfl) pe_sem) (PWE.sem (pwe_of (pe_join pe_sem pe_sem) (run_m1 ok_join (pwo_val (by exact pwe_str)) (pwo_val (by exact pwe_of (pe_lc0 rfl scwords.nd (blkOk_by (own := [("k", 6)]) (N := Nwords) (sc := defScope swords) (by decide +kernel))) (run_lc0 (own := [("k", 6)]) (by exact pwi_range1 (pi_range1 (by rfl) T.b_range pa_sem) (pwa_cons (pwo_val (by exact pwe_of (pe_op op_addA pe_sem pe_sem) (run_bin ok_add (pwo_val (by exact pwe_int)) (pwo_val (by exact pwe_callD D_pick (hr.mono (by decide)) (by rfl) (pwa_cons (pwo_var 0 (pv 0)) (pwa_cons (pwo_val (pwe_int)) (pwa_nil)))))))) (pwa_nil))) (fun _ _ _ _ _ => by exact pwg_of (pg_name (i := 6) scwords.nd rfl (by first | exact Or.inl rfl | exact Or.inr rfl)) (rung_name 6)) (fun _ _ _ _ _ => by exact pwe_of (pe_ix (ix_all hu) pe_sem pe_sem (fun _ _ => rfl)) (run_bin ok_ix (pwo_var 3 (pv 3)) (pwo_val (by exact pwe_callD D_pick (hr.mono (by decide)) (by rfl) (pwa_cons (pwo_var 0 (pv 0)) (pwa_cons (pwo_val (pwe_int)) (pwa_nil))))))))))))))
    (pwss_cons (pws_set (ps_set (i := 5) scwords.nd rfl (Or.inr rfl) pe_sem) (PWE.sem (pwe_of (pe_op op_addA pe_sem pe_sem) (run_bin ok_add (pwo_val (by exact pwe_int)) (pwo_val (by exact pwe_callD D_pick (hr.mono (by decide)) (by rfl) (pwa_cons (pwo_var 0 (pv 0)) (pwa_cons (pwo_val (pwe_sh (by exact pwe_of (pe_callB call_lenA (by rfl) T.b_len (by decide +kernel) pa_sem) (run_prim ok_len (pwa_cons (pwo_var 4 (pv 4)) (pwa_nil)))))) (pwa_nil)))))))))
    (pwss_one (pws_ret (pwe_callD D_shuffled (hr.mono (by decide)) (by rfl) (pwa_cons (pwo_var 0 (pv 0)) (pwa_cons (pwo_val (pwe_sh (by exact pwe_of (pe_lc0 rfl scwords.nd (blkOk_by (own := [("k", 6)]) (N := Nwords) (sc := defScope swords) (by decide +kernel))) (run_lc0 (own := [("k", 6)]) (by exact pwi_range1 (pi_range1 (by rfl) T.b_range pa_sem) (pwa_cons (pwo_var 1 (pv 1)) (pwa_nil))) (fun _ _ _ _ _ => by exact pwg_of (pg_name (i := 6) scwords.nd rfl (by first | exact Or.inl rfl | exact Or.inr rfl)) (rung_name 6)) (fun _ _ _ _ _ => by exact pwe_of (pe_op op_addA pe_sem pe_sem) (run_bin ok_add (pwo_val (by exact pwe_of (pe_op op_addA pe_sem pe_sem) (run_bin ok_add (pwo_val (by exact pwe_of (pe_slice sl_all pe_sem po_none (po_some pe_sem)) (run_sl (pwo_var 4 (pv 4)) runo_none (runo_some (pwe_var 5 (pv 5)))))) (pwo_val (by exact pwe_of (pe_callTy call_strA (by rfl) T.b_str (by decide +kernel) pa_sem) (run_prim ok_str (pwa_cons (pwo_val (by exact pwe_of (pe_op op_addA pe_sem pe_sem) (run_bin ok_add (pwo_val (by exact pwe_of (pe_op op_addA pe_sem pe_sem) (run_bin ok_add (pwo_val (by exact pwe_int)) (pwo_val (by exact pwe_of (pe_op op_mulA pe_sem pe_sem) (run_bin ok_mul (pwo_var 2 (pv 2)) (pwo_val (by exact pwe_int)))))))) (pwo_var 6 (pv 6))))) (pwa_nil)))))))) (pwo_val (by exact pwe_of (pe_slice sl_all pe_sem (po_some pe_sem) po_none) (run_sl (pwo_var 4 (pv 4)) (runo_some (pwe_var 5 (pv 5))) runo_none))))))))) (pwa_nil))))))))
theorem def_names {f : Addr} {fd : FuncData} (T : Blt mg) (D_choice : Def P w K mg base 2 "_law_choice" ["source", "things"] S_choice) (D_pick : Def P w K mg base 1 "_law_pick" ["source", "many"] S_pick) (D_shuffled : Def P w K mg base 2 "_law_shuffled" ["source", "things"] S_shuffled) (F : Fun K "_law_names" "_law_names" snames f fd) (g : mg "_law_names" = some (.ref f))
    (rd : ∀ ρs R, S_names ρs R → v_names { nx := fun ρ' => R (.sh .non) (fin ρs ρ'), rt := fun r ρ' => R r (fin ρs ρ') } (ρs ++ uns 5)) (len : ∀ ρs R, S_names ρs R → ρs.length = 3) : Def P w K mg base 3 "_law_names" ["source", "many", "before"] S_names := by
  refine ⟨f, fd, fn_w F scnames (by decide) len (fun cdv A outer s H E hr => ?_) rd, g, F.kp, F.binds fun _ _ _ _ _ _ us hl => match us, hl with | [_, _, _], _ => rfl⟩
  have hu : (A.deeper (envOfC "_law_names" (defScope snames) s.heap.objs.size f cdv)).units + 1 < cLine := hu_of hr
  have hu64 : (A.deeper (envOfC "_law_names" (defScope snames) s.heap.objs.size f cdv)).units + 64 < cLine := hr.units
  unfold v_names
  exact pwss_cons (pws_set (ps_set (i := 3) scnames.nd rfl (Or.inr rfl) pe_sem) (PWE.sem (pwe_str)))
    (pwss_cons (pws_set (ps_set (i := 4) scnames.nd rfl (Or.inr rfl) pe_sem) (PWE.sem (pwe_of (pe_join pe_sem pe_sem) (run_m1 ok_join (pwo_val (by exact pwe_str)) (pwo_val (by exact pwe_of (pe_lc0 rfl scnames.nd (blkOk_by (own := [("k", 7)]) (N := Nnames) (sc := defScope snames) (by decide +kernel))) (run_lc0 (own := [("k", 7)]) (by exact pwi_range1 (pi_range1 (by rfl) T.b_range pa_sem) (pwa_cons (pwo_val (by exact pwe_of (pe_op op_addA pe_sem pe_sem) (run_bin ok_add (pwo_val (by exact pwe_int)) (pwo_val (by exact pwe_callD D_pick (hr.mono (by decide)) (by rfl) (pwa_cons (pwo_var 0 (pv 0)) (pwa_cons (pwo_val (pwe_int)) (pwa_nil)))))))) (pwa_nil))) (fun _ _ _ _ _ => by exact pwg_of (pg_name (i := 7) scnames.nd rfl (by first | exact Or.inl rfl | exact Or.inr rfl)) (rung_name 7)) (fun _ _ _ _ _ => by exact pwe_of (pe_ix (ix_all hu) pe_sem pe_sem (fun _ _ => rfl)) (run_bin ok_ix (pwo_var 3 (pv 3)) (pwo_val (by exact pwe_callD D_pick (hr.mono (by decide)) (by rfl) (pwa_cons (pwo_var 0 (pv 0)) (pwa_cons (pwo_val (pwe_int)) (pwa_nil))))))))))))))
    (pwss_cons (pws_set (ps_set (i := 5) scnames.nd rfl (Or.inr rfl) pe_sem) (PWE.sem (pwe_callD D_choice (hr.mono (by decide)) (by rfl) (pwa_cons (pwo_var 0 (pv 0)) (pwa_cons (pwo_val (pwe_sh (by exact pwe_lst (pwa_cons (pwo_val (by exact pwe_str)) (pwa_cons (pwo_val (by exact pwe_str)) (pwa_cons (pwo_val (by exact pwe_str)) (pwa_cons (pwo_val (by exact pwe_str)) (pwa_nil)))))))) (pwa_nil))))))
    (pwss_cons (pws_set (ps_set (i := 6) scnames.nd rfl (Or.inr rfl) pe_sem) (PWE.sem (pwe_callD D_choice (hr.mono (by decide)) (by rfl) (pwa_cons (pwo_var 0 (pv 0)) (pwa_cons (pwo_val (pwe_sh (by exact pwe_lst (pwa_cons (pwo_val (by exact pwe_str)) (pwa_cons (pwo_val (by exact pwe_str)) (pwa_cons (pwo_val (by exact pwe_str)) (pwa_cons (pwo_val (by exact pwe_str)) (pwa_nil)))))))) (pwa_nil))))))
    (pwss_one (pws_ret (pwe_callD D_shuffled (hr.mono (by decide)) (by rfl) (pwa_cons (pwo_var 0 (pv 0)) (pwa_cons (pwo_val (pwe_sh (by exact pwe_of (pe_lc0 rfl scnames.nd (blkOk_by (own := [("k", 7)]) (N := Nnames) (sc := defScope snames) (by decide +kernel))) (run_lc0 (own := [("k", 7)]) (by exact pwi_range1 (pi_range1 (by rfl) T.b_range pa_sem) (pwa_cons (pwo_var 1 (pv 1)) (pwa_nil))) (fun _ _ _ _ _ => by exact pwg_of (pg_name (i := 7) scnames.nd rfl (by first | exact Or.inl rfl | exact Or.inr rfl)) (rung_name 7)) (fun _ _ _ _ _ => by exact pwe_of (pe_op op_addA pe_sem pe_sem) (run_bin ok_add (pwo_val (by exact pwe_of (pe_op op_addA pe_sem pe_sem) (run_bin ok_add (pwo_val (by exact pwe_of (pe_op op_addA pe_sem pe_sem) (run_bin ok_add (pwo_var 4 (pv 4)) (pwo_var 5 (pv 5))))) (pwo_val (by exact pwe_of (pe_callTy call_strA (by rfl) T.b_str (by decide +kernel) pa_sem) (run_prim ok_str (pwa_cons (pwo_val (by exact pwe_of (pe_op op_addA pe_sem pe_sem) (run_bin ok_add (pwo_val (by exact pwe_of (pe_op op_addA pe_sem pe_sem) (run_bin ok_add (pwo_val (by exact pwe_int)) (pwo_val (by exact pwe_of (pe_op op_mulA pe_sem pe_sem) (run_bin ok_mul (pwo_var 2 (pv 2)) (pwo_val (by exact pwe_int)))))))) (pwo_var 7 (pv 7))))) (pwa_nil)))))))) (pwo_var 6 (pv 6)))))))) (pwa_nil)))))))))
theorem def_same {f : Addr} {fd : FuncData} (T : Blt mg) {kr : Nat} {S_same S1_same : VSp} (D_same : Def P w K mg base kr "_law_same" ["answer", "due"] S_same) (F : Fun K "_law_same" "_law_same" ssame f fd) (g : mg "_law_same" = some (.ref f))
    (rd : ∀ ρs R, S1_same ρs R → v_same S_same { nx := fun ρ' => R (.sh .non) (fin ρs ρ'), rt := fun r ρ' => R r (fin ρs ρ') } (ρs ++ uns 4)) (len : ∀ ρs R, S1_same ρs R → ρs.length = 2) : Def P w K mg base (kr + 1) "_law_same" ["answer", "due"] S1_same := by
  refine ⟨f, fd, fn_w F scsame (by decide) len (fun cdv A outer s H E hr => ?_) rd, g, F.kp, F.binds fun _ _ _ _ _ _ us hl => match us, hl with | [_, _], _ => rfl⟩
  have hu : (A.deeper (envOfC "_law_same" (defScope ssame) s.heap.objs.size f cdv)).units + 1 < cLine := hu_of hr
  have hu64 : (A.deeper (envOfC "_law_same" (defScope ssame) s.heap.objs.size f cdv)).units + 64 < cLine := hr.units
  unfold v_same
  exact pwss_cons (pws_if (pwt_truth (pwo_val (by exact pwe_of (pe_callB call_isi (by rfl) T.b_isinstance (by decide +kernel) pa_sem) (run_prim ok_isi (pwa_cons (pwo_var 1 (pv 1)) (pwa_cons (pwo_val (by exact pwe_c (pe_bltn (v := .ty "dict") (by rfl) T.b_dict (by decide +kernel) rfl) (fun _ _ => .opq))) (pwa_nil))))))) (pwss_cons (pws_setLcK 1 (ps_setLc0 (i := 2) (own := [("key", 3)]) rfl scsame.nd rfl rfl (sw_true rfl rfl rfl (by decide +kernel)) (pi_keys (pv 1)) (blkOk_by (own := [("key", 3)]) (N := Nsame) (sc := defScope ssame) (by decide +kernel))) (rung_U (fun _ _ _ _ _ => by exact pwg_of (pg_name (i := 3) scsame.nd rfl (by first | exact Or.inl rfl | exact Or.inr rfl)) (rung_name 3))) runt_yes (rune_U (fun _ _ _ _ _ => by exact pwe_lst (pwa_cons (pwo_val (by exact pwe_var 3 (pv 3))) (pwa_cons (pwo_val (by exact pwe_of (pe_ix (ix_all hu) pe_sem pe_sem (fun _ _ => rfl)) (run_bin ok_ix (pwo_var 1 (pv 1)) (pwo_var 3 (pv 3))))) (pwa_nil))))) (by decide))
    (pwss_cons (pws_if (PWW.pt (pww_or (pwt_not (pwt_truth (pwo_val (by exact pwe_of (pe_callB call_isi (by rfl) T.b_isinstance (by decide +kernel) pa_sem) (run_prim ok_isi (pwa_cons (pwo_var 0 (pv 0)) (pwa_cons (pwo_val (by exact pwe_c (pe_bltn (v := .ty "dict") (by rfl) T.b_dict (by decide +kernel) rfl) (fun _ _ => .opq))) (pwa_nil)))))))) (pww_or1 (pwt_of (pt_cmpR (op_neA hu64) pe_sem pe_sem (nomark _)) (run_bin ok_ne (pwo_val (by exact pwe_of (pe_callB call_lenA (by rfl) T.b_len (by decide +kernel) pa_sem) (run_prim ok_len (pwa_cons (pwo_var 0 (pv 0)) (pwa_nil))))) (pwo_val (by exact pwe_of (pe_callB call_lenA (by rfl) T.b_len (by decide +kernel) pa_sem) (run_prim ok_len (pwa_cons (pwo_var 1 (pv 1)) (pwa_nil)))))))))) (pwss_one (pws_ret (pwe_bl))) (pwss_nil))
    (pwss_one (pws_ret (pwe_of (pe_callB (cr_all rfl) (by rfl) T.b_all (by decide +kernel) pa_sem) (run_prim ok_all (pwa_cons (pwo_val (by exact pwe_of (pe_lc0 rfl scsame.nd (blkOk_by (own := [("key", 3), ("one", 4)]) (N := Nsame) (sc := defScope ssame) (by decide +kernel))) (run_lc0 (own := [("key", 3), ("one", 4)]) (by exact pwi_list (pwe_var 2 (pv 2))) (fun _ _ _ _ _ => by exact pwg_of (pg_lst rfl (pgs_cons (pg_name (i := 3) scsame.nd rfl (by first | exact Or.inl rfl | exact Or.inr rfl)) (pgs_cons (pg_name (i := 4) scsame.nd rfl (by first | exact Or.inl rfl | exact Or.inr rfl)) pgs_nil))) (rung_lst [3, 4])) (fun _ _ _ _ _ => by exact pwe_and (pwe_of (pe_cmpR (op_inA hu) pe_sem pe_sem (by rfl)) (run_bin ok_in (pwo_var 3 (pv 3)) (pwo_var 0 (pv 0)))) (pwe_one (pwe_callD D_same (hr.mono (Nat.le_refl _)) (by rfl) (pwa_cons (pwo_val (pwe_sh (by exact pwe_of (pe_ix (ix_all hu) pe_sem pe_sem (fun _ _ => rfl)) (run_bin ok_ix (pwo_var 0 (pv 0)) (pwo_var 3 (pv 3)))))) (pwa_cons (pwo_val (pwe_var 4 (pv 4))) (pwa_nil))))))))) (pwa_nil)))))))) (pwss_nil))
    (pwss_cons (pws_if (pwt_truth (pwo_val (by exact pwe_of (pe_callB call_isiT (by rfl) T.b_isinstance (by decide +kernel) pa_sem) (run_prim ok_isiT (pwa_cons (pwo_var 1 (pv 1)) (pwa_cons (pwo_val (by exact pwe_tup (pwa_cons (pwo_val (by exact pwe_c (pe_bltn (v := .ty "list") (by rfl) T.b_list (by decide +kernel) rfl) (fun _ _ => .opq))) (pwa_cons (pwo_val (by exact pwe_c (pe_bltn (v := .ty "tuple") (by rfl) T.b_tuple (by decide +kernel) rfl) (fun _ _ => .opq))) (pwa_nil))))) (pwa_nil))))))) (pwss_cons (pws_if (PWW.pt (pww_or (pwt_of (pt_cmpR (op_neA hu64) pe_sem pe_sem (nomark _)) (run_bin ok_ne (pwo_val (by exact pwe_of (pe_callB call_isi (by rfl) T.b_isinstance (by decide +kernel) pa_sem) (run_prim ok_isi (pwa_cons (pwo_var 1 (pv 1)) (pwa_cons (pwo_val (by exact pwe_c (pe_bltn (v := .ty "list") (by rfl) T.b_list (by decide +kernel) rfl) (fun _ _ => .opq))) (pwa_nil)))))) (pwo_val (by exact pwe_of (pe_callB call_isi (by rfl) T.b_isinstance (by decide +kernel) pa_sem) (run_prim ok_isi (pwa_cons (pwo_var 0 (pv 0)) (pwa_cons (pwo_val (by exact pwe_c (pe_bltn (v := .ty "list") (by rfl) T.b_list (by decide +kernel) rfl) (fun _ _ => .opq))) (pwa_nil)))))))) (pww_or1 (pwt_of (pt_cmpR (op_neA hu64) pe_sem pe_sem (nomark _)) (run_bin ok_ne (pwo_val (by exact pwe_of (pe_callB call_isi (by rfl) T.b_isinstance (by decide +kernel) pa_sem) (run_prim ok_isi (pwa_cons (pwo_var 1 (pv 1)) (pwa_cons (pwo_val (by exact pwe_c (pe_bltn (v := .ty "tuple") (by rfl) T.b_tuple (by decide +kernel) rfl) (fun _ _ => .opq))) (pwa_nil)))))) (pwo_val (by exact pwe_of (pe_callB call_isi (by rfl) T.b_isinstance (by decide +kernel) pa_sem) (run_prim ok_isi (pwa_cons (pwo_var 0 (pv 0)) (pwa_cons (pwo_val (by exact pwe_c (pe_bltn (v := .ty "tuple") (by rfl) T.b_tuple (by decide +kernel) rfl) (fun _ _ => .opq))) (pwa_nil))))))))))) (pwss_one (pws_ret (pwe_bl))) (pwss_nil))
    (pwss_one (pws_ret (pwe_and (pwe_of (pe_cmpR (op_eqA hu64) pe_sem pe_sem (nomark _)) (run_bin ok_eq (pwo_val (by exact pwe_of (pe_callB call_lenA (by rfl) T.b_len (by decide +kernel) pa_sem) (run_prim ok_len (pwa_cons (pwo_var 0 (pv 0)) (pwa_nil))))) (pwo_val (by exact pwe_of (pe_callB call_lenA (by rfl) T.b_len (by decide +kernel) pa_sem) (run_prim ok_len (pwa_cons (pwo_var 1 (pv 1)) (pwa_nil))))))) (pwe_one (pwe_of (pe_callB (cr_all rfl) (by rfl) T.b_all (by decide +kernel) pa_sem) (run_prim ok_all (pwa_cons (pwo_val (by exact pwe_of (pe_lc0 rfl scsame.nd (blkOk_by (own := [("at", 5)]) (N := Nsame) (sc := defScope ssame) (by decide +kernel))) (run_lc0 (own := [("at", 5)]) (by exact pwi_range1 (pi_range1 (by rfl) T.b_range pa_sem) (pwa_cons (pwo_val (by exact pwe_of (pe_callB call_lenA (by rfl) T.b_len (by decide +kernel) pa_sem) (run_prim ok_len (pwa_cons (pwo_var 1 (pv 1)) (pwa_nil))))) (pwa_nil))) (fun _ _ _ _ _ => by exact pwg_of (pg_name (i := 5) scsame.nd rfl (by first | exact Or.inl rfl | exact Or.inr rfl)) (rung_name 5)) (fun _ _ _ _ _ => by exact pwe_callD D_same (hr.mono (Nat.le_refl _)) (by rfl) (pwa_cons (pwo_val (pwe_sh (by exact pwe_of (pe_ix (ix_all hu) pe_sem pe_sem (fun _ _ => rfl)) (run_bin ok_ix (pwo_var 0 (pv 0)) (pwo_var 5 (pv 5)))))) (pwa_cons (pwo_val (pwe_sh (by exact pwe_of (pe_ix (ix_all hu) pe_sem pe_sem (fun _ _ => rfl)) (run_bin ok_ix (pwo_var 1 (pv 1)) (pwo_var 5 (pv 5)))))) (pwa_nil))))))) (pwa_nil))))))))) (pwss_nil))
    (pwss_one (pws_ret (pwe_and (pwe_or (pwe_of (pe_cmpR op_isN pe_sem pe_sem (nomark _)) (run_bin ok_isN (pwo_var 0 (pv 0)) (pwo_val (by exact pwe_non)))) (pwe_one (pwe_of (pe_callB call_isiT (by rfl) T.b_isinstance (by decide +kernel) pa_sem) (run_prim ok_isiT (pwa_cons (pwo_var 0 (pv 0)) (pwa_cons (pwo_val (by exact pwe_tup (pwa_cons (pwo_val (by exact pwe_c (pe_bltn (v := .ty "int") (by rfl) T.b_int (by decide +kernel) rfl) (fun _ _ => .opq))) (pwa_cons (pwo_val (by exact pwe_c (pe_bltn (v := .ty "str") (by rfl) T.b_str (by decide +kernel) rfl) (fun _ _ => .opq))) (pwa_nil))))) (pwa_nil))))))) (pwe_one (pwe_of (pe_cmpR (op_eqA hu64) pe_sem pe_sem (nomark _)) (run_bin ok_eq (pwo_val (by exact pwe_of (pe_callB call_reprA (by rfl) T.b_repr (by decide +kernel) pa_sem) (run_prim ok_repr (pwa_cons (pwo_var 0 (pv 0)) (pwa_nil))))) (pwo_val (by exact pwe_of (pe_callB call_reprA (by rfl) T.b_repr (by decide +kernel) pa_sem) (run_prim ok_repr (pwa_cons (pwo_var 1 (pv 1)) (pwa_nil))))))))))))
theorem def_graph {f : Addr} {fd : FuncData} (T : Blt mg) (D_choice : Def P w K mg base 2 "_law_choice" ["source", "things"] S_choice) (D_names : Def P w K mg base 3 "_law_names" ["source", "many", "before"] S_names) (D_pick : Def P w K mg base 1 "_law_pick" ["source", "many"] S_pick) (D_words : Def P w K mg base 3 "_law_words" ["source", "many", "before"] S_words) (F : Fun K "_law_graph" "_law_graph" sgraph f fd) (g : mg "_law_graph" = some (.ref f))
    (rd : ∀ ρs R, S_graph ρs R → v_graph { nx := fun ρ' => R (.sh .non) (fin ρs ρ'), rt := fun r ρ' => R r (fin ρs ρ') } (ρs ++ uns 8)) (len : ∀ ρs R, S_graph ρs R → ρs.length = 1) : Def P w K mg base 4 "_law_graph" ["source"] S_graph := by
  refine ⟨f, fd, fn_w F scgraph (by decide) len (fun cdv A outer s H E hr => ?_) rd, g, F.kp, F.binds fun _ _ _ _ _ _ us hl => match us, hl with | [_], _ => rfl⟩
  have hu : (A.deeper (envOfC "_law_graph" (defScope sgraph) s.heap.objs.size f cdv)).units + 1 < cLine := hu_of hr
  have hu64 : (A.deeper (envOfC "_law_graph" (defScope sgraph) s.heap.objs.size f cdv)).units + 64 < cLine := hr.units
  unfold v_graph
  exact pwss_cons (pws_set (ps_set (i := 1) scgraph.nd rfl (Or.inl rfl) pe_sem) (PWE.sem (pwe_callD D_words (hr.mono (by decide)) (by rfl) (pwa_cons (pwo_var 0 (pv 0)) (pwa_cons (pwo_val (pwe_int)) (pwa_cons (pwo_val (pwe_int)) (pwa_nil)))))))
    (pwss_cons (pws_set (ps_set (i := 2) scgraph.nd rfl (Or.inl rfl) pe_sem) (PWE.sem (pwe_callD D_names (hr.mono (by decide)) (by rfl) (pwa_cons (pwo_var 0 (pv 0)) (pwa_cons (pwo_val (pwe_sh (by exact pwe_of (pe_op op_addA pe_sem pe_sem) (run_bin ok_add (pwo_val (by exact pwe_int)) (pwo_val (by exact pwe_callD D_pick (hr.mono (by decide)) (by rfl) (pwa_cons (pwo_var 0 (pv 0)) (pwa_cons (pwo_val (pwe_int)) (pwa_nil))))))))) (pwa_cons (pwo_val (pwe_int)) (pwa_nil)))))))
    (pwss_cons (pws_set (ps_set (i := 3) scgraph.nd rfl (Or.inl rfl) pe_sem) (PWE.sem (pwe_of (pe_op op_addA pe_sem pe_sem) (run_bin ok_add (pwo_val (by exact pwe_int)) (pwo_val (by exact pwe_callD D_pick (hr.mono (by decide)) (by rfl) (pwa_cons (pwo_var 0 (pv 0)) (pwa_cons (pwo_val (pwe_int)) (pwa_nil)))))))))
    (pwss_cons (pws_set (ps_set (i := 4) scgraph.nd rfl (Or.inl rfl) pe_sem) (PWE.sem (pwe_of pe_dnewK run_newD)))
    (pwss_cons (pws_for (ps_for PassesOwn.never rfl pi_sem pg_sem pss_sem) (pwi_range1 (pi_range1 (by rfl) T.b_range pa_sem) (pwa_cons (pwo_var 3 (pv 3)) (pwa_nil))) (pwg_of (pg_name (i := 5) scgraph.nd rfl (Or.inl rfl)) (rung_name 5)) (pwss_cons (pws_set (ps_set (i := 6) scgraph.nd rfl (Or.inr rfl) pe_sem) (PWE.sem (pwe_of (pe_op op_addA pe_sem pe_sem) (run_bin ok_add (pwo_val (by exact pwe_of (pe_op op_addA pe_sem pe_sem) (run_bin ok_add (pwo_var 2 (pv 2)) (pwo_val (by exact pwe_of (pe_slice sl_all pe_sem po_none (po_some pe_sem)) (run_sl (pwo_var 1 (pv 1)) runo_none (runo_some (pwe_var 5 (pv 5))))))))) (pwo_val (by exact pwe_of (pe_slice sl_all pe_sem (po_some pe_sem) (po_some pe_sem)) (run_sl (pwo_var 1 (pv 1)) (runo_some (pwe_of (pe_callB (call_maxA rfl) (by rfl) T.b_max (by decide +kernel) pa_sem) (run_prim ok_max (pwa_cons (pwo_val (by exact pwe_int)) (pwa_cons (pwo_val (by exact pwe_of (pe_op op_sub pe_sem pe_sem) (run_bin ok_sub (pwo_var 5 (pv 5)) (pwo_val (by exact pwe_int))))) (pwa_nil)))))) (runo_some (pwe_var 5 (pv 5))))))))))
    (pwss_cons (pws_set (ps_setLc0 (i := 7) rfl scgraph.nd rfl rfl (sw_true rfl rfl rfl (by decide +kernel)) pi_sem (blkOk_by (own := [("j", 8)]) (N := Ngraph) (sc := defScope sgraph) (by decide +kernel))) (run_lc0 (own := [("j", 8)]) (by exact pwi_range1 (pi_range1 (by rfl) T.b_range pa_sem) (pwa_cons (pwo_val (by exact pwe_of (pe_op op_addA pe_sem pe_sem) (run_bin ok_add (pwo_val (by exact pwe_int)) (pwo_val (by exact pwe_callD D_pick (hr.mono (by decide)) (by rfl) (pwa_cons (pwo_var 0 (pv 0)) (pwa_cons (pwo_val (pwe_int)) (pwa_nil)))))))) (pwa_nil))) (fun _ _ _ _ _ => by exact pwg_of (pg_name (i := 8) scgraph.nd rfl (by first | exact Or.inl rfl | exact Or.inr rfl)) (rung_name 8)) (fun _ _ _ _ _ => by exact pwe_callD D_choice (hr.mono (by decide)) (by rfl) (pwa_cons (pwo_var 0 (pv 0)) (pwa_cons (pwo_val (pwe_var 6 (pv 6))) (pwa_nil))))))
    (pwss_one (pws_putD 4 (ps_dput hu (pv 4) pe_sem pe_sem rfl) (pwe_of (pe_ix (ix_all hu) pe_sem pe_sem (fun _ _ => rfl)) (run_bin ok_ix (pwo_var 1 (pv 1)) (pwo_var 5 (pv 5)))) (pwe_var 7 (pv 7)))))))
    (pwss_one (pws_ret (pwe_tup (pwa_cons (pwo_val (by exact pwe_of (pe_slice sl_all pe_sem po_none (po_some pe_sem)) (run_sl (pwo_var 1 (pv 1)) runo_none (runo_some (pwe_var 3 (pv 3)))))) (pwa_cons (pwo_val (by exact pwe_var 4 (pv 4))) (pwa_cons (pwo_val (by exact pwe_var 2 (pv 2))) (pwa_nil)))))))))))
theorem def_all_worlds {f : Addr} {fd : FuncData} (T : Blt mg) (F : Fun K "_law_all_worlds" "_law_all_worlds" sall_worlds f fd) (g : mg "_law_all_worlds" = some (.ref f))
    (rd : ∀ ρs R, S_all_worlds ρs R → v_all_worlds { nx := fun ρ' => R (.sh .non) (fin ρs ρ'), rt := fun r ρ' => R r (fin ρs ρ') } (ρs ++ uns 8)) (len : ∀ ρs R, S_all_worlds ρs R → ρs.length = 4) : Def P w K mg base 1 "_law_all_worlds" ["order", "calls", "edited", "forced"] S_all_worlds := by
  refine ⟨f, fd, fn_w F scall_worlds (by decide) len (fun cdv A outer s H E hr => ?_) rd, g, F.kp, F.binds fun _ _ _ _ _ _ us hl => match us, hl with | [_, _, _, _], _ => rfl⟩
  have hu : (A.deeper (envOfC "_law_all_worlds" (defScope sall_worlds) s.heap.objs.size f cdv)).units + 1 < cLine := hu_of hr
  have hu64 : (A.deeper (envOfC "_law_all_worlds" (defScope sall_worlds) s.heap.objs.size f cdv)).units + 64 < cLine := hr.units
  unfold v_all_worlds
  exact pwss_cons (pws_set (ps_set (i := 4) scall_worlds.nd rfl (Or.inl rfl) pe_sem) (PWE.sem (pwe_lst (pwa_cons (pwo_val (by exact pwe_lst (pwa_cons (pwo_val (by exact pwe_lst (pwa_nil))) (pwa_cons (pwo_val (by exact pwe_lst (pwa_nil))) (pwa_nil))))) (pwa_nil)))))
    (pwss_cons (pws_for (ps_for PassesOwn.never rfl pi_sem pg_sem pss_sem) (pwi_list (pwe_var 2 (pv 2))) (pwg_of (pg_name (i := 5) scall_worlds.nd rfl (Or.inr rfl)) (rung_name 5)) (pwss_one (pws_set (ps_set (i := 4) scall_worlds.nd rfl (Or.inl rfl) pe_sem) (PWE.sem (pwe_of (pe_op op_addA pe_sem pe_sem) (run_bin ok_add (pwo_val (by exact pwe_of (pe_lc0 rfl scall_worlds.nd (blkOk_by (own := [("new", 9), ("run", 10)]) (N := Nall_worlds) (sc := defScope sall_worlds) (by decide +kernel))) (run_lc0 (own := [("new", 9), ("run", 10)]) (by exact pwi_list (pwe_var 4 (pv 4))) (fun _ _ _ _ _ => by exact pwg_of (pg_lst rfl (pgs_cons (pg_name (i := 9) scall_worlds.nd rfl (by first | exact Or.inl rfl | exact Or.inr rfl)) (pgs_cons (pg_name (i := 10) scall_worlds.nd rfl (by first | exact Or.inl rfl | exact Or.inr rfl)) pgs_nil))) (rung_lst [9, 10])) (fun _ _ _ _ _ => by exact pwe_lst (pwa_cons (pwo_val (by exact pwe_of (pe_op op_addA pe_sem pe_sem) (run_bin ok_add (pwo_var 9 (pv 9)) (pwo_val (by exact pwe_lst (pwa_cons (pwo_val (by exact pwe_var 5 (pv 5))) (pwa_nil))))))) (pwa_cons (pwo_val (by exact pwe_var 10 (pv 10))) (pwa_nil))))))) (pwo_val (by exact pwe_if (pwt_truth (pwo_var 3 (pv 3))) (pwe_lst (pwa_nil)) (pwe_var 4 (pv 4))))))))))
    (pwss_cons (pws_for (ps_for PassesOwn.never rfl pi_sem pg_sem pss_sem) (pwi_list (pwe_var 0 (pv 0))) (pwg_of (pg_name (i := 6) scall_worlds.nd rfl (Or.inr rfl)) (rung_name 6)) (pwss_cons (pws_set (ps_setLc1 (i := 7) rfl scall_worlds.nd rfl rfl (sw_true rfl rfl rfl (by decide +kernel)) pi_sem (blkOk_by (own := [("new", 9), ("run", 10)]) (N := Nall_worlds) (sc := defScope sall_worlds) (by decide +kernel))) (run_lc1 (own := [("new", 9), ("run", 10)]) (by exact pwi_list (pwe_var 4 (pv 4))) (fun _ _ _ _ _ => by exact pwg_of (pg_lst rfl (pgs_cons (pg_name (i := 9) scall_worlds.nd rfl (by first | exact Or.inl rfl | exact Or.inr rfl)) (pgs_cons (pg_name (i := 10) scall_worlds.nd rfl (by first | exact Or.inl rfl | exact Or.inr rfl)) pgs_nil))) (rung_lst [9, 10])) (fun _ _ _ _ _ => by exact pwt_of (pt_cmpR op_gtA pe_sem pe_sem (nomark _)) (run_bin ok_gt (pwo_val (by exact pwe_of (pe_callB call_lenA (by rfl) T.b_len (by decide +kernel) pa_sem) (run_prim ok_len (pwa_cons (pwo_val (by exact pwe_of (pe_lc1 rfl scall_worlds.nd (blkOk_by (own := [("x", 11)]) (N := Nall_worlds) (sc := relS _ (defScope sall_worlds)) (by decide +kernel))) (run_lc1 (own := [("x", 11)]) (by exact pwi_list (pwe_of (pe_ix (ix_all hu) pe_sem pe_sem (fun _ _ => rfl)) (run_bin ok_ix (pwo_var 1 (pv 1)) (pwo_var 6 (pv 6))))) (fun _ _ _ _ _ => by exact pwg_of (pg_name (i := 11) scall_worlds.nd rfl (by first | exact Or.inl rfl | exact Or.inr rfl)) (rung_name 11)) (fun _ _ _ _ _ => by exact pwt_of (pt_cmpR (op_inA hu) pe_sem pe_sem (by rfl)) (run_bin ok_in (pwo_var 11 (pv 11)) (pwo_var 9 (pv 9)))) (fun _ _ _ _ _ => by exact pwe_var 11 (pv 11))))) (pwa_nil))))) (pwo_val (by exact pwe_int)))) (fun _ _ _ _ _ => by exact pwe_lst (pwa_cons (pwo_val (by exact pwe_var 9 (pv 9))) (pwa_cons (pwo_val (by exact pwe_of (pe_op op_addA pe_sem pe_sem) (run_bin ok_add (pwo_var 10 (pv 10)) (pwo_val (by exact pwe_lst (pwa_cons (pwo_val (by exact pwe_var 6 (pv 6))) (pwa_nil))))))) (pwa_nil))))))
    (pwss_cons (pws_set (ps_setLc1 (i := 8) rfl scall_worlds.nd rfl rfl (sw_true rfl rfl rfl (by decide +kernel)) pi_sem (blkOk_by (own := [("new", 9), ("run", 10)]) (N := Nall_worlds) (sc := defScope sall_worlds) (by decide +kernel))) (run_lc1 (own := [("new", 9), ("run", 10)]) (by exact pwi_list (pwe_var 4 (pv 4))) (fun _ _ _ _ _ => by exact pwg_of (pg_lst rfl (pgs_cons (pg_name (i := 9) scall_worlds.nd rfl (by first | exact Or.inl rfl | exact Or.inr rfl)) (pgs_cons (pg_name (i := 10) scall_worlds.nd rfl (by first | exact Or.inl rfl | exact Or.inr rfl)) pgs_nil))) (rung_lst [9, 10])) (fun _ _ _ _ _ => by exact pwt_of (pt_cmpR (op_eqA hu64) pe_sem pe_sem (nomark _)) (run_bin ok_eq (pwo_val (by exact pwe_of (pe_callB call_lenA (by rfl) T.b_len (by decide +kernel) pa_sem) (run_prim ok_len (pwa_cons (pwo_val (by exact pwe_of (pe_lc1 rfl scall_worlds.nd (blkOk_by (own := [("x", 11)]) (N := Nall_worlds) (sc := relS _ (defScope sall_worlds)) (by decide +kernel))) (run_lc1 (own := [("x", 11)]) (by exact pwi_list (pwe_of (pe_ix (ix_all hu) pe_sem pe_sem (fun _ _ => rfl)) (run_bin ok_ix (pwo_var 1 (pv 1)) (pwo_var 6 (pv 6))))) (fun _ _ _ _ _ => by exact pwg_of (pg_name (i := 11) scall_worlds.nd rfl (by first | exact Or.inl rfl | exact Or.inr rfl)) (rung_name 11)) (fun _ _ _ _ _ => by exact pwt_of (pt_cmpR (op_inA hu) pe_sem pe_sem (by rfl)) (run_bin ok_in (pwo_var 11 (pv 11)) (pwo_var 9 (pv 9)))) (fun _ _ _ _ _ => by exact pwe_var 11 (pv 11))))) (pwa_nil))))) (pwo_val (by exact pwe_int)))) (fun _ _ _ _ _ => by exact pwe_lst (pwa_cons (pwo_val (by exact pwe_var 9 (pv 9))) (pwa_cons (pwo_val (by exact pwe_var 10 (pv 10))) (pwa_nil))))))
    (pwss_one (pws_set (ps_set (i := 4) scall_worlds.nd rfl (Or.inl rfl) pe_sem) (PWE.sem (pwe_of (pe_op op_addA pe_sem pe_sem) (run_bin ok_add (pwo_val (by exact pwe_of (pe_op op_addA pe_sem pe_sem) (run_bin ok_add (pwo_var 8 (pv 8)) (pwo_var 7 (pv 7))))) (pwo_val (by exact pwe_of (pe_lc0 rfl scall_worlds.nd (blkOk_by (own := [("new", 9), ("run", 10)]) (N := Nall_worlds) (sc := defScope sall_worlds) (by decide +kernel))) (run_lc0 (own := [("new", 9), ("run", 10)]) (by exact pwi_list (pwe_var 7 (pv 7))) (fun _ _ _ _ _ => by exact pwg_of (pg_lst rfl (pgs_cons (pg_name (i := 9) scall_worlds.nd rfl (by first | exact Or.inl rfl | exact Or.inr rfl)) (pgs_cons (pg_name (i := 10) scall_worlds.nd rfl (by first | exact Or.inl rfl | exact Or.inr rfl)) pgs_nil))) (rung_lst [9, 10])) (fun _ _ _ _ _ => by exact pwe_lst (pwa_cons (pwo_val (by exact pwe_of (pe_op op_addA pe_sem pe_sem) (run_bin ok_add (pwo_var 9 (pv 9)) (pwo_val (by exact pwe_lst (pwa_cons (pwo_val (by exact pwe_var 6 (pv 6))) (pwa_nil))))))) (pwa_cons (pwo_val (by exact pwe_var 10 (pv 10))) (pwa_nil)))))))))))))))
    (pwss_one (pws_ret (pwe_mv 4 (pv 4))))))
theorem def_one_graph {f : Addr} {fd : FuncData} (T : Blt mg) (D_all_worlds : Def P w K mg base 1 "_law_all_worlds" ["order", "calls", "edited", "forced"] S_all_worlds) (D_graph : Def P w K mg base 4 "_law_graph" ["source"] S_graph) (D_pick : Def P w K mg base 1 "_law_pick" ["source", "many"] S_pick) (D_same : Def P w K mg base 4 "_law_same" ["answer", "due"] S_same) (D_shuffled : Def P w K mg base 2 "_law_shuffled" ["source", "things"] S_shuffled) (D_plain_costs : Def P w K mg base 2 "plain_costs" ["calls", "edited"] S_plain_costs) (D_plain_keep : Def P w K mg base 3 "plain_keep" ["calls", "edited", "asked"] S_plain_keep) (F : Fun K "_law_one_graph" "_law_one_graph" sone_graph f fd) (g : mg "_law_one_graph" = some (.ref f))
    (rd : ∀ ρs R, S_one_graph ρs R → v_one_graph { nx := fun ρ' => R (.sh .non) (fin ρs ρ'), rt := fun r ρ' => R r (fin ρs ρ') } (ρs ++ uns 15)) (len : ∀ ρs R, S_one_graph ρs R → ρs.length = 1) : Def P w K mg base 5 "_law_one_graph" ["source"] S_one_graph := by
  refine ⟨f, fd, fn_w F scone_graph (by decide) len (fun cdv A outer s H E hr => ?_) rd, g, F.kp, F.binds fun _ _ _ _ _ _ us hl => match us, hl with | [_], _ => rfl⟩
  have hu : (A.deeper (envOfC "_law_one_graph" (defScope sone_graph) s.heap.objs.size f cdv)).units + 1 < cLine := hu_of hr
  have hu64 : (A.deeper (envOfC "_law_one_graph" (defScope sone_graph) s.heap.objs.size f cdv)).units + 64 < cLine := hr.units
  unfold v_one_graph
  exact pwss_cons (pws_asg (ps_asg pe_sem pg_sem) (pwg_of (pg_tup rfl (pgs_cons (pg_name (i := 9) scone_graph.nd rfl (by first | exact Or.inl rfl | exact Or.inr rfl)) (pgs_cons (pg_name (i := 10) scone_graph.nd rfl (by first | exact Or.inl rfl | exact Or.inr rfl)) (pgs_cons (pg_name (i := 11) scone_graph.nd rfl (by first | exact Or.inl rfl | exact Or.inr rfl)) pgs_nil)))) (rung_tup [9, 10, 11])) (PWE.sem (pwe_callD D_graph (hr.mono (by decide)) (by rfl) (pwa_cons (pwo_var 0 (pv 0)) (pwa_nil)))))
    (pwss_cons (pws_set (ps_set (i := 1) scone_graph.nd rfl (Or.inl rfl) pe_sem) (PWE.sem (pwe_of (pe_slice sl_all pe_sem po_none (po_some pe_sem)) (run_sl (pwo_val (by exact pwe_callD D_shuffled (hr.mono (by decide)) (by rfl) (pwa_cons (pwo_var 0 (pv 0)) (pwa_cons (pwo_val (pwe_var 11 (pv 11))) (pwa_nil))))) runo_none (runo_some (pwe_of (pe_op op_addA pe_sem pe_sem) (run_bin ok_add (pwo_val (by exact pwe_int)) (pwo_val (by exact pwe_callD D_pick (hr.mono (by decide)) (by rfl) (pwa_cons (pwo_var 0 (pv 0)) (pwa_cons (pwo_val (pwe_sh (by exact pwe_of (pe_callB call_lenA (by rfl) T.b_len (by decide +kernel) pa_sem) (run_prim ok_len (pwa_cons (pwo_var 11 (pv 11)) (pwa_nil)))))) (pwa_nil))))))))))))
    (pwss_cons (pws_set (ps_set (i := 2) scone_graph.nd rfl (Or.inr rfl) pe_sem) (PWE.sem (pwe_of (pe_lc1 rfl scone_graph.nd (blkOk_by (own := [("call", 6)]) (N := None_graph) (sc := defScope sone_graph) (by decide +kernel))) (run_lc1 (own := [("call", 6)]) (by exact pwi_list (pwe_var 9 (pv 9))) (fun _ _ _ _ _ => by exact pwg_of (pg_name (i := 6) scone_graph.nd rfl (by first | exact Or.inl rfl | exact Or.inr rfl)) (rung_name 6)) (fun _ _ _ _ _ => by exact pwt_of (pt_cmpR (op_eqA hu64) pe_sem pe_sem (nomark _)) (run_bin ok_eq (pwo_val (by exact pwe_of (pe_callB call_lenA (by rfl) T.b_len (by decide +kernel) pa_sem) (run_prim ok_len (pwa_cons (pwo_val (by exact pwe_of (pe_lc1 rfl scone_graph.nd (blkOk_by (own := [("one", 15)]) (N := None_graph) (sc := relS _ (defScope sone_graph)) (by decide +kernel))) (run_lc1 (own := [("one", 15)]) (by exact pwi_list (pwe_var 9 (pv 9))) (fun _ _ _ _ _ => by exact pwg_of (pg_name (i := 15) scone_graph.nd rfl (by first | exact Or.inl rfl | exact Or.inr rfl)) (rung_name 15)) (fun _ _ _ _ _ => by exact pwt_of (pt_cmpR (op_inA hu) pe_sem pe_sem (by rfl)) (run_bin ok_in (pwo_var 6 (pv 6)) (pwo_val (by exact pwe_of (pe_ix (ix_all hu) pe_sem pe_sem (fun _ _ => rfl)) (run_bin ok_ix (pwo_var 10 (pv 10)) (pwo_var 15 (pv 15))))))) (fun _ _ _ _ _ => by exact pwe_var 15 (pv 15))))) (pwa_nil))))) (pwo_val (by exact pwe_int)))) (fun _ _ _ _ _ => by exact pwe_var 6 (pv 6))))))
    (pwss_cons (pws_set (ps_set (i := 3) scone_graph.nd rfl (Or.inl rfl) pe_sem) (PWE.sem (pwe_of (pe_op op_addA pe_sem pe_sem) (run_bin ok_add (pwo_var 2 (pv 2)) (pwo_val (by exact pwe_of (pe_lc1 rfl scone_graph.nd (blkOk_by (own := [("call", 6)]) (N := None_graph) (sc := defScope sone_graph) (by decide +kernel))) (run_lc1 (own := [("call", 6)]) (by exact pwi_list (pwe_var 9 (pv 9))) (fun _ _ _ _ _ => by exact pwg_of (pg_name (i := 6) scone_graph.nd rfl (by first | exact Or.inl rfl | exact Or.inr rfl)) (rung_name 6)) (fun _ _ _ _ _ => by exact PWW.pt (pww_and (pwt_of (pt_cmpR (op_notinA hu) pe_sem pe_sem (by rfl)) (run_bin ok_in (pwo_var 6 (pv 6)) (pwo_var 2 (pv 2)))) (pww_and1 (pwt_of (pt_cmpR (op_eqA hu64) pe_sem pe_sem (nomark _)) (run_bin ok_eq (pwo_val (by exact pwe_callD D_pick (hr.mono (by decide)) (by rfl) (pwa_cons (pwo_var 0 (pv 0)) (pwa_cons (pwo_val (pwe_int)) (pwa_nil))))) (pwo_val (by exact pwe_int))))))) (fun _ _ _ _ _ => by exact pwe_var 6 (pv 6)))))))))
    (pwss_cons (pws_set (ps_set (i := 4) scone_graph.nd rfl (Or.inl rfl) pe_sem) (PWE.sem (pwe_callD D_all_worlds (hr.mono (by decide)) (by rfl) (pwa_cons (pwo_val (pwe_var 9 (pv 9))) (pwa_cons (pwo_val (pwe_var 10 (pv 10))) (pwa_cons (pwo_val (pwe_var 1 (pv 1))) (pwa_cons (pwo_val (pwe_bl)) (pwa_nil))))))))
    (pwss_cons (pws_set (ps_set (i := 5) scone_graph.nd rfl (Or.inl rfl) pe_sem) (PWE.sem (pwe_lst (pwa_nil))))
    (pwss_cons (pws_for (ps_for PassesOwn.never rfl pi_sem pg_sem pss_sem) (pwi_list (pwe_var 9 (pv 9))) (pwg_of (pg_name (i := 6) scone_graph.nd rfl (Or.inr rfl)) (rung_name 6)) (pwss_cons (pws_set (ps_set (i := 12) scone_graph.nd rfl (Or.inl rfl) pe_sem) (PWE.sem (pwe_of (pe_cmpR (op_inA hu) pe_sem pe_sem (by rfl)) (run_bin ok_in (pwo_var 6 (pv 6)) (pwo_var 3 (pv 3))))))
    (pwss_cons (pws_for (ps_for PassesOwn.never rfl pi_sem pg_sem pss_sem) (pwi_list (pwe_var 4 (pv 4))) (pwg_of (pg_lst rfl (pgs_cons (pg_name (i := 13) scone_graph.nd rfl (by first | exact Or.inl rfl | exact Or.inr rfl)) (pgs_cons (pg_name (i := 14) scone_graph.nd rfl (by first | exact Or.inl rfl | exact Or.inr rfl)) pgs_nil))) (rung_lst [13, 14])) (pwss_one (pws_if (PWW.pt (pww_and (pwt_of (pt_cmpR (op_notinA hu) pe_sem pe_sem (by rfl)) (run_bin ok_in (pwo_var 6 (pv 6)) (pwo_var 14 (pv 14)))) (pww_and1 (pwt_of (pt_cmpR op_gtA pe_sem pe_sem (nomark _)) (run_bin ok_gt (pwo_val (by exact pwe_of (pe_callB call_lenA (by rfl) T.b_len (by decide +kernel) pa_sem) (run_prim ok_len (pwa_cons (pwo_val (by exact pwe_of (pe_lc1 rfl scone_graph.nd (blkOk_by (own := [("one", 15)]) (N := None_graph) (sc := defScope sone_graph) (by decide +kernel))) (run_lc1 (own := [("one", 15)]) (by exact pwi_list (pwe_var 14 (pv 14))) (fun _ _ _ _ _ => by exact pwg_of (pg_name (i := 15) scone_graph.nd rfl (by first | exact Or.inl rfl | exact Or.inr rfl)) (rung_name 15)) (fun _ _ _ _ _ => by exact pwt_of (pt_cmpR (op_inA hu) pe_sem pe_sem (by rfl)) (run_bin ok_in (pwo_var 6 (pv 6)) (pwo_val (by exact pwe_of (pe_ix (ix_all hu) pe_sem pe_sem (fun _ _ => rfl)) (run_bin ok_ix (pwo_var 10 (pv 10)) (pwo_var 15 (pv 15))))))) (fun _ _ _ _ _ => by exact pwe_var 15 (pv 15))))) (pwa_nil))))) (pwo_val (by exact pwe_int))))))) (pwss_one (pws_set (ps_set (i := 12) scone_graph.nd rfl (Or.inl rfl) pe_sem) (PWE.sem (pwe_bl)))) (pwss_nil))))
    (pwss_one (pws_if (pwt_truth (pwo_var 12 (pv 12))) (pwss_one (pws_expr (ps_expr pe_sem) (PWE.sem (pwe_of (pe_bm PySem.F.plainAttrs_list PySem.F.slot_list_append PySem.F.type_list_append mt_append (pv 5) (pa_cons pe_sem pa_nil)) (run_app 5 (pwe_var 6 (pv 6))))))) (pwss_nil))))))
    (pwss_cons (pws_set (ps_set (i := 7) scone_graph.nd rfl (Or.inl rfl) pe_sem) (PWE.sem (pwe_of (pe_callTy (call_dictP rfl) (by rfl) T.b_dict (by decide +kernel) pa_sem) (run_prim ok_dict (pwa_cons (pwo_val (by exact pwe_of (pe_lc0 rfl scone_graph.nd (blkOk_by (own := [("call", 6)]) (N := None_graph) (sc := defScope sone_graph) (by decide +kernel))) (run_lc0 (own := [("call", 6)]) (by exact pwi_list (pwe_callD D_shuffled (hr.mono (by decide)) (by rfl) (pwa_cons (pwo_var 0 (pv 0)) (pwa_cons (pwo_val (pwe_var 9 (pv 9))) (pwa_nil))))) (fun _ _ _ _ _ => by exact pwg_of (pg_name (i := 6) scone_graph.nd rfl (by first | exact Or.inl rfl | exact Or.inr rfl)) (rung_name 6)) (fun _ _ _ _ _ => by exact pwe_tup (pwa_cons (pwo_val (by exact pwe_var 6 (pv 6))) (pwa_cons (pwo_val (by exact pwe_of (pe_callTy (call_listA rfl) (by rfl) T.b_list (by decide +kernel) pa_sem) (run_prim ok_list (pwa_cons (pwo_val (by exact pwe_of (pe_ix (ix_all hu) pe_sem pe_sem (fun _ _ => rfl)) (run_bin ok_ix (pwo_var 10 (pv 10)) (pwo_var 6 (pv 6))))) (pwa_nil))))) (pwa_nil))))))) (pwa_nil))))))
    (pwss_cons (pws_if (pwt_not (pwt_truth (pwo_val (by exact pwe_callD D_same (hr.mono (by decide)) (by rfl) (pwa_cons (pwo_val (pwe_sh (by exact pwe_callD D_plain_keep (hr.mono (by decide)) (by rfl) (pwa_cons (pwo_val (pwe_var 7 (pv 7))) (pwa_cons (pwo_val (pwe_sh (by exact pwe_of (pe_callTy (call_listA rfl) (by rfl) T.b_list (by decide +kernel) pa_sem) (run_prim ok_list (pwa_cons (pwo_var 1 (pv 1)) (pwa_nil)))))) (pwa_cons (pwo_val (pwe_sh (by exact pwe_of (pe_callTy (call_listA rfl) (by rfl) T.b_list (by decide +kernel) pa_sem) (run_prim ok_list (pwa_cons (pwo_var 3 (pv 3)) (pwa_nil)))))) (pwa_nil))))))) (pwa_cons (pwo_val (pwe_sh (by exact pwe_of (pe_callB call_sortedA (by rfl) T.b_sorted (by decide +kernel) pa_sem) (run_prim ok_sorted (pwa_cons (pwo_var 5 (pv 5)) (pwa_nil)))))) (pwa_nil))))))) (pwss_one (pws_ret (pwe_bl))) (pwss_nil))
    (pwss_cons (pws_if (pwt_of (pt_cmpR (op_neA hu64) pe_sem pe_sem (nomark _)) (run_bin ok_ne (pwo_var 7 (pv 7)) (pwo_var 10 (pv 10)))) (pwss_one (pws_ret (pwe_bl))) (pwss_nil))
    (pwss_cons (pws_set (ps_setLc0 (i := 8) rfl scone_graph.nd rfl rfl (sw_true rfl rfl rfl (by decide +kernel)) pi_sem (blkOk_by (own := [("new", 13), ("run", 14)]) (N := None_graph) (sc := defScope sone_graph) (by decide +kernel))) (run_lc0 (own := [("new", 13), ("run", 14)]) (by exact pwi_list (pwe_callD D_all_worlds (hr.mono (by decide)) (by rfl) (pwa_cons (pwo_val (pwe_var 9 (pv 9))) (pwa_cons (pwo_val (pwe_var 10 (pv 10))) (pwa_cons (pwo_val (pwe_var 1 (pv 1))) (pwa_cons (pwo_val (pwe_bl)) (pwa_nil))))))) (fun _ _ _ _ _ => by exact pwg_of (pg_lst rfl (pgs_cons (pg_name (i := 13) scone_graph.nd rfl (by first | exact Or.inl rfl | exact Or.inr rfl)) (pgs_cons (pg_name (i := 14) scone_graph.nd rfl (by first | exact Or.inl rfl | exact Or.inr rfl)) pgs_nil))) (rung_lst [13, 14])) (fun _ _ _ _ _ => by exact pwe_of (pe_callB call_lenA (by rfl) T.b_len (by decide +kernel) pa_sem) (run_prim ok_len (pwa_cons (pwo_var 14 (pv 14)) (pwa_nil))))))
    (pwss_one (pws_ret (pwe_and (pwe_callD D_same (hr.mono (by decide)) (by rfl) (pwa_cons (pwo_val (pwe_sh (by exact pwe_callD D_plain_costs (hr.mono (by decide)) (by rfl) (pwa_cons (pwo_val (pwe_var 7 (pv 7))) (pwa_cons (pwo_val (pwe_var 1 (pv 1))) (pwa_nil)))))) (pwa_cons (pwo_val (pwe_sh (by exact pwe_tup (pwa_cons (pwo_val (by exact pwe_of (pe_callB (call_minA rfl) (by rfl) T.b_min (by decide +kernel) pa_sem) (run_prim ok_min (pwa_cons (pwo_var 8 (pv 8)) (pwa_nil))))) (pwa_cons (pwo_val (by exact pwe_of (pe_callB (call_maxA rfl) (by rfl) T.b_max (by decide +kernel) pa_sem) (run_prim ok_max (pwa_cons (pwo_var 8 (pv 8)) (pwa_nil))))) (pwa_nil)))))) (pwa_nil)))) (pwe_one (pwe_callD D_same (hr.mono (by decide)) (by rfl) (pwa_cons (pwo_val (pwe_sh (by exact pwe_callD D_plain_costs (hr.mono (by decide)) (by rfl) (pwa_cons (pwo_val (pwe_var 7 (pv 7))) (pwa_cons (pwo_val (pwe_sh (by exact pwe_lst (pwa_nil)))) (pwa_nil)))))) (pwa_cons (pwo_val (pwe_sh (by exact pwe_tup (pwa_cons (pwo_val (by exact pwe_int)) (pwa_cons (pwo_val (by exact pwe_int)) (pwa_nil)))))) (pwa_nil))))))))))))))))))
theorem fn_law {f : Addr} {fd : FuncData} (T : Blt mg) (D_one_graph : Def P w K mg base 5 "_law_one_graph" ["source"] S_one_graph) (D_source : Def P w K mg base 1 "_law_source" ["script", "at"] S_source) (F : Fun K "law" "law" slaw f fd) (g : mg "law" = some (.ref f))
    (rd : ∀ ρs R, S_law ρs R → v_law { nx := fun ρ' => R (.sh .non) (fin ρs ρ'), rt := fun r ρ' => R r (fin ρs ρ') } (ρs ++ uns 1)) (len : ∀ ρs R, S_law ρs R → ρs.length = 1) : FnOk P w K mg base CX0 6 f fd ["script"] (spV K S_law) := by
  refine fn_w F sclaw (by decide) len (fun cdv A outer s H E hr => ?_) rd
  have hu : (A.deeper (envOfC "law" (defScope slaw) s.heap.objs.size f cdv)).units + 1 < cLine := hu_of hr
  have hu64 : (A.deeper (envOfC "law" (defScope slaw) s.heap.objs.size f cdv)).units + 64 < cLine := hr.units
  unfold v_law
  exact pwss_one (pws_ret (pwe_of (pe_callB (cr_all rfl) (by rfl) T.b_all (by decide +kernel) pa_sem) (run_prim ok_all (pwa_cons (pwo_val (by exact pwe_of (pe_lc0 rfl sclaw.nd (blkOk_by (own := [("at", 1)]) (N := Nlaw) (sc := defScope slaw) (by decide +kernel))) (run_lc0 (own := [("at", 1)]) (by exact pwi_range1 (pi_range1 (by rfl) T.b_range pa_sem) (pwa_cons (pwo_val (by exact pwe_int)) (pwa_nil))) (fun _ _ _ _ _ => by exact pwg_of (pg_name (i := 1) sclaw.nd rfl (by first | exact Or.inl rfl | exact Or.inr rfl)) (rung_name 1)) (fun _ _ _ _ _ => by exact pwe_callD D_one_graph (hr.mono (by decide)) (by rfl) (pwa_cons (pwo_val (by exact pwe_callD D_source (hr.mono (by decide)) (by rfl) (pwa_cons (pwo_val (pwe_var 0 (pv 0))) (pwa_cons (pwo_val (pwe_var 1 (pv 1))) (pwa_nil))))) (pwa_nil)))))) (pwa_nil)))))
end
end WL

set_option Elab.async false
set_option linter.all false
set_option maxRecDepth 100000
set_option maxHeartbeats 4000000
namespace WL
open PySem PySem.Spec PyProof.Rows L2
/-! ### what the top has written; the head (printed by gen.py) -/
local macro_rules | `(tactic| walk_at "len") => `(tactic| (intro ρs R h; first | (rcases h with ⟨e, _⟩; subst e; rfl) | (rcases h with ⟨_, e, _⟩; subst e; rfl) | (rcases h with ⟨_, _, e, _⟩; subst e; rfl) | (rcases h with ⟨_, _, _, e, _⟩; subst e; rfl) | (rcases h with ⟨_, _, _, _, e, _⟩; subst e; rfl) | (rcases h with ⟨_, _, _, _, _, e, _⟩; subst e; rfl) | (rcases h with ⟨_, _, _, _, _, _, e, _⟩; subst e; rfl) | (rcases h with ⟨_, _, _, _, _, _, _, e, _⟩; subst e; rfl) | (rcases h with ⟨_, _, _, _, _, _, _, _, e, _⟩; subst e; rfl) | (rcases h with ⟨_, _, _, _, _, _, _, _, _, e, _⟩; subst e; rfl)))
theorem all_mk {P : Program} {w : World} {K : PySem.W.Frag} {h : Heap} {mg : Str → Option Value} {fa f1 f2 f3 f4 f5 f6 f7 f8 f9 f10 f11 f12 f13 f14 f15 : Addr} (X : K.In h) (G : h.Ns mainGlobals mg) (hfa : mg "law" = some (.ref fa))
    {od1 an1 : Option Addr} {sl1 : Array (Option Value)} {oc1 kV1 dc1 pm1 cd1 ct1 : Value}
    (a1 : PySem.W.nsIn K mainGlobals "reached" = some (some (.ref f1))) (l1 : K.lookup f1 = some ⟨oc1, od1, .func (PySem.W.fnOf "reached" "reached" (defArgs sreached) (defBody sreached) (defScope sreached) .none kV1 dc1 pm1 an1 cd1 ct1), sl1⟩) (c1 : PySem.W.codeIn K cd1 "reached" = true) (k1 : PySem.W.keepIn K (.ref f1) = true)
    {od2 an2 : Option Addr} {sl2 : Array (Option Value)} {oc2 kV2 dc2 pm2 cd2 ct2 : Value}
    (a2 : PySem.W.nsIn K mainGlobals "must_keep" = some (some (.ref f2))) (l2 : K.lookup f2 = some ⟨oc2, od2, .func (PySem.W.fnOf "must_keep" "must_keep" (defArgs smust_keep) (defBody smust_keep) (defScope smust_keep) .none kV2 dc2 pm2 an2 cd2 ct2), sl2⟩) (c2 : PySem.W.codeIn K cd2 "must_keep" = true) (k2 : PySem.W.keepIn K (.ref f2) = true)
    {od3 an3 : Option Addr} {sl3 : Array (Option Value)} {oc3 kV3 dc3 pm3 cd3 ct3 : Value}
    (a3 : PySem.W.nsIn K mainGlobals "plain_keep" = some (some (.ref f3))) (l3 : K.lookup f3 = some ⟨oc3, od3, .func (PySem.W.fnOf "plain_keep" "plain_keep" (defArgs splain_keep) (defBody splain_keep) (defScope splain_keep) .none kV3 dc3 pm3 an3 cd3 ct3), sl3⟩) (c3 : PySem.W.codeIn K cd3 "plain_keep" = true) (k3 : PySem.W.keepIn K (.ref f3) = true)
    {od4 an4 : Option Addr} {sl4 : Array (Option Value)} {oc4 kV4 dc4 pm4 cd4 ct4 : Value}
    (a4 : PySem.W.nsIn K mainGlobals "plain_costs" = some (some (.ref f4))) (l4 : K.lookup f4 = some ⟨oc4, od4, .func (PySem.W.fnOf "plain_costs" "plain_costs" (defArgs splain_costs) (defBody splain_costs) (defScope splain_costs) .none kV4 dc4 pm4 an4 cd4 ct4), sl4⟩) (c4 : PySem.W.codeIn K cd4 "plain_costs" = true) (k4 : PySem.W.keepIn K (.ref f4) = true)
    {od5 an5 : Option Addr} {sl5 : Array (Option Value)} {oc5 kV5 dc5 pm5 cd5 ct5 : Value}
    (a5 : PySem.W.nsIn K mainGlobals "_law_source" = some (some (.ref f5))) (l5 : K.lookup f5 = some ⟨oc5, od5, .func (PySem.W.fnOf "_law_source" "_law_source" (defArgs ssource) (defBody ssource) (defScope ssource) .none kV5 dc5 pm5 an5 cd5 ct5), sl5⟩) (c5 : PySem.W.codeIn K cd5 "_law_source" = true) (k5 : PySem.W.keepIn K (.ref f5) = true)
    {od6 an6 : Option Addr} {sl6 : Array (Option Value)} {oc6 kV6 dc6 pm6 cd6 ct6 : Value}
    (a6 : PySem.W.nsIn K mainGlobals "_law_pick" = some (some (.ref f6))) (l6 : K.lookup f6 = some ⟨oc6, od6, .func (PySem.W.fnOf "_law_pick" "_law_pick" (defArgs spick) (defBody spick) (defScope spick) .none kV6 dc6 pm6 an6 cd6 ct6), sl6⟩) (c6 : PySem.W.codeIn K cd6 "_law_pick" = true) (k6 : PySem.W.keepIn K (.ref f6) = true)
    {od7 an7 : Option Addr} {sl7 : Array (Option Value)} {oc7 kV7 dc7 pm7 cd7 ct7 : Value}
    (a7 : PySem.W.nsIn K mainGlobals "_law_choice" = some (some (.ref f7))) (l7 : K.lookup f7 = some ⟨oc7, od7, .func (PySem.W.fnOf "_law_choice" "_law_choice" (defArgs schoice) (defBody schoice) (defScope schoice) .none kV7 dc7 pm7 an7 cd7 ct7), sl7⟩) (c7 : PySem.W.codeIn K cd7 "_law_choice" = true) (k7 : PySem.W.keepIn K (.ref f7) = true)
    {od8 an8 : Option Addr} {sl8 : Array (Option Value)} {oc8 kV8 dc8 pm8 cd8 ct8 : Value}
    (a8 : PySem.W.nsIn K mainGlobals "_law_shuffled" = some (some (.ref f8))) (l8 : K.lookup f8 = some ⟨oc8, od8, .func (PySem.W.fnOf "_law_shuffled" "_law_shuffled" (defArgs sshuffled) (defBody sshuffled) (defScope sshuffled) .none kV8 dc8 pm8 an8 cd8 ct8), sl8⟩) (c8 : PySem.W.codeIn K cd8 "_law_shuffled" = true) (k8 : PySem.W.keepIn K (.ref f8) = true)
    {od9 an9 : Option Addr} {sl9 : Array (Option Value)} {oc9 kV9 dc9 pm9 cd9 ct9 : Value}
    (a9 : PySem.W.nsIn K mainGlobals "_law_words" = some (some (.ref f9))) (l9 : K.lookup f9 = some ⟨oc9, od9, .func (PySem.W.fnOf "_law_words" "_law_words" (defArgs swords) (defBody swords) (defScope swords) .none kV9 dc9 pm9 an9 cd9 ct9), sl9⟩) (c9 : PySem.W.codeIn K cd9 "_law_words" = true) (k9 : PySem.W.keepIn K (.ref f9) = true)
    {od10 an10 : Option Addr} {sl10 : Array (Option Value)} {oc10 kV10 dc10 pm10 cd10 ct10 : Value}
    (a10 : PySem.W.nsIn K mainGlobals "_law_names" = some (some (.ref f10))) (l10 : K.lookup f10 = some ⟨oc10, od10, .func (PySem.W.fnOf "_law_names" "_law_names" (defArgs snames) (defBody snames) (defScope snames) .none kV10 dc10 pm10 an10 cd10 ct10), sl10⟩) (c10 : PySem.W.codeIn K cd10 "_law_names" = true) (k10 : PySem.W.keepIn K (.ref f10) = true)
    {od11 an11 : Option Addr} {sl11 : Array (Option Value)} {oc11 kV11 dc11 pm11 cd11 ct11 : Value}
    (a11 : PySem.W.nsIn K mainGlobals "_law_same" = some (some (.ref f11))) (l11 : K.lookup f11 = some ⟨oc11, od11, .func (PySem.W.fnOf "_law_same" "_law_same" (defArgs ssame) (defBody ssame) (defScope ssame) .none kV11 dc11 pm11 an11 cd11 ct11), sl11⟩) (c11 : PySem.W.codeIn K cd11 "_law_same" = true) (k11 : PySem.W.keepIn K (.ref f11) = true)
    {od12 an12 : Option Addr} {sl12 : Array (Option Value)} {oc12 kV12 dc12 pm12 cd12 ct12 : Value}
    (a12 : PySem.W.nsIn K mainGlobals "_law_graph" = some (some (.ref f12))) (l12 : K.lookup f12 = some ⟨oc12, od12, .func (PySem.W.fnOf "_law_graph" "_law_graph" (defArgs sgraph) (defBody sgraph) (defScope sgraph) .none kV12 dc12 pm12 an12 cd12 ct12), sl12⟩) (c12 : PySem.W.codeIn K cd12 "_law_graph" = true) (k12 : PySem.W.keepIn K (.ref f12) = true)
    {od13 an13 : Option Addr} {sl13 : Array (Option Value)} {oc13 kV13 dc13 pm13 cd13 ct13 : Value}
    (a13 : PySem.W.nsIn K mainGlobals "_law_all_worlds" = some (some (.ref f13))) (l13 : K.lookup f13 = some ⟨oc13, od13, .func (PySem.W.fnOf "_law_all_worlds" "_law_all_worlds" (defArgs sall_worlds) (defBody sall_worlds) (defScope sall_worlds) .none kV13 dc13 pm13 an13 cd13 ct13), sl13⟩) (c13 : PySem.W.codeIn K cd13 "_law_all_worlds" = true) (k13 : PySem.W.keepIn K (.ref f13) = true)
    {od14 an14 : Option Addr} {sl14 : Array (Option Value)} {oc14 kV14 dc14 pm14 cd14 ct14 : Value}
    (a14 : PySem.W.nsIn K mainGlobals "_law_one_graph" = some (some (.ref f14))) (l14 : K.lookup f14 = some ⟨oc14, od14, .func (PySem.W.fnOf "_law_one_graph" "_law_one_graph" (defArgs sone_graph) (defBody sone_graph) (defScope sone_graph) .none kV14 dc14 pm14 an14 cd14 ct14), sl14⟩) (c14 : PySem.W.codeIn K cd14 "_law_one_graph" = true) (k14 : PySem.W.keepIn K (.ref f14) = true)
    {od15 an15 : Option Addr} {sl15 : Array (Option Value)} {oc15 kV15 dc15 pm15 cd15 ct15 : Value}
    (a15 : PySem.W.nsIn K mainGlobals "law" = some (some (.ref f15))) (l15 : K.lookup f15 = some ⟨oc15, od15, .func (PySem.W.fnOf "law" "law" (defArgs slaw) (defBody slaw) (defScope slaw) .none kV15 dc15 pm15 an15 cd15 ct15), sl15⟩) (c15 : PySem.W.codeIn K cd15 "law" = true) (k15 : PySem.W.keepIn K (.ref f15) = true)
    (z_abs : PySem.W.nsIn K mainGlobals "abs" = some none) (z_all : PySem.W.nsIn K mainGlobals "all" = some none) (z_dict : PySem.W.nsIn K mainGlobals "dict" = some none) (z_int : PySem.W.nsIn K mainGlobals "int" = some none) (z_isinstance : PySem.W.nsIn K mainGlobals "isinstance" = some none) (z_len : PySem.W.nsIn K mainGlobals "len" = some none) (z_list : PySem.W.nsIn K mainGlobals "list" = some none) (z_max : PySem.W.nsIn K mainGlobals "max" = some none) (z_min : PySem.W.nsIn K mainGlobals "min" = some none) (z_range : PySem.W.nsIn K mainGlobals "range" = some none) (z_repr : PySem.W.nsIn K mainGlobals "repr" = some none) (z_sorted : PySem.W.nsIn K mainGlobals "sorted" = some none) (z_str : PySem.W.nsIn K mainGlobals "str" = some none) (z_sum : PySem.W.nsIn K mainGlobals "sum" = some none) (z_tuple : PySem.W.nsIn K mainGlobals "tuple" = some none) :
    ∃ fd : FuncData, (∀ (s : Shared) (v : Value), BindsTo s fd ⟨[v], []⟩ [("script", v)]) ∧ ∀ base : Heap, K.In base → base.Ns mainGlobals mg → FnOk P w K mg base CX0 6 fa fd ["script"] (spV K S_law) := by
  have e := hfa.symm.trans (PySem.W.mg_of X G a15)
  cases e
  have T : Blt mg := ⟨PySem.W.mg_none_of X G z_abs, PySem.W.mg_none_of X G z_all, PySem.W.mg_none_of X G z_dict, PySem.W.mg_none_of X G z_int, PySem.W.mg_none_of X G z_isinstance, PySem.W.mg_none_of X G z_len, PySem.W.mg_none_of X G z_list, PySem.W.mg_none_of X G z_max, PySem.W.mg_none_of X G z_min, PySem.W.mg_none_of X G z_range, PySem.W.mg_none_of X G z_repr, PySem.W.mg_none_of X G z_sorted, PySem.W.mg_none_of X G z_str, PySem.W.mg_none_of X G z_sum, PySem.W.mg_none_of X G z_tuple⟩
  refine ⟨PySem.W.fnOf "law" "law" (defArgs slaw) (defBody slaw) (defScope slaw) .none kV15 dc15 pm15 an15 cd15 ct15, fun s v => .of_eq rfl, fun base _ _ => ?_⟩
  have F1 := fun_mk (st := sreached) l1 c1 k1
  have D_reached := def_reached (P := P) (w := w) (base := base) T F1 (PySem.W.mg_of X G a1) rd_reached (by walk_at "len")
  have F5 := fun_mk (st := ssource) l5 c5 k5
  have D_source := def_source (P := P) (w := w) (base := base) T F5 (PySem.W.mg_of X G a5) rd_source (by walk_at "len")
  have F6 := fun_mk (st := spick) l6 c6 k6
  have D_pick := def_pick (P := P) (w := w) (base := base) T F6 (PySem.W.mg_of X G a6) rd_pick (by walk_at "len")
  have F13 := fun_mk (st := sall_worlds) l13 c13 k13
  have D_all_worlds := def_all_worlds (P := P) (w := w) (base := base) T F13 (PySem.W.mg_of X G a13) rd_all_worlds (by walk_at "len")
  have F2 := fun_mk (st := smust_keep) l2 c2 k2
  have D_must_keep := def_must_keep (P := P) (w := w) (base := base) T D_reached F2 (PySem.W.mg_of X G a2) rd_must_keep (by walk_at "len")
  have F4 := fun_mk (st := splain_costs) l4 c4 k4
  have D_plain_costs := def_plain_costs (P := P) (w := w) (base := base) T D_reached F4 (PySem.W.mg_of X G a4) rd_plain_costs (by walk_at "len")
  have F7 := fun_mk (st := schoice) l7 c7 k7
  have D_choice := def_choice (P := P) (w := w) (base := base) T D_pick F7 (PySem.W.mg_of X G a7) rd_choice (by walk_at "len")
  have F8 := fun_mk (st := sshuffled) l8 c8 k8
  have D_shuffled := def_shuffled (P := P) (w := w) (base := base) T D_pick F8 (PySem.W.mg_of X G a8) rd_shuffled (by walk_at "len")
  have F3 := fun_mk (st := splain_keep) l3 c3 k3
  have D_plain_keep := def_plain_keep (P := P) (w := w) (base := base) T D_must_keep F3 (PySem.W.mg_of X G a3) rd_plain_keep (by walk_at "len")
  have F9 := fun_mk (st := swords) l9 c9 k9
  have D_words := def_words (P := P) (w := w) (base := base) T D_pick D_shuffled F9 (PySem.W.mg_of X G a9) rd_words (by walk_at "len")
  have F10 := fun_mk (st := snames) l10 c10 k10
  have D_names := def_names (P := P) (w := w) (base := base) T D_choice D_pick D_shuffled F10 (PySem.W.mg_of X G a10) rd_names (by walk_at "len")
  have F11 := fun_mk (st := ssame) l11 c11 k11
  have D0_same : Def P w K mg base 0 "_law_same" ["answer", "due"] (Sn_same 0) := Def.never F11 (PySem.W.mg_of X G a11) (F11.binds fun _ _ _ _ _ _ us hl => match us, hl with | [_, _], _ => rfl)
  have D1_same : Def P w K mg base 1 "_law_same" ["answer", "due"] (Sn_same 1) := def_same T D0_same F11 (PySem.W.mg_of X G a11) (rd_same 0) (by walk_at "len")
  have D2_same : Def P w K mg base 2 "_law_same" ["answer", "due"] (Sn_same 2) := def_same T D1_same F11 (PySem.W.mg_of X G a11) (rd_same 1) (by walk_at "len")
  have D3_same : Def P w K mg base 3 "_law_same" ["answer", "due"] (Sn_same 3) := def_same T D2_same F11 (PySem.W.mg_of X G a11) (rd_same 2) (by walk_at "len")
  have D_same : Def P w K mg base 4 "_law_same" ["answer", "due"] (Sn_same 4) := def_same T D3_same F11 (PySem.W.mg_of X G a11) (rd_same 3) (by walk_at "len")
  have F12 := fun_mk (st := sgraph) l12 c12 k12
  have D_graph := def_graph (P := P) (w := w) (base := base) T D_choice D_names D_pick D_words F12 (PySem.W.mg_of X G a12) rd_graph (by walk_at "len")
  have F14 := fun_mk (st := sone_graph) l14 c14 k14
  have D_one_graph := def_one_graph (P := P) (w := w) (base := base) T D_all_worlds D_graph D_pick D_same D_shuffled D_plain_costs D_plain_keep F14 (PySem.W.mg_of X G a14) rd_one_graph (by walk_at "len")
  have F15 := fun_mk (st := slaw) l15 c15 k15
  exact fn_law T D_one_graph D_source F15 (PySem.W.mg_of X G a15) rd_law (by walk_at "len")
end WL
open PySem PySem.W PyProof.Rows
set_option maxHeartbeats 0 in
theorem PySem.Challenge.cw_firstreasons_k24_what_plain_graphs_must_holds : PySem.Challenge.rw_firstreasons_k24_what_plain_graphs_must.Holds := by
  w_on; o_law; k_head; (case hw => w_witness2)
  k_fill
  refine L2.walk_of (l := PySem.Challenge.rw_firstreasons_k24_what_plain_graphs_must) (n := 63) (k := 6) (x := "script") (CX := fun _ => L2.CX0) (sp := fun w => WL.spV _ WL.S_law) rfl (by decide) rfl ⟨rfl, by decide, by decide⟩ (fun w h Y => PySem.W.kIn_of Y) ?F (fun w H a ns hl _ hS => WL.start_of hS ⟨ns, rfl, hl, rfl⟩) (fun _ _ _ _ _ h => h)
  case F =>
    intro w mg fa h KX G hmg
    refine' WL.all_mk KX G hmg ?a1 ?l1 ?c1 ?k1 ?a2 ?l2 ?c2 ?k2 ?a3 ?l3 ?c3 ?k3 ?a4 ?l4 ?c4 ?k4 ?a5 ?l5 ?c5 ?k5 ?a6 ?l6 ?c6 ?k6 ?a7 ?l7 ?c7 ?k7 ?a8 ?l8 ?c8 ?k8 ?a9 ?l9 ?c9 ?k9 ?a10 ?l10 ?c10 ?k10 ?a11 ?l11 ?c11 ?k11 ?a12 ?l12 ?c12 ?k12 ?a13 ?l13 ?c13 ?k13 ?a14 ?l14 ?c14 ?k14 ?a15 ?l15 ?c15 ?k15 ?z_abs ?z_all ?z_dict ?z_int ?z_isinstance ?z_len ?z_list ?z_max ?z_min ?z_range ?z_repr ?z_sorted ?z_str ?z_sum ?z_tuple
    (case a1 => k_is)
    (case l1 => k_is)
    (case c1 => k_is)
    (case k1 => k_is)
    (case a2 => k_is)
    (case l2 => k_is)
    (case c2 => k_is)
    (case k2 => k_is)
    (case a3 => k_is)
    (case l3 => k_is)
    (case c3 => k_is)
    (case k3 => k_is)
    (case a4 => k_is)
    (case l4 => k_is)
    (case c4 => k_is)
    (case k4 => k_is)
    (case a5 => k_is)
    (case l5 => k_is)
    (case c5 => k_is)
    (case k5 => k_is)
    (case a6 => k_is)
    (case l6 => k_is)
    (case c6 => k_is)
    (case k6 => k_is)
    (case a7 => k_is)
    (case l7 => k_is)
    (case c7 => k_is)
    (case k7 => k_is)
    (case a8 => k_is)
    (case l8 => k_is)
    (case c8 => k_is)
    (case k8 => k_is)
    (case a9 => k_is)
    (case l9 => k_is)
    (case c9 => k_is)
    (case k9 => k_is)
    (case a10 => k_is)
    (case l10 => k_is)
    (case c10 => k_is)
    (case k10 => k_is)
    (case a11 => k_is)
    (case l11 => k_is)
    (case c11 => k_is)
    (case k11 => k_is)
    (case a12 => k_is)
    (case l12 => k_is)
    (case c12 => k_is)
    (case k12 => k_is)
    (case a13 => k_is)
    (case l13 => k_is)
    (case c13 => k_is)
    (case k13 => k_is)
    (case a14 => k_is)
    (case l14 => k_is)
    (case c14 => k_is)
    (case k14 => k_is)
    (case a15 => k_is)
    (case l15 => k_is)
    (case c15 => k_is)
    (case k15 => k_is)
    (case z_abs => k_is)
    (case z_all => k_is)
    (case z_dict => k_is)
    (case z_int => k_is)
    (case z_isinstance => k_is)
    (case z_len => k_is)
    (case z_list => k_is)
    (case z_max => k_is)
    (case z_min => k_is)
    (case z_range => k_is)
    (case z_repr => k_is)
    (case z_sorted => k_is)
    (case z_str => k_is)
    (case z_sum => k_is)
    (case z_tuple => k_is)
