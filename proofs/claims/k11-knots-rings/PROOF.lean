import PyProof.Rows.All
import HandS.ForMost
import HandS.Exc
import HandS.ExcOwn
import HandS.CallSlots
import HandS.WordsExc
import HandS.TupAny
import HandS.Wide
import HandS.Conv
import HandS.IsInst
import HandS.TryOnly
import HandS.SortInts
import HandS.RaiseMore
import HandS.ExcInit
import HandS.ExcField
import HandS.Codes
import HandS.Deep
import HandS.DictComp
import HandS.More
import KE.DataMinMax
import KE.DatumOrd
import PySem.Challenge.RW_firstreasons_k11_knots_by_all_rings
set_option Elab.async false
set_option linter.all false
set_option maxRecDepth 100000
set_option maxHeartbeats 4000000
/-! W0: a layer of values over HandS: trees of data, cells that a def owns, what an expression or a statement gives. -/
namespace WL
open PySem PySem.Spec PyProof.Rows L2

/-! ### data -/
inductive D where
  | non | bl (b : Bool) | int (i : Int) | str (x : Str)
  | lst (ds : List D) | tup (ds : List D) | fls (ds : List D) | ftp (ds : List D)
  | dct (kvs : List (Key × D)) | dcT (kvs : List (List Key × D))
  | opq (v : V)

mutual
inductive Rep (K : PySem.W.Frag) (H : Hp) : V → D → Prop
  | non : Rep K H .non .non
  | bl {b} : Rep K H (.bl b) (.bl b)
  | int {i} : Rep K H (.int i) (.int i)
  | str {x} : Rep K H (.str x) (.str x)
  | lst {a vs ds} (h : H a = some (.lst vs)) (r : Reps K H vs ds) : Rep K H (.ref a) (.lst ds)
  | tup {a vs ds} (h : H a = some (.tup vs)) (r : Reps K H vs ds) : Rep K H (.ref a) (.tup ds)
  | fls {a vs ds} (h : SqL K H a vs) (r : Reps K H vs ds) : Rep K H (.ref a) (.fls ds)
  | ftp {a vs ds} (h : SqT K H a vs) (r : Reps K H vs ds) : Rep K H (.ref a) (.ftp ds)
  | dct {a kvs kds} (h : Rd H a (.dK kvs)) (r : RepK K H kvs kds) : Rep K H (.ref a) (.dct kds)
  | dcT {a kvs kds} (h : Rd H a (.dT kvs)) (r : RepT K H kvs kds) : Rep K H (.ref a) (.dcT kds)
  | opq {v} : Rep K H v (.opq v)
inductive Reps (K : PySem.W.Frag) (H : Hp) : List V → List D → Prop
  | nil : Reps K H [] []
  | cons {v d vs ds} (h : Rep K H v d) (t : Reps K H vs ds) : Reps K H (v :: vs) (d :: ds)
inductive RepK (K : PySem.W.Frag) (H : Hp) : List (Key × V) → List (Key × D) → Prop
  | nil : RepK K H [] []
  | cons {k v d vs ds} (h : Rep K H v d) (t : RepK K H vs ds) : RepK K H ((k, v) :: vs) ((k, d) :: ds)
inductive RepT (K : PySem.W.Frag) (H : Hp) : List (List Key × V) → List (List Key × D) → Prop
  | nil : RepT K H [] []
  | cons {k v d vs ds} (h : Rep K H v d) (t : RepT K H vs ds) : RepT K H ((k, v) :: vs) ((k, d) :: ds)
end

section
variable {K : PySem.W.Frag} {H H' : Hp}
theorem Same.rd {a : Addr} {u : HO} (e : Same H H') (h : Rd H a u) : Rd H' a u := by
  rcases h with h | ⟨o, h⟩
  · exact .inl (e a _ h)
  · exact .inr ⟨o, e a _ h⟩
theorem Same.sqT {a : Addr} {xs : List V} (e : Same H H') (h : SqT K H a xs) : SqT K H' a xs := by
  rcases h with h | h
  · exact .inl (Same.rd e h)
  · exact .inr h
mutual
theorem Rep.mono {v : V} {d : D} (e : Same H H') : Rep K H v d → Rep K H' v d
  | .non => .non
  | .bl => .bl
  | .int => .int
  | .str => .str
  | .lst h r => .lst (e _ _ h) (Reps.mono e r)
  | .tup h r => .tup (e _ _ h) (Reps.mono e r)
  | .fls h r => .fls (e.seq h) (Reps.mono e r)
  | .ftp h r => .ftp (Same.sqT e h) (Reps.mono e r)
  | .dct h r => .dct (Same.rd e h) (RepK.mono e r)
  | .dcT h r => .dcT (Same.rd e h) (RepT.mono e r)
  | .opq => .opq
theorem Reps.mono {vs : List V} {ds : List D} (e : Same H H') : Reps K H vs ds → Reps K H' vs ds
  | .nil => .nil
  | .cons h t => .cons (Rep.mono e h) (Reps.mono e t)
theorem RepK.mono {vs : List (Key × V)} {ds : List (Key × D)} (e : Same H H') : RepK K H vs ds → RepK K H' vs ds
  | .nil => .nil
  | .cons h t => .cons (Rep.mono e h) (RepK.mono e t)
theorem RepT.mono {vs : List (List Key × V)} {ds : List (List Key × D)} (e : Same H H') : RepT K H vs ds → RepT K H' vs ds
  | .nil => .nil
  | .cons h t => .cons (Rep.mono e h) (RepT.mono e t)
end
theorem Reps.length : ∀ {vs : List V} {ds : List D}, Reps K H vs ds → vs.length = ds.length
  | _, _, .nil => rfl
  | _, _, .cons _ t => by simp [Reps.length t]
theorem Reps.get : ∀ {vs : List V} {ds : List D} {i : Nat} {v : V}, Reps K H vs ds → vs[i]? = some v → ∃ d, ds[i]? = some d ∧ Rep K H v d
  | _, _, _, _, .nil, e => by simp at e
  | _, _, 0, _, .cons r _, e => by simp at e; subst e; exact ⟨_, rfl, r⟩
  | _, _, i + 1, x, .cons _ t, e => by
    obtain ⟨u, h1, h2⟩ := Reps.get (i := i) (v := x) t (by simpa using e)
    exact ⟨u, by simpa using h1, h2⟩
theorem Reps.getD : ∀ {vs : List V} {ds : List D} {i : Nat} {d : D}, Reps K H vs ds → ds[i]? = some d → ∃ v, vs[i]? = some v ∧ Rep K H v d
  | _, _, _, _, .nil, e => by simp at e
  | _, _, 0, _, .cons r _, e => by simp at e; subst e; exact ⟨_, rfl, r⟩
  | _, _, i + 1, x, .cons _ t, e => by
    obtain ⟨u, h1, h2⟩ := Reps.getD (i := i) (d := x) t (by simpa using e)
    exact ⟨u, by simpa using h1, h2⟩
theorem Reps.append : ∀ {vs ws : List V} {ds es : List D}, Reps K H vs ds → Reps K H ws es → Reps K H (vs ++ ws) (ds ++ es)
  | _, _, _, _, .nil, s => s
  | _, _, _, _, .cons r t, s => .cons r (Reps.append t s)
theorem Reps.take : ∀ {vs : List V} {ds : List D} (n : Nat), Reps K H vs ds → Reps K H (vs.take n) (ds.take n)
  | _, _, 0, _ => .nil
  | _, _, _ + 1, .nil => .nil
  | _, _, n + 1, .cons r t => .cons r (Reps.take n t)
theorem Reps.drop : ∀ {vs : List V} {ds : List D} (n : Nat), Reps K H vs ds → Reps K H (vs.drop n) (ds.drop n)
  | _, _, 0, r => r
  | _, _, _ + 1, .nil => .nil
  | _, _, n + 1, .cons _ t => Reps.drop n t
theorem Reps.set {v : V} {d : D} (r : Rep K H v d) : ∀ {vs : List V} {ds : List D} (i : Nat), Reps K H vs ds → Reps K H (vs.set i v) (ds.set i d)
  | _, _, _, .nil => .nil
  | _, _, 0, .cons _ t => .cons r t
  | _, _, i + 1, .cons q t => .cons q (Reps.set r i t)
theorem Reps.eraseIdx : ∀ {vs : List V} {ds : List D} (i : Nat), Reps K H vs ds → Reps K H (vs.eraseIdx i) (ds.eraseIdx i)
  | _, _, _, .nil => .nil
  | _, _, 0, .cons _ t => t
  | _, _, i + 1, .cons q t => .cons q (Reps.eraseIdx i t)
theorem Reps.one {v : V} {d : D} (r : Rep K H v d) : Reps K H [v] [d] := .cons r .nil
theorem Reps.dropLast : ∀ {vs : List V} {ds : List D}, Reps K H vs ds → Reps K H vs.dropLast ds.dropLast
  | _, _, .nil => .nil
  | _, _, .cons _ .nil => .nil
  | _, _, .cons q (.cons q' t) => .cons q (Reps.dropLast (.cons q' t))
theorem Reps.reverse : ∀ {vs : List V} {ds : List D}, Reps K H vs ds → Reps K H vs.reverse ds.reverse
  | _, _, .nil => .nil
  | _, _, .cons q t => by simpa using (Reps.reverse t).append (.one q)
/-- ints, texts, bools -/
theorem Reps.ints : ∀ {vs : List V} {ns : List Int}, Reps K H vs (ns.map D.int) → vs = ns.map V.int
  | _, [], .nil => rfl
  | _, _ :: _, .cons .int t => by rw [Reps.ints t]; rfl
theorem Reps.of_ints : ∀ (ns : List Int), Reps K H (ns.map V.int) (ns.map D.int)
  | [] => .nil
  | _ :: r => .cons .int (Reps.of_ints r)
theorem Reps.strs : ∀ {vs : List V} {ns : List Str}, Reps K H vs (ns.map D.str) → vs = ns.map V.str
  | _, [], .nil => rfl
  | _, _ :: _, .cons .str t => by rw [Reps.strs t]; rfl
theorem Reps.of_strs : ∀ (ns : List Str), Reps K H (ns.map V.str) (ns.map D.str)
  | [] => .nil
  | _ :: r => .cons .str (Reps.of_strs r)
theorem Reps.bls : ∀ {vs : List V} {ns : List Bool}, Reps K H vs (ns.map D.bl) → vs = ns.map V.bl
  | _, [], .nil => rfl
  | _, _ :: _, .cons .bl t => by rw [Reps.bls t]; rfl
end

/-! ### what is owned -/
inductive Own where
  | lst (ds : List D) | dct (kvs : List (Key × D)) | dcT (kvs : List (List Key × D))
def Own.d : Own → D
  | .lst ds => .lst ds
  | .dct kvs => .dct kvs
  | .dcT kvs => .dcT kvs
/-- a slot: nothing known, shared data, an object of one's own (b: lent by the caller), a list (k = none) or a dict (its keys) of own lists -/
inductive Slot where
  | un | sh (d : D) | ow (b : Bool) (o : Own) | rw (k : Option (List Key)) (rows : List (List D))
abbrev Rho := List Slot
abbrev Cell := Option V × Slot

inductive OwnAt (K : PySem.W.Frag) (Hk H : Hp) : Own → Addr → List Addr → Prop
  | lst {p vs ds} (h : H p = some (.lst vs)) (r : Reps K Hk vs ds) : OwnAt K Hk H (.lst ds) p [p]
  | dct {p kvs kds} (h : H p = some (.dK kvs)) (r : RepK K Hk kvs kds) : OwnAt K Hk H (.dct kds) p [p]
  | dcT {p kvs kds} (h : H p = some (.dT kvs)) (r : RepT K Hk kvs kds) : OwnAt K Hk H (.dcT kds) p [p]
/-- own lists -/
inductive Rows (K : PySem.W.Frag) (Hk H : Hp) : List Addr → List (List D) → Prop
  | nil : Rows K Hk H [] []
  | cons {q vs ds qs rows} (h : H q = some (.lst vs)) (r : Reps K Hk vs ds) (t : Rows K Hk H qs rows) : Rows K Hk H (q :: qs) (ds :: rows)
/-- what holds them -/
def outer : Option (List Key) → List Addr → HO
  | none, qs => .lst (qs.map V.ref)
  | some ks, qs => .dK (ks.zip (qs.map V.ref))
def kOk : Option (List Key) → List Addr → Prop
  | none, _ => True
  | some ks, qs => ks.length = qs.length
inductive CellOk (K : PySem.W.Frag) (Hk H : Hp) : Option V → Slot → List Addr → Prop
  | rw {k p qs rows} (h : H p = some (outer k qs)) (hk : kOk k qs) (r : Rows K Hk H qs rows) : CellOk K Hk H (some (.ref p)) (.rw k rows) (p :: qs)
  | un {x} : CellOk K Hk H x .un []
  | sh {v d} (r : Rep K Hk v d) : CellOk K Hk H (some v) (.sh d) []
  | ow {b o p fp} (r : OwnAt K Hk H o p fp) : CellOk K Hk H (some (.ref p)) (.ow b o) fp
inductive Cells (K : PySem.W.Frag) (Hk H : Hp) : List Cell → List Addr → Prop
  | nil : Cells K Hk H [] []
  | cons {c L fp fq} (h : CellOk K Hk H c.1 c.2 fp) (t : Cells K Hk H L fq) : Cells K Hk H (c :: L) (fp ++ fq)

section
variable {K : PySem.W.Frag} {Hk Hk' H H' : Hp}
theorem OwnAt.at {o : Own} {p : Addr} {fp : List Addr} (h : OwnAt K Hk H o p fp) : ∀ q ∈ fp, ∃ u, H q = some u := by
  intro q hq
  cases h with
  | lst h r => simp at hq; subst hq; exact ⟨_, h⟩
  | dct h r => simp at hq; subst hq; exact ⟨_, h⟩
  | dcT h r => simp at hq; subst hq; exact ⟨_, h⟩
theorem OwnAt.mono {o : Own} {p : Addr} {fp : List Addr} (h : OwnAt K Hk H o p fp) (e : Same Hk Hk') (k : ∀ q ∈ fp, H' q = H q) : OwnAt K Hk' H' o p fp := by
  cases h with
  | lst h r => exact .lst ((k _ (by simp)).trans h) (r.mono e)
  | dct h r => exact .dct ((k _ (by simp)).trans h) (r.mono e)
  | dcT h r => exact .dcT ((k _ (by simp)).trans h) (r.mono e)
theorem Rows.at : ∀ {qs : List Addr} {rows : List (List D)}, Rows K Hk H qs rows → ∀ q ∈ qs, ∃ u, H q = some u
  | _, _, .nil => by simp
  | _, _, .cons h _ t => fun q hq => (List.mem_cons.mp hq).elim (fun e => e ▸ ⟨_, h⟩) (Rows.at t q)
theorem Rows.mono : ∀ {qs : List Addr} {rows : List (List D)}, Rows K Hk H qs rows → Same Hk Hk' → (∀ q ∈ qs, H' q = H q) → Rows K Hk' H' qs rows
  | _, _, .nil, _, _ => .nil
  | _, _, .cons h r t, e, k => .cons ((k _ (by simp)).trans h) (r.mono e) (Rows.mono t e fun q hq => k q (List.mem_cons_of_mem _ hq))
theorem Rows.length : ∀ {qs : List Addr} {rows : List (List D)}, Rows K Hk H qs rows → qs.length = rows.length
  | _, _, .nil => rfl
  | _, _, .cons _ _ t => by simp [Rows.length t]
theorem CellOk.at {x : Option V} {sl : Slot} {fp : List Addr} (h : CellOk K Hk H x sl fp) : ∀ q ∈ fp, ∃ u, H q = some u := by
  cases h with
  | rw h hk r => exact fun q hq => (List.mem_cons.mp hq).elim (fun e => e ▸ ⟨_, h⟩) (r.at q)
  | un => simp
  | sh r => simp
  | ow r => exact r.at
theorem CellOk.mono {x : Option V} {sl : Slot} {fp : List Addr} (h : CellOk K Hk H x sl fp) (e : Same Hk Hk') (k : ∀ q ∈ fp, H' q = H q) : CellOk K Hk' H' x sl fp := by
  cases h with
  | rw h hk r => exact .rw ((k _ (by simp)).trans h) hk (r.mono e fun q hq => k q (List.mem_cons_of_mem _ hq))
  | un => exact .un
  | sh r => exact .sh (r.mono e)
  | ow r => exact .ow (r.mono e k)
theorem Cells.at : ∀ {L : List Cell} {F : List Addr}, Cells K Hk H L F → ∀ q ∈ F, ∃ u, H q = some u
  | _, _, .nil => by simp
  | _, _, .cons h t => fun q hq => (List.mem_append.mp hq).elim (h.at q) (Cells.at t q)
theorem Cells.mono : ∀ {L : List Cell} {F : List Addr}, Cells K Hk H L F → Same Hk Hk' → (∀ q ∈ F, H' q = H q) → Cells K Hk' H' L F
  | _, _, .nil, _, _ => .nil
  | _, _, .cons h t, e, k => .cons (h.mono e fun q hq => k q (List.mem_append_left _ hq)) (Cells.mono t e fun q hq => k q (List.mem_append_right _ hq))
theorem Cells.perm {L L' : List Cell} (p : L.Perm L') : ∀ {F : List Addr}, Cells K Hk H L F → ∃ F', F.Perm F' ∧ Cells K Hk H L' F' := by
  induction p with
  | nil => intro F h; exact ⟨F, .refl _, h⟩
  | cons x _ ih =>
    intro F h
    cases h with
    | cons h t =>
      obtain ⟨F', p', h'⟩ := ih t
      exact ⟨_, p'.append_left _, .cons h h'⟩
  | swap x y l =>
    intro F h
    cases h with
    | cons h t =>
      cases t with
      | cons h2 t => exact ⟨_, by rw [← List.append_assoc, ← List.append_assoc]; exact List.perm_append_comm.append_right _, .cons h2 (.cons h t)⟩
  | trans _ _ ih1 ih2 =>
    intro F h
    obtain ⟨F1, p1, h1⟩ := ih1 h
    obtain ⟨F2, p2, h2⟩ := ih2 h1
    exact ⟨F2, p1.trans p2, h2⟩
end

/-- the cells stand in H, beside what is known (Hk) -/
structure HL (K : PySem.W.Frag) (Hk H : Hp) (L : List Cell) : Prop where
  ex : Same Hk H
  cells : ∃ F, Cells K Hk H L F ∧ F.Nodup ∧ ∀ p ∈ F, Hk p = none
section
variable {K : PySem.W.Frag} {Hk Hk' H H' : Hp} {L L' : List Cell} {c : Cell} {p : Addr}
theorem HL.perm (h : HL K Hk H L) (e : L.Perm L') : HL K Hk H L' := by
  obtain ⟨F, hc, hn, hk⟩ := h.cells
  obtain ⟨F', p', hc'⟩ := hc.perm e
  exact ⟨h.ex, F', hc', p'.nodup_iff.mp hn, fun q hq => hk q (p'.mem_iff.mpr hq)⟩
theorem HL.tail (h : HL K Hk H (c :: L)) : HL K Hk H L := by
  obtain ⟨F, hc, hn, hk⟩ := h.cells
  cases hc with
  | cons h1 t => exact ⟨h.ex, _, t, (List.nodup_append.mp hn).2.1, fun q hq => hk q (List.mem_append_right _ hq)⟩
theorem HL.un {x : Option V} (h : HL K Hk H L) : HL K Hk H ((x, .un) :: L) := by
  obtain ⟨F, hc, hn, hk⟩ := h.cells
  exact ⟨h.ex, F, .cons (fp := []) .un hc, hn, hk⟩
theorem HL.sh {v : V} {d : D} (h : HL K Hk H L) (r : Rep K Hk v d) : HL K Hk H ((some v, .sh d) :: L) := by
  obtain ⟨F, hc, hn, hk⟩ := h.cells
  exact ⟨h.ex, F, .cons (fp := []) (.sh r) hc, hn, hk⟩
theorem HL.get_sh {x : Option V} {d : D} (h : HL K Hk H ((x, .sh d) :: L)) : ∃ v, x = some v ∧ Rep K Hk v d := by
  obtain ⟨F, hc, hn, hk⟩ := h.cells
  cases hc with
  | cons h1 t =>
    cases h1 with
    | sh r => exact ⟨_, rfl, r⟩
/-- a new object, known at once -/
theorem HL.know {u : HO} (h : HL K Hk H L) (hp : H p = none) : HL K (upd Hk p u) (upd H p u) L := by
  obtain ⟨F, hc, hn, hk⟩ := h.cells
  have hkp : Hk p = none := h.ex.free hp
  have e : Same Hk (upd Hk p u) := fun b o q => by rw [upd_ne (ne_of_none q hkp)]; exact q
  have ne : ∀ q ∈ F, q ≠ p := fun q hq z => by
    obtain ⟨o, ho⟩ := hc.at q hq
    rw [z, hp] at ho; cases ho
  refine ⟨fun b o q => ?_, F, hc.mono e fun q hq => upd_ne (ne q hq), hn, fun q hq => by rw [upd_ne (ne q hq)]; exact hk q hq⟩
  by_cases hb : b = p
  · subst hb; rw [upd_same] at q; cases q; exact upd_same
  · rw [upd_ne hb] at q; rw [upd_ne hb]; exact h.ex b o q
theorem HL.know_same {u : HO} (h : HL K Hk H L) (hp : H p = none) : Same Hk (upd Hk p u) := fun b o q => by rw [upd_ne (ne_of_none q (h.ex.free hp))]; exact q
/-- a new object of one's own -/
theorem HL.own {u : HO} {o : Own} {b : Bool} (h : HL K Hk H L) (hp : H p = none) (ho : OwnAt K Hk (upd H p u) o p [p]) : HL K Hk (upd H p u) ((some (.ref p), .ow b o) :: L) := by
  obtain ⟨F, hc, hn, hk⟩ := h.cells
  have hkp : Hk p = none := h.ex.free hp
  have ne : ∀ q ∈ F, q ≠ p := fun q hq z => by
    obtain ⟨o, ho⟩ := hc.at q hq
    rw [z, hp] at ho; cases ho
  refine ⟨fun b o q => by rw [upd_ne (ne_of_none q hkp)]; exact h.ex b o q, [p] ++ F, .cons (.ow ho) (hc.mono (.refl _) fun q hq => upd_ne (ne q hq)), ?_, fun q hq => ?_⟩
  · exact List.nodup_cons.mpr ⟨fun z => ne p z rfl, hn⟩
  · rcases List.mem_cons.mp hq with z | z
    · rw [z]; exact hkp
    · exact hk q z
/-- what is owned becomes known -/
theorem HL.share {x : Option V} {o : Own} {b : Bool} (h : HL K Hk H ((x, .ow b o) :: L)) : ∃ Hk' v, x = some v ∧ Same Hk Hk' ∧ Rep K Hk' v o.d ∧ HL K Hk' H ((x, .sh o.d) :: L) := by
  obtain ⟨F, hc, hn, hk⟩ := h.cells
  cases hc with
  | cons h1 t =>
    rename_i fp fq
    have nd := List.nodup_append.mp hn
    cases h1 with
    | ow r =>
      rename_i p
      have e1 : Same Hk (fun a => if a ∈ fp then H a else Hk a) := fun a u q => by
        show (if a ∈ fp then H a else Hk a) = some u
        by_cases ha : a ∈ fp
        · rw [if_pos ha]; exact h.ex a u q
        · rw [if_neg ha]; exact q
      have e2 : Same (fun a => if a ∈ fp then H a else Hk a) H := fun a u q => by
        have q' : (if a ∈ fp then H a else Hk a) = some u := q
        by_cases ha : a ∈ fp
        · rw [if_pos ha] at q'; exact q'
        · rw [if_neg ha] at q'; exact h.ex a u q'
      have r2 : Rep K (fun a => if a ∈ fp then H a else Hk a) (.ref p) o.d := by
        cases r with
        | lst h r => exact .lst (by show (if p ∈ [p] then H p else Hk p) = _; rw [if_pos (by simp)]; exact h) (r.mono e1)
        | dct h r => exact .dct (.inl (by show (if p ∈ [p] then H p else Hk p) = _; rw [if_pos (by simp)]; exact h)) (r.mono e1)
        | dcT h r => exact .dcT (.inl (by show (if p ∈ [p] then H p else Hk p) = _; rw [if_pos (by simp)]; exact h)) (r.mono e1)
      refine ⟨_, _, rfl, e1, r2, e2, fq, .cons (fp := []) (.sh r2) (t.mono e1 fun _ _ => rfl), nd.2.1, fun q hq => ?_⟩
      show (if q ∈ fp then H q else Hk q) = none
      rw [if_neg (fun z => nd.2.2 q z q hq rfl)]
      exact hk q (List.mem_append_right _ hq)
/-- an own list, changed -/
theorem HL.lst {x : Option V} {ds : List D} {b : Bool} (h : HL K Hk H ((x, .ow b (.lst ds)) :: L)) : ∃ p vs, x = some (.ref p) ∧ H p = some (.lst vs) ∧ Reps K Hk vs ds ∧
    ∀ vs' ds', Reps K Hk vs' ds' → HL K Hk (upd H p (.lst vs')) ((x, .ow b (.lst ds')) :: L) := by
  obtain ⟨F, hc, hn, hk⟩ := h.cells
  cases hc with
  | cons h1 t =>
    rename_i fp fq
    have nd := List.nodup_append.mp hn
    cases h1 with
    | ow r =>
      rename_i p
      cases r with
      | lst hp r =>
        have hkp : Hk p = none := hk p (by simp)
        have ne : ∀ q ∈ fq, q ≠ p := fun q hq z => nd.2.2 p (by simp) q hq z.symm
        refine ⟨p, _, rfl, hp, r, fun vs' ds' r' => ⟨fun a u q => by rw [upd_ne (ne_of_none q hkp)]; exact h.ex a u q, [p] ++ fq, .cons (.ow (.lst upd_same r')) (t.mono (.refl _) fun q hq => upd_ne (ne q hq)), hn, hk⟩⟩
theorem HL.dct {x : Option V} {ds : List (Key × D)} {b : Bool} (h : HL K Hk H ((x, .ow b (.dct ds)) :: L)) : ∃ p vs, x = some (.ref p) ∧ H p = some (.dK vs) ∧ RepK K Hk vs ds ∧
    ∀ vs' ds', RepK K Hk vs' ds' → HL K Hk (upd H p (.dK vs')) ((x, .ow b (.dct ds')) :: L) := by
  obtain ⟨F, hc, hn, hk⟩ := h.cells
  cases hc with
  | cons h1 t =>
    rename_i fp fq
    have nd := List.nodup_append.mp hn
    cases h1 with
    | ow r =>
      rename_i p
      cases r with
      | dct hp r =>
        have hkp : Hk p = none := hk p (by simp)
        have ne : ∀ q ∈ fq, q ≠ p := fun q hq z => nd.2.2 p (by simp) q hq z.symm
        refine ⟨p, _, rfl, hp, r, fun vs' ds' r' => ⟨fun a u q => by rw [upd_ne (ne_of_none q hkp)]; exact h.ex a u q, [p] ++ fq, .cons (.ow (.dct upd_same r')) (t.mono (.refl _) fun q hq => upd_ne (ne q hq)), hn, hk⟩⟩
end

/-! ### a frame's slots and the cells beside them -/
/-- lent slots stay -/
def Kp (σ : L2.St) (ρ : Rho) (σ' : L2.St) (ρ' : Rho) : Prop := ∀ (i : Nat) (o : Own) (v : Option V), ρ[i]? = some (.ow true o) → σ[i]? = some v → σ'[i]? = some v ∧ ∃ o', ρ'[i]? = some (.ow true o')
theorem Kp.refl (σ : L2.St) (ρ : Rho) : Kp σ ρ σ ρ := fun _ o _ h e => ⟨e, o, h⟩
theorem Kp.trans {σ σ1 σ2 : L2.St} {ρ ρ1 ρ2 : Rho} (a : Kp σ ρ σ1 ρ1) (b : Kp σ1 ρ1 σ2 ρ2) : Kp σ ρ σ2 ρ2 := fun i o v h e =>
  let ⟨e1, o1, h1⟩ := a i o v h e
  b i o1 v h1 e1
/-- what stands around a def's run: the cells beside it, what was known at its start, its start, what it may raise -/
structure Fr where
  T0 : List Cell
  Hk0 : Hp
  σ0 : L2.St
  ρ0 : Rho
  EX : Value → List (Str × D) → Rho → Prop
/-- nothing may be raised, nothing is asked of the start -/
def Fr.mute (F : Fr) : Fr := ⟨F.T0, fun _ => none, [], [], fun _ _ _ => False⟩
structure Holds (K : PySem.W.Frag) (F : Fr) (Hk : Hp) (ρ : Rho) (T : List Cell) (σ : L2.St) (H : Hp) : Prop where
  len : ρ.length = σ.length
  hl : HL K Hk H (σ.zip ρ ++ (T ++ F.T0))
  ex0 : Same F.Hk0 Hk
  kp0 : Kp F.σ0 F.ρ0 σ ρ
theorem zip_at : ∀ {σ : L2.St} {ρ : Rho} {i : Nat} {v : Option V} {s : Slot}, σ[i]? = some v → ρ[i]? = some s →
    ∃ R, (σ.zip ρ).Perm ((v, s) :: R) ∧ ∀ v' s', ((σ.set i v').zip (ρ.set i s')).Perm ((v', s') :: R)
  | [], _, _, _, _, e, _ => by simp at e
  | _ :: _, [], _, _, _, _, e => by simp at e
  | a :: σ, b :: ρ, 0, v, s, e1, e2 => by
    simp at e1 e2; subst e1; subst e2
    exact ⟨σ.zip ρ, .refl _, fun v' s' => .refl _⟩
  | a :: σ, b :: ρ, i + 1, v, s, e1, e2 => by
    obtain ⟨R, h1, h2⟩ := zip_at (σ := σ) (ρ := ρ) (i := i) (by simpa using e1) (by simpa using e2)
    exact ⟨(a, b) :: R, (h1.cons _).trans (.swap _ _ _), fun v' s' => ((h2 v' s').cons _).trans (.swap _ _ _)⟩
section
variable {K : PySem.W.Frag} {F : Fr} {Hk Hk' H H' : Hp} {ρ : Rho} {T : List Cell} {σ : L2.St} {i : Nat} {c : Cell} {s : Slot} {p : Addr}
theorem Holds.mute (h : Holds K F Hk ρ T σ H) : Holds K F.mute Hk ρ T σ H := ⟨h.len, h.hl, (fun _ _ z => by cases z), fun i o v z => absurd z (by simp [Fr.mute])⟩
/-- back from the muted run -/
theorem Holds.unmute {ρ1 : Rho} {σ1 : L2.St} {Hk1 H1 : Hp} {T1 : List Cell} (h0 : Holds K F Hk1 ρ1 T1 σ1 H1) (h : Holds K F.mute Hk ρ T σ H) (e : Same Hk1 Hk) (k : Kp σ1 ρ1 σ ρ) : Holds K F Hk ρ T σ H := ⟨h.len, h.hl, h0.ex0.trans e, h0.kp0.trans k⟩
theorem Holds.at (h : Holds K F Hk ρ T σ H) (e : ρ[i]? = some s) : ∃ v R, σ[i]? = some v ∧ HL K Hk H ((v, s) :: R) ∧ ∀ Hk' H' v' s', HL K Hk' H' ((v', s') :: R) → Same Hk Hk' → Kp σ ρ (σ.set i v') (ρ.set i s') → Holds K F Hk' (ρ.set i s') T (σ.set i v') H' := by
  have hi : i < σ.length := by rw [← h.len]; exact (List.getElem?_eq_some_iff.mp e).1
  obtain ⟨R, h1, h2⟩ := zip_at (List.getElem?_eq_getElem hi) e
  refine ⟨σ[i], R ++ (T ++ F.T0), List.getElem?_eq_getElem hi, h.hl.perm (h1.append_right _), fun Hk' H' v' s' q e k => ⟨by simp [h.len], q.perm ((h2 v' s').append_right _).symm, h.ex0.trans e, h.kp0.trans k⟩⟩
theorem set_self {α : Type} {l : List α} {i : Nat} {x : α} (e : l[i]? = some x) : l.set i x = l := by
  apply List.ext_getElem?
  intro j
  rw [List.getElem?_set]
  split
  · rename_i h; subst h
    split
    · exact e.symm
    · rename_i h; exact absurd (List.getElem?_eq_some_iff.mp e).1 h
  · rfl
/-- .. the value stays, the slot changes -/
theorem Holds.at' (h : Holds K F Hk ρ T σ H) (e : ρ[i]? = some s) : ∃ v R, σ[i]? = some v ∧ HL K Hk H ((v, s) :: R) ∧ ∀ Hk' H' s', HL K Hk' H' ((v, s') :: R) → Same Hk Hk' → Kp σ ρ σ (ρ.set i s') → Holds K F Hk' (ρ.set i s') T σ H' := by
  obtain ⟨v, R, e1, h1, h2⟩ := h.at e
  exact ⟨v, R, e1, h1, fun Hk' H' s' q e k => by
    have := h2 Hk' H' v s' q e (by rw [set_self e1]; exact k)
    rw [set_self e1] at this; exact this⟩
theorem Holds.get_sh {d : D} (h : Holds K F Hk ρ T σ H) (e : ρ[i]? = some (.sh d)) : ∃ v, σ[i]? = some (some v) ∧ Rep K Hk v d := by
  obtain ⟨v, R, e1, h1, _⟩ := h.at e
  obtain ⟨v', rfl, r⟩ := h1.get_sh
  exact ⟨v', e1, r⟩
theorem Holds.front (h : Holds K F Hk ρ T σ H) : HL K Hk H (T ++ (F.T0 ++ σ.zip ρ)) := h.hl.perm (List.perm_append_comm.trans (by rw [List.append_assoc]))
theorem Holds.back (l : ρ.length = σ.length) (h : HL K Hk H (T ++ (F.T0 ++ σ.zip ρ))) (e : Same F.Hk0 Hk) (k : Kp F.σ0 F.ρ0 σ ρ) : Holds K F Hk ρ T σ H := ⟨l, h.perm ((show (T ++ (F.T0 ++ σ.zip ρ)).Perm (σ.zip ρ ++ (T ++ F.T0)) from (by rw [← List.append_assoc] : (T ++ (F.T0 ++ σ.zip ρ)) = ((T ++ F.T0) ++ σ.zip ρ)) ▸ List.perm_append_comm)), e, k⟩
theorem Holds.pop (h : Holds K F Hk ρ (c :: T) σ H) : Holds K F Hk ρ T σ H := .back h.len h.front.tail h.ex0 h.kp0
theorem Holds.sh {v : V} {d : D} (h : Holds K F Hk ρ T σ H) (r : Rep K Hk v d) : Holds K F Hk ρ ((some v, .sh d) :: T) σ H := .back h.len (h.front.sh r) h.ex0 h.kp0
theorem Holds.top {x : Option V} {d : D} (h : Holds K F Hk ρ ((x, .sh d) :: T) σ H) : ∃ v, x = some v ∧ Rep K Hk v d := HL.get_sh h.front
theorem Holds.ex (h : Holds K F Hk ρ T σ H) : Same Hk H := h.hl.ex
theorem Holds.know_same {u : HO} (h : Holds K F Hk ρ T σ H) (hp : H p = none) : Same Hk (upd Hk p u) := h.hl.know_same hp
theorem Holds.know {u : HO} (h : Holds K F Hk ρ T σ H) (hp : H p = none) : Holds K F (upd Hk p u) ρ T σ (upd H p u) := ⟨h.len, h.hl.know hp, h.ex0.trans (h.know_same hp), h.kp0⟩
theorem Holds.own {u : HO} {o : Own} {b : Bool} (h : Holds K F Hk ρ T σ H) (hp : H p = none) (ho : OwnAt K Hk (upd H p u) o p [p]) : Holds K F Hk ρ ((some (.ref p), .ow b o) :: T) σ (upd H p u) := .back h.len (h.front.own hp ho) h.ex0 h.kp0
theorem Holds.perm {T' : List Cell} (h : Holds K F Hk ρ T σ H) (e : T.Perm T') : Holds K F Hk ρ T' σ H := ⟨h.len, h.hl.perm ((e.append_right _).append_left _), h.ex0, h.kp0⟩
theorem Holds.sub (h : Holds K F Hk ρ (c :: T) σ H) : Holds K F Hk ρ T σ H := h.pop
end
end WL

set_option Elab.async false
set_option linter.all false
set_option maxRecDepth 100000
set_option maxHeartbeats 4000000
/-! W1: judgements over values: an expression, a test, operands, statements; a def's promise; calls. -/
namespace WL
open PySem PySem.Spec PyProof.Rows L2

/-! ### the strongest readings -/
section
variable {X : Cx} {Φ : Fr} {e : Expr} {es : List Expr} {st : Stmt} {sts : List Stmt} {σ : L2.St} {H : Hp}
def tSem (X : Cx) (e : Expr) : TE := fun σ H Q => ∀ pins s, Inv X pins σ H s → wpAny (model X.prog X.w) X.A (eval e X.env) (EP X pins σ Q) X.xe s
theorem pe_sem : PE X e (tSem X e) := ⟨fun pins s _ _ _ I h => h pins s I⟩
theorem tSem_of {t : TE} {Q : VK} (h : PE X e t) (q : t σ H Q) : tSem X e σ H Q := fun pins s I => h.run pins s σ H Q I q
def tSemT (X : Cx) (e : Expr) : TT := fun σ H Q => ∀ pins s, Inv X pins σ H s → wpAny (model X.prog X.w) X.A (isTrue e X.env (eval e X.env)) (TP X pins σ Q) X.xe s
theorem pt_sem : PT X e (tSemT X e) := ⟨fun pins s _ _ _ I h => h pins s I⟩
theorem tSemT_of {t : TT} {Q : Bool → Hp → Prop} (h : PT X e t) (q : t σ H Q) : tSemT X e σ H Q := fun pins s I => h.run pins s σ H Q I q
def tSemW (X : Cx) (e : Expr) : TT := fun σ H Q => ∀ whole pins s, Inv X pins σ H s → wpAny (model X.prog X.w) X.A (isTrue e X.env whole) (TP X pins σ Q) X.xe s
theorem pw_sem : PW X e (tSemW X e) := ⟨fun wh pins s _ _ _ I h => h wh pins s I⟩
theorem tSemW_of {t : TT} {Q : Bool → Hp → Prop} (h : PW X e t) (q : t σ H Q) : tSemW X e σ H Q := fun wh pins s I => h.run wh pins s σ H Q I q
def tSemA (X : Cx) (es : List Expr) : TA := fun σ H Q => ∀ pos pins s, Inv X pins σ H s → wpAny (model X.prog X.w) X.A (spliced (backTo pos (starEach es X.env))) (AP X pins σ Q) X.xe s
theorem pa_sem : PA X es (tSemA X es) := ⟨fun pos pins s _ _ _ I h => h pos pins s I⟩
theorem tSemA_of {t : TA} {Q : List V → Hp → Prop} (h : PA X es t) (q : t σ H Q) : tSemA X es σ H Q := fun pos pins s I => h.run pos pins s σ H Q I q
def tSemS (X : Cx) (st : Stmt) : TS := fun D σ H => ∀ pins s, Inv X pins σ H s → wpAny (model X.prog X.w) X.A (exec st X.env) (SP X pins D) X.xe s
theorem ps_sem : PS X st (tSemS X st) := ⟨fun pins s _ _ _ I h => h pins s I⟩
theorem tSemS_of {t : TS} {D : Ends} (h : PS X st t) (q : t D σ H) : tSemS X st D σ H := fun pins s I => h.run pins s σ H D I q
def tSemSs (X : Cx) (sts : List Stmt) : TS := fun D σ H => ∀ pins s, Inv X pins σ H s → wpAny (model X.prog X.w) X.A (execs sts X.env) (SP X pins D) X.xe s
theorem pss_sem : PSs X sts (tSemSs X sts) := ⟨fun pins s _ _ _ I h => h pins s I⟩
theorem tSemSs_of {t : TS} {D : Ends} (h : PSs X sts t) (q : t D σ H) : tSemSs X sts D σ H := fun pins s I => h.run pins s σ H D I q
end

/-! ### readings of values -/
abbrev VK0 := Slot → Rho → Prop
abbrev VE := Rho → VK0 → Prop
abbrev VT := Rho → (Bool → Rho → Prop) → Prop
/-- an operand: its value, or a slot that is only looked into -/
inductive Arg where
  | val (s : Slot) | pk (i : Nat)
abbrev VO := Rho → (Arg → Rho → Prop) → Prop
abbrev VA := Rho → (List Arg → Rho → Prop) → Prop
structure Out where
  nx : Rho → Prop
  rt : Slot → Rho → Prop
  bk : Rho → Prop := fun _ => False
  ct : Rho → Prop := fun _ => False
abbrev VS := Out → Rho → Prop

def Post (K : PySem.W.Frag) (Φ : Fr) (Hk : Hp) (T : List Cell) (σ : L2.St) (ρ : Rho) (Q : VK0) (P : VK) : Prop :=
  ∀ v H' Hk' ρ' r, Same Hk Hk' → Holds K Φ Hk' ρ' ((some v, r) :: T) σ H' → Kp σ ρ σ ρ' → Q r ρ' → P v H'
def PostT (K : PySem.W.Frag) (Φ : Fr) (Hk : Hp) (T : List Cell) (σ : L2.St) (ρ : Rho) (Q : Bool → Rho → Prop) (P : Bool → Hp → Prop) : Prop :=
  ∀ b H' Hk' ρ', Same Hk Hk' → Holds K Φ Hk' ρ' T σ H' → Kp σ ρ σ ρ' → Q b ρ' → P b H'
inductive ArgAt (σ : L2.St) : Arg → V → List Cell → Prop
  | val {s v} : ArgAt σ (.val s) v [(some v, s)]
  | pk {i v} (h : σ[i]? = some (some v)) : ArgAt σ (.pk i) v []
inductive ArgsAt (σ : L2.St) : List Arg → List V → List Cell → Prop
  | nil : ArgsAt σ [] [] []
  | cons {a v ts as vs us} (h : ArgAt σ a v ts) (t : ArgsAt σ as vs us) : ArgsAt σ (a :: as) (v :: vs) (us ++ ts)
def PostO (K : PySem.W.Frag) (Φ : Fr) (Hk : Hp) (T : List Cell) (σ : L2.St) (ρ : Rho) (Q : Arg → Rho → Prop) (P : VK) : Prop :=
  ∀ v H' Hk' ρ' a ts, Same Hk Hk' → ArgAt σ a v ts → Holds K Φ Hk' ρ' (ts ++ T) σ H' → Kp σ ρ σ ρ' → Q a ρ' → P v H'
def PostA (K : PySem.W.Frag) (Φ : Fr) (Hk : Hp) (T : List Cell) (σ : L2.St) (ρ : Rho) (Q : List Arg → Rho → Prop) (P : List V → Hp → Prop) : Prop :=
  ∀ vs H' Hk' ρ' as ts, Same Hk Hk' → ArgsAt σ as vs ts → Holds K Φ Hk' ρ' (ts ++ T) σ H' → Kp σ ρ σ ρ' → Q as ρ' → P vs H'
structure OutOk (K : PySem.W.Frag) (Φ : Fr) (Hk : Hp) (T : List Cell) (σ : L2.St) (ρ : Rho) (R : Out) (D : Ends) : Prop where
  nx : ∀ σ' H' Hk' ρ', Same Hk Hk' → Holds K Φ Hk' ρ' T σ' H' → Kp σ ρ σ' ρ' → R.nx ρ' → D.nx σ' H'
  rt : ∀ v σ' H' Hk' ρ' r, Same Hk Hk' → Holds K Φ Hk' ρ' ((some v, r) :: T) σ' H' → Kp σ ρ σ' ρ' → R.rt r ρ' → D.rt v H'
  bk : ∀ σ' H' Hk' ρ', Same Hk Hk' → Holds K Φ Hk' ρ' T σ' H' → Kp σ ρ σ' ρ' → R.bk ρ' → D.bk σ' H'
  ct : ∀ σ' H' Hk' ρ', Same Hk Hk' → Holds K Φ Hk' ρ' T σ' H' → Kp σ ρ σ' ρ' → R.ct ρ' → D.ct σ' H'

structure PWE (X : Cx) (Φ : Fr) (e : Expr) (t : VE) : Prop where
  run : ∀ ρ Q Hk T σ H P, t ρ Q → Holds X.K Φ Hk ρ T σ H → Post X.K Φ Hk T σ ρ Q P → tSem X e σ H P
structure PWT (X : Cx) (Φ : Fr) (e : Expr) (t : VT) : Prop where
  run : ∀ ρ Q Hk T σ H P, t ρ Q → Holds X.K Φ Hk ρ T σ H → PostT X.K Φ Hk T σ ρ Q P → tSemT X e σ H P
/-- a chain of and | or as a test -/
structure PWW (X : Cx) (Φ : Fr) (e : Expr) (t : VT) : Prop where
  run : ∀ ρ Q Hk T σ H P, t ρ Q → Holds X.K Φ Hk ρ T σ H → PostT X.K Φ Hk T σ ρ Q P → tSemW X e σ H P
structure PWO (X : Cx) (Φ : Fr) (e : Expr) (t : VO) : Prop where
  run : ∀ ρ Q Hk T σ H P, t ρ Q → Holds X.K Φ Hk ρ T σ H → PostO X.K Φ Hk T σ ρ Q P → tSem X e σ H P
structure PWA (X : Cx) (Φ : Fr) (es : List Expr) (t : VA) : Prop where
  run : ∀ ρ Q Hk T σ H P, t ρ Q → Holds X.K Φ Hk ρ T σ H → PostA X.K Φ Hk T σ ρ Q P → tSemA X es σ H P
structure PWS (X : Cx) (Φ : Fr) (st : Stmt) (t : VS) : Prop where
  run : ∀ ρ R Hk T σ H D, t R ρ → Holds X.K Φ Hk ρ T σ H → OutOk X.K Φ Hk T σ ρ R D → tSemS X st D σ H
structure PWSs (X : Cx) (Φ : Fr) (st : List Stmt) (t : VS) : Prop where
  run : ∀ ρ R Hk T σ H D, t R ρ → Holds X.K Φ Hk ρ T σ H → OutOk X.K Φ Hk T σ ρ R D → tSemSs X st D σ H

section
variable {K : PySem.W.Frag} {Φ : Fr} {Hk Hk1 Hk' H H' : Hp} {ρ ρ1 : Rho} {T : List Cell} {σ σ1 : L2.St} {Q : VK0} {P : VK}
theorem Post.step (p : Post K Φ Hk T σ ρ Q P) (e : Same Hk Hk1) (k : Kp σ ρ σ ρ1) : Post K Φ Hk1 T σ ρ1 Q P := fun v H' Hk' ρ' r e' h k' q => p v H' Hk' ρ' r (e.trans e') h (k.trans k') q
theorem PostT.step {Q : Bool → Rho → Prop} {P : Bool → Hp → Prop} (p : PostT K Φ Hk T σ ρ Q P) (e : Same Hk Hk1) (k : Kp σ ρ σ ρ1) : PostT K Φ Hk1 T σ ρ1 Q P := fun b H' Hk' ρ' e' h k' q => p b H' Hk' ρ' (e.trans e') h (k.trans k') q
theorem PostO.step {Q : Arg → Rho → Prop} (p : PostO K Φ Hk T σ ρ Q P) (e : Same Hk Hk1) (k : Kp σ ρ σ ρ1) : PostO K Φ Hk1 T σ ρ1 Q P := fun v H' Hk' ρ' a ts e' ha h k' q => p v H' Hk' ρ' a ts (e.trans e') ha h (k.trans k') q
theorem PostA.step {Q : List Arg → Rho → Prop} {P : List V → Hp → Prop} (p : PostA K Φ Hk T σ ρ Q P) (e : Same Hk Hk1) (k : Kp σ ρ σ ρ1) : PostA K Φ Hk1 T σ ρ1 Q P := fun v H' Hk' ρ' a ts e' ha h k' q => p v H' Hk' ρ' a ts (e.trans e') ha h (k.trans k') q
theorem OutOk.step {R : Out} {D : Ends} (p : OutOk K Φ Hk T σ ρ R D) (e : Same Hk Hk1) (k : Kp σ ρ σ1 ρ1) : OutOk K Φ Hk1 T σ1 ρ1 R D where
  nx := fun σ' H' Hk' ρ' e' h k' q => p.nx σ' H' Hk' ρ' (e.trans e') h (k.trans k') q
  rt := fun v σ' H' Hk' ρ' r e' h k' q => p.rt v σ' H' Hk' ρ' r (e.trans e') h (k.trans k') q
  bk := fun σ' H' Hk' ρ' e' h k' q => p.bk σ' H' Hk' ρ' (e.trans e') h (k.trans k') q
  ct := fun σ' H' Hk' ρ' e' h k' q => p.ct σ' H' Hk' ρ' (e.trans e') h (k.trans k') q
end

section
variable {K : PySem.W.Frag} {Φ : Fr} {Hk H : Hp} {ρ : Rho} {T : List Cell} {σ : L2.St} {i : Nat} {s : Slot}
theorem kp_set {σ : L2.St} {ρ : Rho} {i : Nat} {s s' : Slot} (e : ρ[i]? = some s) (h : ∀ o, s = .ow true o → ∃ o', s' = .ow true o') : Kp σ ρ σ (ρ.set i s') := fun j o v ho ev => by
  refine ⟨ev, ?_⟩
  by_cases hj : j = i
  · subst hj
    rw [e] at ho
    obtain ⟨o', ho'⟩ := h o (Option.some.inj ho)
    have hl := (List.getElem?_eq_some_iff.mp e).1
    exact ⟨o', by rw [List.getElem?_set_self hl, ho']⟩
  · exact ⟨o, by rw [List.getElem?_set_ne (Ne.symm hj)]; exact ho⟩
/-- a slot's cell taken out -/
theorem Holds.atU (h : Holds K Φ Hk ρ T σ H) (e : ρ[i]? = some s) (hs : ∀ o, s ≠ .ow true o) : ∃ v, ∃ R : List Cell, σ[i]? = some v ∧ HL K Hk H ((v, s) :: R) ∧ Holds K Φ Hk (ρ.set i .un) ((v, s) :: T) σ H := by
  obtain ⟨v, ev⟩ : ∃ v, σ[i]? = some v := by
    have hi : i < σ.length := by rw [← h.len]; exact (List.getElem?_eq_some_iff.mp e).1
    exact ⟨σ[i], List.getElem?_eq_getElem hi⟩
  obtain ⟨R, h1, h2⟩ := zip_at ev e
  refine ⟨v, R ++ (T ++ Φ.T0), ev, h.hl.perm (h1.append_right _), by simp [h.len], ?_, h.ex0, h.kp0.trans (kp_set e fun o z => absurd z (hs o))⟩
  have h3 := h2 v .un
  rw [set_self ev] at h3
  have h4 : HL K Hk H ((v, .un) :: ((v, s) :: (R ++ (T ++ Φ.T0)))) := (h.hl.perm (h1.append_right _)).un
  refine h4.perm ?_
  refine .trans ?_ (h3.append_right ((v, s) :: (T ++ Φ.T0))).symm
  exact .cons _ (List.perm_middle (l₁ := R) (a := (v, s)) (l₂ := T ++ Φ.T0)).symm
end

/-! ### views -/
inductive View (K : PySem.W.Frag) (Hk H : Hp) : V → D → Prop
  | known {v d} (r : Rep K Hk v d) : View K Hk H v d
  | own {o p fp} (r : OwnAt K Hk H o p fp) : View K Hk H (.ref p) o.d
abbrev Views (K : PySem.W.Frag) (Hk H : Hp) : List V → List D → Prop := Paired (View K Hk H)
section
variable {K : PySem.W.Frag} {Φ : Fr} {Hk H : Hp} {v : V}
theorem View.int {i : Int} (h : View K Hk H v (.int i)) : v = .int i := by
  generalize e : D.int i = d at h
  cases h with
  | known r => subst e; cases r; rfl
  | own r => cases r <;> cases e
theorem View.str {x : Str} (h : View K Hk H v (.str x)) : v = .str x := by
  generalize e : D.str x = d at h
  cases h with
  | known r => subst e; cases r; rfl
  | own r => cases r <;> cases e
theorem View.bl {x : Bool} (h : View K Hk H v (.bl x)) : v = .bl x := by
  generalize e : D.bl x = d at h
  cases h with
  | known r => subst e; cases r; rfl
  | own r => cases r <;> cases e
theorem View.non (h : View K Hk H v .non) : v = .non := by
  generalize e : D.non = d at h
  cases h with
  | known r => subst e; cases r; rfl
  | own r => cases r <;> cases e
theorem View.lst {ds : List D} (ex : Same Hk H) (h : View K Hk H v (.lst ds)) : ∃ a vs, v = .ref a ∧ H a = some (.lst vs) ∧ Reps K Hk vs ds := by
  generalize e : D.lst ds = d at h
  cases h with
  | known r => subst e; cases r with | lst h r => exact ⟨_, _, rfl, ex _ _ h, r⟩
  | own r => cases r <;> first | (cases e; rename_i h r; exact ⟨_, _, rfl, h, r⟩) | cases e
theorem View.tup {ds : List D} (ex : Same Hk H) (h : View K Hk H v (.tup ds)) : ∃ a vs, v = .ref a ∧ H a = some (.tup vs) ∧ Reps K Hk vs ds := by
  generalize e : D.tup ds = d at h
  cases h with
  | known r => subst e; cases r with | tup h r => exact ⟨_, _, rfl, ex _ _ h, r⟩
  | own r => cases r <;> cases e
theorem View.fls {ds : List D} (ex : Same Hk H) (h : View K Hk H v (.fls ds)) : ∃ a vs, v = .ref a ∧ SqL K H a vs ∧ Reps K Hk vs ds := by
  generalize e : D.fls ds = d at h
  cases h with
  | known r => subst e; cases r with | fls h r => exact ⟨_, _, rfl, ex.seq h, r⟩
  | own r => cases r <;> cases e
theorem View.ftp {ds : List D} (ex : Same Hk H) (h : View K Hk H v (.ftp ds)) : ∃ a vs, v = .ref a ∧ SqT K H a vs ∧ Reps K Hk vs ds := by
  generalize e : D.ftp ds = d at h
  cases h with
  | known r => subst e; cases r with | ftp h r => exact ⟨_, _, rfl, Same.sqT ex h, r⟩
  | own r => cases r <;> cases e
/-- anything that is read as a list -/
theorem View.seqL {d : D} {ds : List D} (ex : Same Hk H) (h : View K Hk H v d) (e : d = .lst ds ∨ d = .fls ds) : ∃ a vs, v = .ref a ∧ SqL K H a vs ∧ Reps K Hk vs ds := by
  rcases e with rfl | rfl
  · obtain ⟨a, vs, e, h, r⟩ := h.lst ex; exact ⟨a, vs, e, .of h, r⟩
  · exact h.fls ex
theorem View.seqT {d : D} {ds : List D} (ex : Same Hk H) (h : View K Hk H v d) (e : d = .tup ds ∨ d = .ftp ds) : ∃ a vs, v = .ref a ∧ SqT K H a vs ∧ Reps K Hk vs ds := by
  rcases e with rfl | rfl
  · obtain ⟨a, vs, e, h, r⟩ := h.tup ex; exact ⟨a, vs, e, .of h, r⟩
  · exact h.ftp ex
theorem View.dct {ds : List (Key × D)} (ex : Same Hk H) (h : View K Hk H v (.dct ds)) : ∃ a vs, v = .ref a ∧ Rd H a (.dK vs) ∧ RepK K Hk vs ds := by
  generalize e : D.dct ds = d at h
  cases h with
  | known r => subst e; cases r with | dct h r => exact ⟨_, _, rfl, Same.rd ex h, r⟩
  | own r => cases r <;> first | (cases e; rename_i h r; exact ⟨_, _, rfl, .of h, r⟩) | cases e
theorem View.dcT {ds : List (List Key × D)} (ex : Same Hk H) (h : View K Hk H v (.dcT ds)) : ∃ a vs, v = .ref a ∧ Rd H a (.dT vs) ∧ RepT K Hk vs ds := by
  generalize e : D.dcT ds = d at h
  cases h with
  | known r => subst e; cases r with | dcT h r => exact ⟨_, _, rfl, Same.rd ex h, r⟩
  | own r => cases r <;> first | (cases e; rename_i h r; exact ⟨_, _, rfl, .of h, r⟩) | cases e
end

def slotD : Slot → Option D
  | .un => none
  | .sh d => some d
  | .ow _ o => some o.d
  | .rw _ _ => none
def argD (ρ : Rho) : Arg → Option D
  | .val s => slotD s
  | .pk i => match ρ[i]? with
    | some s => slotD s
    | none => none
def argDs (ρ : Rho) : List Arg → Option (List D)
  | [] => some []
  | a :: as => match argD ρ a, argDs ρ as with
    | some d, some ds => some (d :: ds)
    | _, _ => none
section
variable {K : PySem.W.Frag} {Φ : Fr} {Hk H : Hp} {ρ : Rho} {T ts : List Cell} {σ : L2.St} {v : V} {d : D}
theorem HL.view {s : Slot} {L : List Cell} (h : HL K Hk H ((some v, s) :: L)) (e : slotD s = some d) : View K Hk H v d := by
  obtain ⟨F, hc, _, _⟩ := h.cells
  cases hc with
  | cons h1 t =>
    have h1' : CellOk K Hk H (some v) s _ := h1
    cases s with
    | un => cases e
    | rw k rows => cases e
    | sh d' => cases e; cases h1' with | sh r => exact .known r
    | ow b o => cases e; cases h1' with | ow r => exact .own r
theorem Holds.slot_view {i : Nat} {s : Slot} (h : Holds K Φ Hk ρ T σ H) (e : ρ[i]? = some s) (hv : σ[i]? = some (some v)) (hd : slotD s = some d) : View K Hk H v d := by
  obtain ⟨v', R, e1, h1, _⟩ := h.at e
  rw [hv] at e1; cases e1
  exact h1.view hd
theorem Holds.some_at {i : Nat} {s : Slot} (h : Holds K Φ Hk ρ T σ H) (e : ρ[i]? = some s) (hd : slotD s = some d) : ∃ v, σ[i]? = some (some v) := by
  obtain ⟨v', R, e1, h1, _⟩ := h.at e
  obtain ⟨F, hc, _, _⟩ := h1.cells
  cases hc with
  | cons h1 t =>
    have h1' : CellOk K Hk H v' s _ := h1
    cases h1' with
    | rw => cases hd
    | un => cases hd
    | sh r => exact ⟨_, e1⟩
    | ow r => exact ⟨_, e1⟩
theorem ArgAt.view {a : Arg} (h : Holds K Φ Hk ρ (ts ++ T) σ H) (ha : ArgAt σ a v ts) (e : argD ρ a = some d) : View K Hk H v d := by
  cases ha with
  | val => exact HL.view h.front e
  | pk hv =>
    rename_i i
    have e' : (match ρ[i]? with | some s => slotD s | none => none) = some d := e
    cases hs : ρ[i]? with
    | none => rw [hs] at e'; cases e'
    | some s => rw [hs] at e'; exact h.slot_view hs hv e'
theorem Holds.drop : ∀ {ts : List Cell}, Holds K Φ Hk ρ (ts ++ T) σ H → Holds K Φ Hk ρ T σ H
  | [], h => h
  | _ :: ts, h => Holds.drop (ts := ts) h.pop
theorem ArgsAt.views {as : List Arg} {vs : List V} {ts : List Cell} (h : ArgsAt σ as vs ts) : ∀ {T : List Cell} {ds : List D}, Holds K Φ Hk ρ (ts ++ T) σ H → argDs ρ as = some ds → Views K Hk H vs ds := by
  induction h with
  | nil => intro T ds h e; cases e; exact .nil
  | cons ha t ih =>
    rename_i a v ts as vs us
    intro T ds h e
    have e' : (match argD ρ a, argDs ρ as with | some d, some ds => some (d :: ds) | _, _ => none) = some ds := e
    cases h1 : argD ρ a with
    | none => rw [h1] at e'; cases e'
    | some d =>
      cases h2 : argDs ρ as with
      | none => rw [h1, h2] at e'; cases e'
      | some es =>
        rw [h1, h2] at e'
        cases e'
        rw [List.append_assoc] at h
        exact .cons (ha.view h.drop h1) (ih h h2)
end

/-! ### what a primitive gives -/
inductive Ret where
  | val (d : D) | newL (ds : List D) | newT (ds : List D) | newD (kvs : List (Key × D)) | newE (kvs : List (List Key × D))
def Ret.slot : Ret → Slot
  | .val d => .sh d
  | .newL ds => .ow false (.lst ds)
  | .newT ds => .sh (.tup ds)
  | .newD kvs => .ow false (.dct kvs)
  | .newE kvs => .ow false (.dcT kvs)
abbrev Prim := List D → (Ret → Prop) → Prop
def RetK (K : PySem.W.Frag) (Hk H : Hp) (P : VK) : Ret → Prop
  | .val d => ∀ v, Rep K Hk v d → P v H
  | .newL ds => ∀ p vs, H p = none → Reps K Hk vs ds → P (.ref p) (upd H p (.lst vs))
  | .newT ds => ∀ p vs, H p = none → Reps K Hk vs ds → P (.ref p) (upd H p (.tup vs))
  | .newD kvs => ∀ p vs, H p = none → RepK K Hk vs kvs → P (.ref p) (upd H p (.dK vs))
  | .newE kvs => ∀ p vs, H p = none → RepT K Hk vs kvs → P (.ref p) (upd H p (.dT vs))
def PrimOk (X : Cx) (r : List V → Hp → VK → Prop) (op : Prim) : Prop :=
  ∀ Hk H vs ds P R, Same Hk H → Views X.K Hk H vs ds → op ds R → (∀ ret, R ret → RetK X.K Hk H P ret) → r vs H P
theorem ret_post {K : PySem.W.Frag} {Φ : Fr} {Hk H : Hp} {ρ : Rho} {T : List Cell} {σ : L2.St} {Q : VK0} {P : VK} {ret : Ret} (h : Holds K Φ Hk ρ T σ H) (p : Post K Φ Hk T σ ρ Q P) (q : Q ret.slot ρ) : RetK K Hk H P ret := by
  cases ret with
  | val d => exact fun v r => p v H Hk ρ _ (.refl _) (h.sh r) (.refl _ _) q
  | newL ds => exact fun a vs ha r => p _ _ Hk ρ _ (.refl _) (h.own ha (.lst upd_same r)) (.refl _ _) q
  | newT ds => exact fun a vs ha r => p _ _ _ ρ _ (h.know_same ha) ((h.know ha).sh (.tup upd_same (r.mono (h.know_same ha)))) (.refl _ _) q
  | newD ds => exact fun a vs ha r => p _ _ Hk ρ _ (.refl _) (h.own ha (.dct upd_same r)) (.refl _ _) q
  | newE ds => exact fun a vs ha r => p _ _ Hk ρ _ (.refl _) (h.own ha (.dcT upd_same r)) (.refl _ _) q

/-! ### expressions -/
section
variable {X : Cx} {Φ : Fr} {e a b : Expr} {es : List Expr} {pos p : Pos} {te ta tb : VE} {to tu : VO} {tas : VA}
/-- a name's value: shared from now on -/
def vVar (i : Nat) : VE := fun ρ Q => (∃ d, ρ[i]? = some (.sh d) ∧ Q (.sh d) ρ) ∨ ∃ o, ρ[i]? = some (.ow false o) ∧ Q (.sh o.d) (ρ.set i (.sh o.d))
theorem pwe_var (i : Nat) {x : Str} (hp : PE X (.Name x pos) (tVar i)) : PWE X Φ (.Name x pos) (vVar i) := ⟨fun ρ Q Hk T σ H P h hh p => tSem_of hp (by
  rcases h with ⟨d, e, q⟩ | ⟨o, e, q⟩
  · obtain ⟨v, ev, r⟩ := hh.get_sh e
    exact ⟨v, ev, p v H Hk ρ _ (.refl _) (hh.sh r) (.refl _ _) q⟩
  · obtain ⟨v, R, ev, h1, back⟩ := hh.at' e
    obtain ⟨Hk', v', rfl, e1, r, h2⟩ := h1.share
    exact ⟨v', ev, p v' H Hk' _ _ e1 ((back Hk' H _ h2 e1 (kp_set e fun _ z => by cases z)).sh r) (kp_set e fun _ z => by cases z) q⟩)⟩
def vC (d : D) : VE := fun ρ Q => Q (.sh d) ρ
theorem pwe_c {v : V} {d : D} (hp : PE X e (tC v)) (r : ∀ K H, Rep K H v d) : PWE X Φ e (vC d) := ⟨fun ρ Q Hk T σ H P h hh p => tSem_of hp (p v H Hk ρ _ (.refl _) (hh.sh (r _ _)) (.refl _ _) h)⟩
theorem pwe_int {i : Int} {j} : PWE X Φ (.Constant (.int i) j pos) (vC (.int i)) := pwe_c pe_int fun _ _ => .int
theorem pwe_bl {i : Bool} {j} : PWE X Φ (.Constant (.bool i) j pos) (vC (.bl i)) := pwe_c pe_bl fun _ _ => .bl
theorem pwe_non {j} : PWE X Φ (.Constant .none j pos) (vC .non) := pwe_c pe_non fun _ _ => .non
theorem pwe_str {x : Str} {j} : PWE X Φ (.Constant (.str x) j pos) (vC (.str x)) := pwe_c pe_str fun _ _ => .str
/-- a module's int or text -/
theorem pwe_globI {x : Str} {i : Int} {t : Tok} (hg : Gl X x) (hm : X.mg x = some (.int i t)) (hd : (x == ("__debug__" : Str)) = false := by decide) : PWE X Φ (.Name x pos) (vC (.int i)) := pwe_c (pe_glob (v := .int i) hg hm ⟨_, rfl⟩ hd) fun _ _ => .int
theorem pwe_globS {x : Str} {i : Str} {t : Tok} (hg : Gl X x) (hm : X.mg x = some (.str i t)) (hd : (x == ("__debug__" : Str)) = false := by decide) : PWE X Φ (.Name x pos) (vC (.str i)) := pwe_c (pe_glob (v := .str i) hg hm ⟨_, rfl⟩ hd) fun _ _ => .str

/-- operands -/
def vPk (i : Nat) : VO := fun ρ Q => ∃ s d, ρ[i]? = some s ∧ slotD s = some d ∧ Q (.pk i) ρ
theorem pwo_var (i : Nat) {x : Str} (hp : PE X (.Name x pos) (tVar i)) : PWO X Φ (.Name x pos) (vPk i) := ⟨fun ρ Q Hk T σ H P h hh p => tSem_of hp (by
  obtain ⟨s, d, e, ed, q⟩ := h
  obtain ⟨v, ev⟩ := hh.some_at e ed
  exact ⟨v, ev, p v H Hk ρ _ [] (.refl _) (.pk ev) hh (.refl _ _) q⟩)⟩
def vVal (te : VE) : VO := fun ρ Q => te ρ fun s ρ' => Q (.val s) ρ'
theorem pwo_val (h : PWE X Φ e te) : PWO X Φ e (vVal te) := ⟨fun ρ Q Hk T σ H P q hh p => h.run ρ _ Hk T σ H P q hh fun v H' Hk' ρ' r e h' k q' => p v H' Hk' ρ' _ [(some v, r)] e .val h' k q'⟩
def vNil : VA := fun ρ Q => Q [] ρ
def vCons (to : VO) (ta : VA) : VA := fun ρ Q => to ρ fun a ρ1 => ta ρ1 fun as ρ2 => Q (a :: as) ρ2
theorem pwa_nil : PWA X Φ [] vNil := ⟨fun ρ Q Hk T σ H P q hh p => tSemA_of pa_nil (p [] H Hk ρ [] [] (.refl _) .nil hh (.refl _ _) q)⟩
theorem pwa_cons (h : PWO X Φ e to) (hr : PWA X Φ es tas) (hs : starEach (e :: es) X.env = (false, eval e X.env) :: starEach es X.env := by rfl) : PWA X Φ (e :: es) (vCons to tas) := ⟨fun ρ Q Hk T σ H P q hh p =>
  tSemA_of (pa_cons pe_sem pa_sem hs) (h.run ρ _ Hk T σ H _ q hh fun v H1 Hk1 ρ1 a ts e1 ha h1 k1 q1 => hr.run ρ1 _ Hk1 (ts ++ T) σ H1 _ q1 h1 fun vs H2 Hk2 ρ2 as us e2 has h2 k2 q2 =>
    p (v :: vs) H2 Hk2 ρ2 (a :: as) (us ++ ts) (e1.trans e2) (.cons ha has) (by rw [List.append_assoc]; exact h2) (k1.trans k2) q2)⟩

/-- a reading over heaps does what a reading over values says -/
structure RunE (K : PySem.W.Frag) (Φ : Fr) (t : TE) (te : VE) : Prop where
  run : ∀ ρ Q Hk T σ H P, te ρ Q → Holds K Φ Hk ρ T σ H → Post K Φ Hk T σ ρ Q P → t σ H P
theorem pwe_of {t : TE} (hp : PE X e t) (h : RunE X.K Φ t te) : PWE X Φ e te := ⟨fun ρ Q Hk T σ H P q hh p => tSem_of hp (h.run ρ Q Hk T σ H P q hh p)⟩
theorem PWE.sem (h : PWE X Φ e te) : RunE X.K Φ (tSem X e) te := ⟨h.run⟩
/-- a value that is a truth, as a test -/
def vT (te : VE) : VT := fun ρ Q => te ρ fun s ρ' => ∃ k, s = .sh (.bl k) ∧ Q k ρ'
theorem pwt_of {t : TE} (hp : PT X e (fun σ H Q => t σ H fun x H1 => ∃ c, x = .bl c ∧ Q c H1)) (h : RunE X.K Φ t te) : PWT X Φ e (vT te) := ⟨fun ρ Q Hk T σ H P q hh p => tSemT_of hp
  (h.run ρ _ Hk T σ H _ q hh fun v H' Hk' ρ' r e' h' k' ⟨k, hr, q'⟩ => by
    subst hr
    obtain ⟨v', ev, rv⟩ := h'.top
    cases ev; cases rv
    exact ⟨k, rfl, p k H' Hk' ρ' e' h'.pop k' q'⟩)⟩
/-- a primitive of operands -/
def vPrim (op : Prim) (ta : VA) : VE := fun ρ Q => ta ρ fun as ρ1 => ∃ ds, argDs ρ1 as = some ds ∧ op ds fun ret => Q ret.slot ρ1
theorem run_prim {r : List V → Hp → VK → Prop} {op : Prim} (ho : PrimOk X r op) (ha : PWA X Φ es tas) : RunE X.K Φ (tCB r (tSemA X es)) (vPrim op tas) := ⟨fun ρ Q Hk T σ H P q hh p =>
  ha.run ρ _ Hk T σ H _ q hh fun vs H1 Hk1 ρ1 as ts e1 has h1 k1 ⟨ds, hd, q1⟩ => ho Hk1 H1 vs ds P _ h1.ex (has.views h1 hd) q1 fun ret hr => ret_post h1.drop (p.step e1 k1) hr⟩
/-- two operands -/
def vBin (op : Prim) (ta tb : VO) : VE := fun ρ Q => ta ρ fun a ρ1 => tb ρ1 fun b ρ2 => ∃ da db, argD ρ2 a = some da ∧ argD ρ2 b = some db ∧ op [da, db] fun ret => Q ret.slot ρ2
def PrimOk2 (X : Cx) (r : R2) (op : Prim) : Prop :=
  ∀ Hk H x y dx dy P R, Same Hk H → View X.K Hk H x dx → View X.K Hk H y dy → op [dx, dy] R → (∀ ret, R ret → RetK X.K Hk H P ret) → r x y H P
theorem run_bin {r : R2} {op : Prim} (ho : PrimOk2 X r op) (ha : PWO X Φ a to) (hb : PWO X Φ b tu) : RunE X.K Φ (tOp r (tSem X a) (tSem X b)) (vBin op to tu) := ⟨fun ρ Q Hk T σ H P q hh p =>
  ha.run ρ _ Hk T σ H _ q hh fun v H1 Hk1 ρ1 a ts e1 h1 hh1 k1 q1 => hb.run ρ1 _ Hk1 (ts ++ T) σ H1 _ q1 hh1 fun u H2 Hk2 ρ2 b us e2 h2 hh2 k2 ⟨da, db, hda, hdb, q2⟩ => by
    have av : View X.K Hk2 H2 v da := ArgAt.view (ts := ts) (T := T) hh2.drop h1 hda
    have bv : View X.K Hk2 H2 u db := ArgAt.view (ts := us) (T := ts ++ T) hh2 h2 hdb
    exact ho Hk2 H2 v u da db P _ hh2.ex av bv q2 fun ret hr => ret_post hh2.drop.drop (p.step (e1.trans e2) (k1.trans k2)) hr⟩
/-- one operand -/
def vUn (op : Prim) (ta : VO) : VE := fun ρ Q => ta ρ fun a ρ1 => ∃ da, argD ρ1 a = some da ∧ op [da] fun ret => Q ret.slot ρ1
def PrimOk1 (X : Cx) (r : V → Hp → VK → Prop) (op : Prim) : Prop := ∀ Hk H x dx P R, Same Hk H → View X.K Hk H x dx → op [dx] R → (∀ ret, R ret → RetK X.K Hk H P ret) → r x H P
theorem run_un {r : V → Hp → VK → Prop} {op : Prim} (ho : PrimOk1 X r op) (ha : PWO X Φ a to) : RunE X.K Φ (tUn r (tSem X a)) (vUn op to) := ⟨fun ρ Q Hk T σ H P q hh p =>
  ha.run ρ _ Hk T σ H _ q hh fun v H1 Hk1 ρ1 a ts e1 h1 hh1 k1 ⟨da, hda, q1⟩ => ho Hk1 H1 v da P _ hh1.ex (ArgAt.view hh1 h1 hda) q1 fun ret hr => ret_post hh1.drop (p.step e1 k1) hr⟩
/-- a slot handed on: what is owned moves -/
def vMv (i : Nat) : VE := fun ρ Q => (∃ d, ρ[i]? = some (.sh d) ∧ Q (.sh d) ρ) ∨ ∃ o, ρ[i]? = some (.ow false o) ∧ Q (.ow false o) (ρ.set i .un)
theorem pwe_mv (i : Nat) {x : Str} (hp : PE X (.Name x pos) (tVar i)) : PWE X Φ (.Name x pos) (vMv i) := ⟨fun ρ Q Hk T σ H P h hh p => tSem_of hp (by
  rcases h with ⟨d, e, q⟩ | ⟨o, e, q⟩
  · obtain ⟨v, ev, r⟩ := hh.get_sh e
    exact ⟨v, ev, p v H Hk ρ _ (.refl _) (hh.sh r) (.refl _ _) q⟩
  · obtain ⟨v', ev'⟩ := hh.some_at e (d := o.d) rfl
    obtain ⟨v, R, ev, h1, back⟩ := hh.atU e (fun _ z => by cases z)
    rw [ev] at ev'; cases ev'
    exact ⟨v', ev, p v' H Hk _ _ (.refl _) back (kp_set e fun _ z => by cases z) q⟩)⟩
/-- and, or, not of truths as values; a if t else b -/
def vAndV (ta tb : VE) : VE := fun ρ Q => ta ρ fun s ρ1 => ∃ k, s = .sh (.bl k) ∧ (k = true → tb ρ1 Q) ∧ (k = false → Q (.sh (.bl false)) ρ1)
def vOrV (ta tb : VE) : VE := fun ρ Q => ta ρ fun s ρ1 => ∃ k, s = .sh (.bl k) ∧ (k = true → Q (.sh (.bl true)) ρ1) ∧ (k = false → tb ρ1 Q)
def vNotV (ta : VE) : VE := fun ρ Q => ta ρ fun s ρ1 => ∃ k, s = .sh (.bl k) ∧ Q (.sh (.bl (!k))) ρ1
theorem top_bl {K : PySem.W.Frag} {Φ : Fr} {Hk H : Hp} {ρ : Rho} {T : List Cell} {σ : L2.St} {v : V} {k : Bool} (h : Holds K Φ Hk ρ ((some v, .sh (.bl k)) :: T) σ H) : v = .bl k := by
  obtain ⟨v', ev, rv⟩ := h.top
  cases ev; cases rv; rfl
theorem run_and {t : TE} (ha : PWE X Φ a ta) (hb : RunE X.K Φ t tb) : RunE X.K Φ (tAndV (tSem X a) t) (vAndV ta tb) := ⟨fun ρ Q Hk T σ H P q hh p =>
  ha.run ρ _ Hk T σ H _ q hh fun v H1 Hk1 ρ1 r e1 h1 k1 ⟨k, hr, q1, q2⟩ => by
    subst hr
    refine ⟨k, top_bl h1, ?_⟩
    cases k with
    | true => rw [if_pos rfl]; exact hb.run ρ1 _ Hk1 T σ H1 _ (q1 rfl) h1.pop (p.step e1 k1)
    | false => rw [if_neg Bool.false_ne_true]; exact p _ H1 Hk1 ρ1 _ e1 (h1.pop.sh .bl) k1 (q2 rfl)⟩
theorem run_or {t : TE} (ha : PWE X Φ a ta) (hb : RunE X.K Φ t tb) : RunE X.K Φ (tOrV (tSem X a) t) (vOrV ta tb) := ⟨fun ρ Q Hk T σ H P q hh p =>
  ha.run ρ _ Hk T σ H _ q hh fun v H1 Hk1 ρ1 r e1 h1 k1 ⟨k, hr, q1, q2⟩ => by
    subst hr
    refine ⟨k, top_bl h1, ?_⟩
    cases k with
    | true => rw [if_pos rfl]; exact p _ H1 Hk1 ρ1 _ e1 (h1.pop.sh .bl) k1 (q1 rfl)
    | false => rw [if_neg Bool.false_ne_true]; exact hb.run ρ1 _ Hk1 T σ H1 _ (q2 rfl) h1.pop (p.step e1 k1)⟩
theorem pwe_not (ha : PWE X Φ a ta) : PWE X Φ (.UnaryOp .Not a pos) (vNotV ta) := ⟨fun ρ Q Hk T σ H P q hh p => tSem_of (L2.pe_not pe_sem)
  (ha.run ρ _ Hk T σ H _ q hh fun v H1 Hk1 ρ1 r e1 h1 k1 ⟨k, hr, q1⟩ => by
    subst hr
    exact ⟨k, top_bl h1, p _ H1 Hk1 ρ1 _ e1 (h1.pop.sh .bl) k1 q1⟩)⟩
variable {rest : List Expr}
theorem pwe_and (ha : PWE X Φ a ta) (hb : PWE X Φ (.BoolOp .And (b :: rest) pos) tb) : PWE X Φ (.BoolOp .And (a :: b :: rest) pos) (vAndV ta tb) := pwe_of (pe_and pe_sem pe_sem) (run_and ha hb.sem)
theorem pwe_or (ha : PWE X Φ a ta) (hb : PWE X Φ (.BoolOp .Or (b :: rest) pos) tb) : PWE X Φ (.BoolOp .Or (a :: b :: rest) pos) (vOrV ta tb) := pwe_of (pe_or pe_sem pe_sem) (run_or ha hb.sem)
theorem pwe_one {op} (h : PWE X Φ a ta) : PWE X Φ (.BoolOp op [a] pos) ta := pwe_of (pe_one pe_sem) h.sem
def vIfE (t : VT) (ta tb : VE) : VE := fun ρ Q => t ρ fun k ρ1 => (k = true → ta ρ1 Q) ∧ (k = false → tb ρ1 Q)
theorem pwe_if {c : Expr} {t : VT} (hc : PWT X Φ c t) (ha : PWE X Φ a ta) (hb : PWE X Φ b tb) : PWE X Φ (.IfExp c a b pos) (vIfE t ta tb) := ⟨fun ρ Q Hk T σ H P q hh p => tSem_of (pe_ifExp pt_sem pe_sem pe_sem)
  (hc.run ρ _ Hk T σ H _ q hh fun k H1 Hk1 ρ1 e1 h1 k1 q1 => by
    cases k with
    | true => exact ha.run ρ1 _ Hk1 T σ H1 _ (q1.1 rfl) h1 (p.step e1 k1)
    | false => exact hb.run ρ1 _ Hk1 T σ H1 _ (q1.2 rfl) h1 (p.step e1 k1))⟩
/-- tests -/
def vAnd (t u : VT) : VT := fun ρ Q => t ρ fun k ρ1 => (k = true → u ρ1 Q) ∧ (k = false → Q false ρ1)
def vOr (t u : VT) : VT := fun ρ Q => t ρ fun k ρ1 => (k = true → Q true ρ1) ∧ (k = false → u ρ1 Q)
def vNot (t : VT) : VT := fun ρ Q => t ρ fun k ρ1 => Q (!k) ρ1
variable {t u : VT}
theorem PWW.pt (h : PWW X Φ e t) : PWT X Φ e t := ⟨fun ρ Q Hk T σ H P q hh p pins s I => h.run ρ Q Hk T σ H P q hh p _ pins s I⟩
theorem pww_and1 (h : PWT X Φ a t) : PWW X Φ (.BoolOp .And [a] pos) t := ⟨fun ρ Q Hk T σ H P q hh p => tSemW_of (pw_and1 pt_sem) (h.run ρ Q Hk T σ H P q hh p)⟩
theorem pww_or1 (h : PWT X Φ a t) : PWW X Φ (.BoolOp .Or [a] pos) t := ⟨fun ρ Q Hk T σ H P q hh p => tSemW_of (pw_or1 pt_sem) (h.run ρ Q Hk T σ H P q hh p)⟩
theorem pww_and (ha : PWT X Φ a t) (hb : PWW X Φ (.BoolOp .And (b :: rest) pos) u) : PWW X Φ (.BoolOp .And (a :: b :: rest) pos) (vAnd t u) := ⟨fun ρ Q Hk T σ H P q hh p => tSemW_of (pw_and pt_sem pw_sem)
  (ha.run ρ _ Hk T σ H _ q hh fun k H1 Hk1 ρ1 e1 h1 k1 q1 => by
    cases k with
    | true => rw [if_pos rfl]; exact hb.run ρ1 _ Hk1 T σ H1 _ (q1.1 rfl) h1 (p.step e1 k1)
    | false => rw [if_neg Bool.false_ne_true]; exact p _ H1 Hk1 ρ1 e1 h1 k1 (q1.2 rfl))⟩
theorem pww_or (ha : PWT X Φ a t) (hb : PWW X Φ (.BoolOp .Or (b :: rest) pos) u) : PWW X Φ (.BoolOp .Or (a :: b :: rest) pos) (vOr t u) := ⟨fun ρ Q Hk T σ H P q hh p => tSemW_of (pw_or pt_sem pw_sem)
  (ha.run ρ _ Hk T σ H _ q hh fun k H1 Hk1 ρ1 e1 h1 k1 q1 => by
    cases k with
    | true => rw [if_pos rfl]; exact p _ H1 Hk1 ρ1 e1 h1 k1 (q1.1 rfl)
    | false => rw [if_neg Bool.false_ne_true]; exact hb.run ρ1 _ Hk1 T σ H1 _ (q1.2 rfl) h1 (p.step e1 k1))⟩
theorem pwt_not (ha : PWT X Φ a t) : PWT X Φ (.UnaryOp .Not a pos) (vNot t) := ⟨fun ρ Q Hk T σ H P q hh p => tSemT_of (pt_not pt_sem)
  (ha.run ρ _ Hk T σ H _ q hh fun k H1 Hk1 ρ1 e1 h1 k1 q1 => p _ H1 Hk1 ρ1 e1 h1 k1 q1)⟩
end
end WL

set_option Elab.async false
set_option linter.all false
set_option maxRecDepth 100000
set_option maxHeartbeats 4000000
/-! W2: statements, targets, loops, comprehensions, calls, a def's promise. -/
namespace WL
open PySem PySem.Spec PyProof.Rows L2

def Slot.free : Slot → Bool
  | .ow true _ => false
  | _ => true
section
variable {K : PySem.W.Frag} {Φ : Fr} {Hk Hk' H H' : Hp} {ρ ρ' : Rho} {T : List Cell} {σ : L2.St} {i : Nat} {s s0 : Slot} {v : V}
theorem kp_store (e : ρ[i]? = some s0) (hf : s0.free = true) {x : Option V} : Kp σ ρ (σ.set i x) (ρ.set i s) := fun j o v ho ev => by
  by_cases hj : j = i
  · subst hj; rw [e] at ho; cases ho; cases hf
  · exact ⟨by rw [List.getElem?_set_ne (Ne.symm hj)]; exact ev, o, by rw [List.getElem?_set_ne (Ne.symm hj)]; exact ho⟩
theorem Holds.store (h : Holds K Φ Hk ρ ((some v, s) :: T) σ H) (e : ρ[i]? = some s0) (hf : s0.free = true) : Holds K Φ Hk (ρ.set i s) T (σ.set i (some v)) H := by
  have hi : i < σ.length := by rw [← h.len]; exact (List.getElem?_eq_some_iff.mp e).1
  obtain ⟨R, h1, h2⟩ := zip_at (List.getElem?_eq_getElem hi) e
  refine ⟨by simp [h.len], ?_, h.ex0, h.kp0.trans (kp_store e hf)⟩
  have h3 := (h.hl.perm (h1.append_right _)).tail
  refine h3.perm (.trans List.perm_middle ?_)
  exact ((h2 (some v) s).append_right (T ++ Φ.T0)).symm
theorem Holds.dropMid {c : Cell} : ∀ {T' : List Cell}, Holds K Φ Hk ρ (c :: (T' ++ T)) σ H → Holds K Φ Hk ρ (c :: T) σ H
  | [], h => h
  | _ :: T', h => Holds.dropMid (T' := T') (h.perm (.swap _ _ _)).pop
theorem Holds.un (h : Holds K Φ Hk ρ T σ H) (e : ρ[i]? = some s) (hs : ∀ o, s ≠ .ow true o) : Holds K Φ Hk (ρ.set i .un) T σ H := by
  obtain ⟨v, R, ev, _, h2⟩ := h.atU e hs
  exact h2.pop
end

/-! ### statements -/
section
variable {X : Cx} {Φ : Fr} {st : Stmt} {rest sts : List Stmt} {t u : VS} {e : Expr} {te : VE} {pos : Pos}
def vNext : VS := fun R ρ => R.nx ρ
def vSeq (t u : VS) : VS := fun R ρ => t { R with nx := fun ρ' => u R ρ' } ρ
theorem pwss_nil : PWSs X Φ [] vNext := ⟨fun ρ R Hk T σ H D q hh o => tSemSs_of pss_nil (o.nx σ H Hk ρ (.refl _) hh (.refl _ _) q)⟩
theorem pwss_cons (h1 : PWS X Φ st t) (h2 : PWSs X Φ rest u) : PWSs X Φ (st :: rest) (vSeq t u) := ⟨fun ρ R Hk T σ H D q hh o => tSemSs_of (pss_cons ps_sem pss_sem)
  (h1.run ρ _ Hk T σ H { D with nx := tSemSs X rest D } q hh
    ⟨fun σ' H' Hk' ρ' e h k q' => h2.run ρ' R Hk' T σ' H' D q' h (o.step e k), o.rt, o.bk, o.ct⟩)⟩
theorem pwss_one (h1 : PWS X Φ st t) : PWSs X Φ [st] t := ⟨fun ρ R Hk T σ H D q hh o => tSemSs_of (pss_one ps_sem) (h1.run ρ R Hk T σ H D q hh o)⟩
def vBreak : VS := fun R ρ => R.bk ρ
def vCont : VS := fun R ρ => R.ct ρ
theorem pws_pass : PWS X Φ (.Pass pos) vNext := ⟨fun ρ R Hk T σ H D q hh o => tSemS_of ps_pass (o.nx σ H Hk ρ (.refl _) hh (.refl _ _) q)⟩
theorem pws_break : PWS X Φ (.Break pos) vBreak := ⟨fun ρ R Hk T σ H D q hh o => tSemS_of ps_break (o.bk σ H Hk ρ (.refl _) hh (.refl _ _) q)⟩
theorem pws_cont : PWS X Φ (.Continue pos) vCont := ⟨fun ρ R Hk T σ H D q hh o => tSemS_of ps_continue (o.ct σ H Hk ρ (.refl _) hh (.refl _ _) q)⟩
def vExpr (te : VE) : VS := fun R ρ => te ρ fun _ ρ1 => R.nx ρ1
theorem pws_expr {tt : TE} (hp : PS X st (tDrop tt)) (h : RunE X.K Φ tt te) : PWS X Φ st (vExpr te) := ⟨fun ρ R Hk T σ H D q hh o => tSemS_of hp
  (h.run ρ _ Hk T σ H _ q hh fun v H' Hk' ρ' r e h' k' q' => o.nx σ H' Hk' ρ' e h'.pop k' q')⟩
def vRet (te : VE) : VS := fun R ρ => te ρ fun r ρ1 => R.rt r ρ1
theorem pws_ret (h : PWE X Φ e te) : PWS X Φ (.Return (some e) pos) (vRet te) := ⟨fun ρ R Hk T σ H D q hh o => tSemS_of (ps_ret pe_sem)
  (h.run ρ _ Hk T σ H _ q hh fun v H' Hk' ρ' r e h' k' q' => o.rt v σ H' Hk' ρ' r e h' k' q')⟩
def vRetN : VS := fun R ρ => R.rt (.sh .non) ρ
theorem pws_retN : PWS X Φ (.Return none pos) vRetN := ⟨fun ρ R Hk T σ H D q hh o => tSemS_of ps_retN (o.rt _ σ H Hk ρ _ (.refl _) (hh.sh .non) (.refl _ _) q)⟩
def vIf (c : VT) (t u : VS) : VS := fun R ρ => c ρ fun k ρ1 => (k = true → t R ρ1) ∧ (k = false → u R ρ1)
theorem pws_if {c : Expr} {a b : List Stmt} {tc : VT} (hc : PWT X Φ c tc) (ha : PWSs X Φ a t) (hb : PWSs X Φ b u) : PWS X Φ (.If c a b pos) (vIf tc t u) := ⟨fun ρ R Hk T σ H D q hh o => tSemS_of (ps_if pt_sem pss_sem pss_sem)
  (hc.run ρ _ Hk T σ H _ q hh fun k H1 Hk1 ρ1 e1 h1 k1 q1 => by
    cases k with
    | true => rw [if_pos rfl]; exact ha.run ρ1 R Hk1 T σ H1 D (q1.1 rfl) h1 (o.step e1 k1)
    | false => rw [if_neg Bool.false_ne_true]; exact hb.run ρ1 R Hk1 T σ H1 D (q1.2 rfl) h1 (o.step e1 k1))⟩
/-- x = e -/
def vSet (i : Nat) (te : VE) : VS := fun R ρ => te ρ fun s ρ1 => ∃ s0, ρ1[i]? = some s0 ∧ s0.free = true ∧ R.nx (ρ1.set i s)
theorem pws_set {tt : TE} {i : Nat} (hp : PS X st (tAsg tt (gName i))) (h : RunE X.K Φ tt te) : PWS X Φ st (vSet i te) := ⟨fun ρ R Hk T σ H D q hh o => tSemS_of hp
  (h.run ρ _ Hk T σ H _ q hh fun v H' Hk' ρ' r e h' k' ⟨s0, e0, hf, q'⟩ => o.nx _ H' Hk' _ e (h'.store e0 hf) (k'.trans (kp_store e0 hf)) q')⟩
/-- x op= e, by values -/
def vAug (i : Nat) (op : Prim) (te : VE) : VS := fun R ρ => ∃ d, ρ[i]? = some (.sh d) ∧ te ρ fun s ρ1 => ∃ dy, slotD s = some dy ∧ (∃ d1, ρ1[i]? = some (.sh d1)) ∧ op [d, dy] fun ret => R.nx (ρ1.set i ret.slot)
theorem pws_aug {ti : TIp} {i : Nat} {op : Prim} (hp : PS X st (tAug i (tSem X e) ti)) (ho : PrimOk2 X ti op) (h : PWE X Φ e te) : PWS X Φ st (vAug i op te) := ⟨fun ρ R Hk T σ H D ⟨d, e0, q⟩ hh o => tSemS_of hp (by
  obtain ⟨x, ex, rx⟩ := hh.get_sh e0
  refine ⟨x, ex, h.run ρ _ Hk T σ H _ q hh fun v H1 Hk1 ρ1 s e1 h1 k1 ⟨dy, hy, ⟨d1, e2⟩, q1⟩ => ?_⟩
  have bv : View X.K Hk1 H1 v dy := HL.view h1.front hy
  refine ho Hk1 H1 x v d dy _ _ h1.ex (.known (rx.mono e1)) bv q1 fun ret hr => ?_
  refine ret_post (Q := fun r ρ' => ∃ s0, ρ'[i]? = some s0 ∧ s0.free = true ∧ R.nx (ρ'.set i r)) (P := fun z H2 => D.nx (σ.set i (some z)) H2) h1.pop (fun z H2 Hk2 ρ2 r e3 h3 k3 ⟨s0, e4, hf, q4⟩ => ?_) ⟨_, e2, rfl, hr⟩
  exact o.nx _ H2 Hk2 _ (e1.trans e3) (h3.store e4 hf) ((k1.trans k3).trans (kp_store e4 hf)) q4)⟩
end

/-! ### targets -/
abbrev VG := D → Rho → (Rho → Prop) → Prop
def tSemG (X : Cx) (tg : Expr) : TG := fun v σ H P => ∀ pins s u, Inv X pins σ H s → RelV v u → wpAny (model X.prog X.w) X.A (assign tg X.env u) (fun _ s' => ∃ σ' H', Inv X pins σ' H' s' ∧ P σ' H') X.xe s
theorem pg_sem {X : Cx} {tg : Expr} : PG X tg (tSemG X tg) := ⟨fun pins s _ _ _ u _ I r h => h pins s u I r⟩
def PostG (K : PySem.W.Frag) (Φ : Fr) (Hk : Hp) (T : List Cell) (σ : L2.St) (ρ : Rho) (is : List Nat) (Q : Rho → Prop) (P : L2.St → Hp → Prop) : Prop :=
  ∀ σ' H' Hk' ρ', Same Hk Hk' → Holds K Φ Hk' ρ' T σ' H' → Kp σ ρ σ' ρ' → (∀ j, j ∉ is → σ'[j]? = σ[j]?) ∧ σ'.length = σ.length → Q ρ' → P σ' H'
structure RunG (K : PySem.W.Frag) (Φ : Fr) (t : TG) (is : List Nat) (g : VG) : Prop where
  run : ∀ d ρ Q Hk T σ H v P, g d ρ Q → Rep K Hk v d → Holds K Φ Hk ρ T σ H → PostG K Φ Hk T σ ρ is Q P → t v σ H P
structure PWG (X : Cx) (Φ : Fr) (tg : Expr) (is : List Nat) (g : VG) : Prop where
  run : RunG X.K Φ (tSemG X tg) is g
theorem tSemG_of {X : Cx} {tg : Expr} {t : TG} {v : V} {σ : L2.St} {H : Hp} {P : L2.St → Hp → Prop} (h : PG X tg t) (q : t v σ H P) : tSemG X tg v σ H P := fun pins s u I r => h.run pins s σ H v u P I r q
def gN (i : Nat) : VG := fun d ρ Q => ∃ s, ρ[i]? = some s ∧ s.free = true ∧ Q (ρ.set i (.sh d))
theorem rung_name {K : PySem.W.Frag} {Φ : Fr} (i : Nat) : RunG K Φ (gName i) [i] (gN i) := ⟨fun d ρ Q Hk T σ H v P ⟨s, e, hf, q⟩ r hh p =>
  p _ H Hk _ (.refl _) ((hh.sh r).store e hf) (kp_store e hf) ⟨fun j hj => List.getElem?_set_ne (fun z => hj (by simp [z])), by simp⟩ q⟩
def gNames : List Nat → TGs
  | [] => gNil
  | i :: is => gCons (gName i) (gNames is)
def gTs : List Nat → List D → Rho → (Rho → Prop) → Prop
  | [], [], ρ, Q => Q ρ
  | i :: is, d :: ds, ρ, Q => gN i d ρ fun ρ' => gTs is ds ρ' Q
  | _, _, _, _ => False
theorem gnames_run {K : PySem.W.Frag} {Φ : Fr} : ∀ {is : List Nat} {ds : List D} {vs : List V} {ρ : Rho} {Q : Rho → Prop} {Hk : Hp} {T : List Cell} {σ : L2.St} {H : Hp} {P : L2.St → Hp → Prop}, gTs is ds ρ Q → Reps K Hk vs ds → Holds K Φ Hk ρ T σ H → PostG K Φ Hk T σ ρ is Q P → gNames is vs σ H P
  | [], [], _, ρ, Q, Hk, T, σ, H, P, q, .nil, hh, p => ⟨rfl, p σ H Hk ρ (.refl _) hh (.refl _ _) ⟨fun _ _ => rfl, rfl⟩ q⟩
  | i :: is, d :: ds, _, ρ, Q, Hk, T, σ, H, P, q, .cons r rs, hh, p => ⟨_, _, rfl, (rung_name i).run d ρ _ Hk T σ H _ _ q r hh fun σ1 H1 Hk1 ρ1 e1 h1 k1 s1 q1 =>
      gnames_run q1 (rs.mono e1) h1 fun σ2 H2 Hk2 ρ2 e2 h2 k2 s2 q2 => p σ2 H2 Hk2 ρ2 (e1.trans e2) h2 (k1.trans k2) ⟨fun j hj => (s2.1 j fun z => hj (List.mem_cons_of_mem _ z)).trans (s1.1 j fun z => hj (by
        have : j = i := by simpa using z
        simp [this])), s2.2.trans s1.2⟩ q2⟩
/-- a, b = a tuple -/
def gT (is : List Nat) : VG := fun d ρ Q => ∃ ds, d = .tup ds ∧ ds.length = is.length ∧ gTs is ds ρ Q
theorem rung_tup {K : PySem.W.Frag} {Φ : Fr} (is : List Nat) : RunG K Φ (gTup K is.length (gNames is)) is (gT is) := ⟨fun d ρ Q Hk T σ H v P ⟨ds, ed, hl, q⟩ r hh p => by
  subst ed
  cases r with
  | tup h r => exact ⟨_, _, rfl, .of (hh.ex _ _ h), r.length.trans hl, gnames_run q r hh p⟩⟩
theorem pwg_of {X : Cx} {Φ : Fr} {tg : Expr} {t : TG} {is : List Nat} {g : VG} (hp : PG X tg t) (h : RunG X.K Φ t is g) : PWG X Φ tg is g := ⟨⟨fun d ρ Q Hk T σ H v P q r hh p => tSemG_of hp (h.run d ρ Q Hk T σ H v P q r hh p)⟩⟩

/-! ### what is walked -/
abbrev VI := Rho → (List D → Rho → Prop) → Prop
structure ItOk (K : PySem.W.Frag) (Hk0 : Hp) (T' : List Cell) (J : It) (ds : List D) : Prop where
  go : ∀ i Hk H L, Same Hk0 Hk → HL K Hk H (T' ++ L) → i < ds.length → J.go i H ∧ ∀ x H', J.yld i H x H' → ∃ Hk' d, ds[i]? = some d ∧ Same Hk Hk' ∧ Rep K Hk' x d ∧ ∀ M, HL K Hk H M → HL K Hk' H' M
  stop : ∀ i Hk H L, Same Hk0 Hk → HL K Hk H (T' ++ L) → ds.length ≤ i → J.stop i H
def tSemI (X : Cx) (tg iter : Expr) : TI := fun σ H R => ∀ pins s, Inv X pins σ H s → wpAny (model X.prog X.w) X.A (eval iter X.env) (fun v s1 => wpAny (model X.prog X.w) X.A (pyIter v) (PIE X pins σ tg R) X.xe s1) X.xe s
theorem pi_sem {X : Cx} {tg iter : Expr} : PI X tg iter (tSemI X tg iter) := ⟨fun pins s _ _ _ I h => h pins s I⟩
theorem tSemI_of {X : Cx} {tg iter : Expr} {t : TI} {σ : L2.St} {H : Hp} {R : It → Hp → Prop} (h : PI X tg iter t) (q : t σ H R) : tSemI X tg iter σ H R := fun pins s I => h.run pins s σ H R I q
def PostI (K : PySem.W.Frag) (Φ : Fr) (Hk : Hp) (T : List Cell) (σ : L2.St) (ρ : Rho) (Q : List D → Rho → Prop) (R : It → Hp → Prop) : Prop :=
  ∀ J H' Hk' ρ' ds T', Same Hk Hk' → Holds K Φ Hk' ρ' (T' ++ T) σ H' → Kp σ ρ σ ρ' → ItOk K Hk' T' J ds → Q ds ρ' → R J H'
structure PWI (X : Cx) (Φ : Fr) (tg iter : Expr) (it : VI) : Prop where
  run : ∀ ρ Q Hk T σ H R, it ρ Q → Holds X.K Φ Hk ρ T σ H → PostI X.K Φ Hk T σ ρ Q R → tSemI X tg iter σ H R
section
variable {X : Cx} {Φ : Fr} {tg iter : Expr} {te : VE} {tas : VA} {e : Expr} {es : List Expr} {pos p : Pos}
/-- data that is walked as a list, as a tuple -/
def seqLD : D → Option (List D)
  | .lst ds => some ds
  | .fls ds => some ds
  | _ => none
def seqTD : D → Option (List D)
  | .tup ds => some ds
  | .ftp ds => some ds
  | _ => none
theorem seqLD_eq {d : D} {ds : List D} (h : seqLD d = some ds) : d = .lst ds ∨ d = .fls ds := by
  cases d <;> simp [seqLD] at h <;> simp [h]
theorem seqTD_eq {d : D} {ds : List D} (h : seqTD d = some ds) : d = .tup ds ∨ d = .ftp ds := by
  cases d <;> simp [seqTD] at h <;> simp [h]
def vItL (te : VE) : VI := fun ρ Q => te ρ fun s ρ1 => ∃ d ds, slotD s = some d ∧ seqLD d = some ds ∧ Q ds ρ1
def vItT (te : VE) : VI := fun ρ Q => te ρ fun s ρ1 => ∃ d ds, slotD s = some d ∧ seqTD d = some ds ∧ Q ds ρ1
theorem itok_list {K : PySem.W.Frag} {Hk : Hp} {a : Addr} {s : Slot} {d : D} {ds : List D} (hs : slotD s = some d) (hq : seqLD d = some ds) : ItOk K Hk [(some (.ref a), s)] (Itl K a) ds where
  go := fun i Hk H L e h hi => by
    have vw : View K Hk H (.ref a) d := HL.view h hs
    obtain ⟨a', vs, ea, sq, r⟩ := vw.seqL h.ex (seqLD_eq hq)
    cases ea
    have hl : i < vs.length := by rw [r.length]; exact hi
    refine ⟨⟨vs, vs[i], sq, List.getElem?_eq_getElem hl⟩, fun x H' ⟨eH, y⟩ => ?_⟩
    subst eH
    obtain ⟨d, hd, rd⟩ := r.get (y vs sq)
    exact ⟨Hk, d, hd, .refl _, rd, fun _ m => m⟩
  stop := fun i Hk H L e h hi => by
    have vw : View K Hk H (.ref a) d := HL.view h hs
    obtain ⟨a', vs, ea, sq, r⟩ := vw.seqL h.ex (seqLD_eq hq)
    cases ea
    exact ⟨vs, sq, by rw [r.length]; exact hi⟩
theorem itok_tup {K : PySem.W.Frag} {Hk : Hp} {a : Addr} {s : Slot} {d : D} {ds : List D} (hs : slotD s = some d) (hq : seqTD d = some ds) : ItOk K Hk [(some (.ref a), s)] (Itt K a) ds where
  go := fun i Hk H L e h hi => by
    have vw : View K Hk H (.ref a) d := HL.view h hs
    obtain ⟨a', vs, ea, sq, r⟩ := vw.seqT h.ex (seqTD_eq hq)
    cases ea
    have hl : i < vs.length := by rw [r.length]; exact hi
    refine ⟨⟨vs, vs[i], sq, List.getElem?_eq_getElem hl⟩, fun x H' ⟨eH, y⟩ => ?_⟩
    subst eH
    obtain ⟨d, hd, rd⟩ := r.get (y vs sq)
    exact ⟨Hk, d, hd, .refl _, rd, fun _ m => m⟩
  stop := fun i Hk H L e h hi => by
    have vw : View K Hk H (.ref a) d := HL.view h hs
    obtain ⟨a', vs, ea, sq, r⟩ := vw.seqT h.ex (seqTD_eq hq)
    cases ea
    exact ⟨vs, sq, by rw [r.length]; exact hi⟩
theorem pwi_list (h : PWE X Φ iter te) : PWI X Φ tg iter (vItL te) := ⟨fun ρ Q Hk T σ H R q hh p => tSemI_of (pi_list pe_sem)
  (h.run ρ _ Hk T σ H _ q hh fun v H1 Hk1 ρ1 s e1 h1 k1 ⟨d, ds, hs, hq, q1⟩ => by
    have vw : View X.K Hk1 H1 v d := HL.view h1.front hs
    obtain ⟨a, vs, ea, sq, r⟩ := vw.seqL h1.ex (seqLD_eq hq)
    subst ea
    exact ⟨a, rfl, ⟨vs, sq⟩, p _ H1 Hk1 ρ1 ds [(some (.ref a), s)] e1 h1 k1 (itok_list hs hq) q1⟩)⟩
theorem pwi_tup (h : PWE X Φ iter te) : PWI X Φ tg iter (vItT te) := ⟨fun ρ Q Hk T σ H R q hh p => tSemI_of (pi_tup pe_sem)
  (h.run ρ _ Hk T σ H _ q hh fun v H1 Hk1 ρ1 s e1 h1 k1 ⟨d, ds, hs, hq, q1⟩ => by
    have vw : View X.K Hk1 H1 v d := HL.view h1.front hs
    obtain ⟨a, vs, ea, sq, r⟩ := vw.seqT h1.ex (seqTD_eq hq)
    subst ea
    exact ⟨a, rfl, ⟨vs, sq⟩, p _ H1 Hk1 ρ1 ds [(some (.ref a), s)] e1 h1 k1 (itok_tup hs hq) q1⟩)⟩
def rangeD (lo : Int) (n : Nat) : List D := (List.range n).map fun (i : Nat) => D.int (lo + (i : Int))
theorem rangeD_get {lo : Int} {n i : Nat} (h : i < n) : (rangeD lo n)[i]? = some (.int (lo + (i : Int))) := by
  unfold rangeD
  rw [List.getElem?_map, List.getElem?_range h]; rfl
theorem rangeD_len {lo : Int} {n : Nat} : (rangeD lo n).length = n := by unfold rangeD; simp
theorem itok_rng {K : PySem.W.Frag} {Hk : Hp} {lo : Int} {n : Nat} : ItOk K Hk [] (Itr lo n) (rangeD lo n) where
  go := fun i Hk H L e h hi => by
    rw [rangeD_len] at hi
    refine ⟨hi, fun x H' ⟨eH, ex⟩ => ?_⟩
    subst eH; subst ex
    exact ⟨Hk, _, rangeD_get hi, .refl _, .int, fun _ m => m⟩
  stop := fun i Hk H L e h hi => by rw [rangeD_len] at hi; exact hi
def vItR1 (ta : VA) : VI := fun ρ Q => ta ρ fun as ρ1 => ∃ n, argDs ρ1 as = some [.int n] ∧ (-(2 ^ 62) ≤ n ∧ n < 2 ^ 62) ∧ Q (rangeD 0 n.toNat) ρ1
def vItR2 (ta : VA) : VI := fun ρ Q => ta ρ fun as ρ1 => ∃ m n, argDs ρ1 as = some [.int m, .int n] ∧ (-(2 ^ 62) ≤ m ∧ m < 2 ^ 62 ∧ -(2 ^ 62) ≤ n ∧ n < 2 ^ 62) ∧ Q (rangeD m (n - m).toNat) ρ1
theorem pwi_range1 (hp : PI X tg iter (iRng1 (tSemA X es))) (h : PWA X Φ es tas) : PWI X Φ tg iter (vItR1 tas) := ⟨fun ρ Q Hk T σ H R q hh p => tSemI_of hp
  (h.run ρ _ Hk T σ H _ q hh fun vs H1 Hk1 ρ1 as ts e1 has h1 k1 ⟨n, hd, b, q1⟩ => by
    have vw := has.views h1 hd
    cases vw with
    | cons v r =>
      cases r
      have := v.int
      subst this
      exact ⟨n, rfl, b.1, b.2, p _ H1 Hk1 ρ1 _ [] e1 h1.drop k1 itok_rng q1⟩)⟩
theorem pwi_range2 (hp : PI X tg iter (iRng2 (tSemA X es))) (h : PWA X Φ es tas) : PWI X Φ tg iter (vItR2 tas) := ⟨fun ρ Q Hk T σ H R q hh p => tSemI_of hp
  (h.run ρ _ Hk T σ H _ q hh fun vs H1 Hk1 ρ1 as ts e1 has h1 k1 ⟨m, n, hd, b, q1⟩ => by
    have vw := has.views h1 hd
    cases vw with
    | cons v r =>
      cases r with
      | cons v' r =>
        cases r
        have := v.int
        subst this
        have := v'.int
        subst this
        exact ⟨m, n, rfl, b, p _ H1 Hk1 ρ1 _ [] e1 h1.drop k1 itok_rng q1⟩)⟩
end

/-! ### for, while -/
section
variable {X : Cx} {Φ : Fr} {st : Stmt} {tg iter c : Expr} {body : List Stmt} {it : VI} {is : List Nat} {g : VG} {tb : VS} {tc : VT}
def vFor (it : VI) (g : VG) (tb : VS) : VS := fun R ρ => it ρ fun ds ρ1 => ∃ I : Nat → Rho → Prop, I 0 ρ1 ∧
  (∀ j d ρ', ds[j]? = some d → I j ρ' → g d ρ' fun ρ2 => tb { R with nx := I (j + 1), ct := I (j + 1), bk := R.nx } ρ2) ∧ ∀ ρ', I ds.length ρ' → R.nx ρ'
/-- the loop, its iterator made -/
theorem for_core {J : It} {ds : List D} {T T' : List Cell} {Hk1 H1 : _} {σ : L2.St} {ρ1 : Rho} {R : Out} {D0 : Ends} (hg : PWG X Φ tg is g) (hb : PWSs X Φ body tb) (iok : ItOk X.K Hk1 T' J ds) (h1 : Holds X.K Φ Hk1 ρ1 (T' ++ T) σ H1) (o : OutOk X.K Φ Hk1 T σ ρ1 R D0)
    (I : Nat → Rho → Prop) (i0 : I 0 ρ1) (turn : ∀ j d ρ', ds[j]? = some d → I j ρ' → g d ρ' fun ρ2 => tb { R with nx := I (j + 1), ct := I (j + 1), bk := R.nx } ρ2) (fin : ∀ ρ', I ds.length ρ' → R.nx ρ') :
    ∃ W : Nat → Nat → L2.St → Hp → Prop, (∃ m, W 0 m σ H1) ∧ ∀ i m σ H, W i m σ H →
      (J.stop i H ∧ D0.nx σ H) ∨ (J.go i H ∧ ∃ N : L2.St → Hp → Prop, (∀ σ' H', N σ' H' → ∃ m', m' < m ∧ W (i + 1) m' σ' H') ∧ ∀ x H', J.yld i H x H' → tSemG X tg x σ H' fun σ2 H2 => tSemSs X body { D0 with nx := N, ct := N, bk := D0.nx } σ2 H2) := by
  refine ⟨fun i m σ' H' => m = ds.length - i ∧ i ≤ ds.length ∧ ∃ Hk' ρ', Same Hk1 Hk' ∧ Holds X.K Φ Hk' ρ' (T' ++ T) σ' H' ∧ Kp σ ρ1 σ' ρ' ∧ I i ρ', ⟨_, rfl, Nat.zero_le _, Hk1, ρ1, .refl _, h1, .refl _ _, i0⟩, ?_⟩
  rintro i m σ2 H2 ⟨rfl, hle, Hk2, ρ2, e2, h2, k2, i2⟩
  have hL : HL X.K Hk2 H2 (T' ++ (T ++ (Φ.T0 ++ σ2.zip ρ2))) := by rw [← List.append_assoc]; exact h2.front
  by_cases hlt : i < ds.length
  · obtain ⟨hgo, hy⟩ := iok.go i Hk2 H2 _ e2 hL hlt
    refine .inr ⟨hgo, fun σ' H' => ∃ Hk' ρ', Same Hk1 Hk' ∧ Holds X.K Φ Hk' ρ' (T' ++ T) σ' H' ∧ Kp σ ρ1 σ' ρ' ∧ I (i + 1) ρ', fun σ' H' hN => ⟨ds.length - (i + 1), by omega, rfl, hlt, hN⟩, fun x H3 hyl => ?_⟩
    obtain ⟨Hk3, d, hd, e3, r3, mv⟩ := hy x H3 hyl
    refine hg.run.run d ρ2 _ Hk3 (T' ++ T) σ2 H3 x _ (turn i d ρ2 hd i2) r3 ⟨h2.len, mv _ h2.hl, h2.ex0.trans e3, h2.kp0⟩ fun σ4 H4 Hk4 ρ4 e4 h4 k4 _ q4 => ?_
    refine hb.run ρ4 _ Hk4 (T' ++ T) σ4 H4 _ q4 h4 ⟨fun σ5 H5 Hk5 ρ5 e5 h5 k5 q5 => ?_, fun v σ5 H5 Hk5 ρ5 r e5 h5 k5 q5 => ?_, fun σ5 H5 Hk5 ρ5 e5 h5 k5 q5 => ?_, fun σ5 H5 Hk5 ρ5 e5 h5 k5 q5 => ?_⟩
    · exact ⟨Hk5, ρ5, e2.trans (e3.trans (e4.trans e5)), h5, k2.trans (k4.trans k5), q5⟩
    · exact o.rt v σ5 H5 Hk5 ρ5 r (e2.trans (e3.trans (e4.trans e5))) h5.dropMid (k2.trans (k4.trans k5)) q5
    · exact o.nx σ5 H5 Hk5 ρ5 (e2.trans (e3.trans (e4.trans e5))) h5.drop (k2.trans (k4.trans k5)) q5
    · exact ⟨Hk5, ρ5, e2.trans (e3.trans (e4.trans e5)), h5, k2.trans (k4.trans k5), q5⟩
  · have he : i = ds.length := by omega
    subst he
    exact .inl ⟨iok.stop _ Hk2 H2 _ e2 hL (Nat.le_refl _), o.nx σ2 H2 Hk2 ρ2 e2 h2.drop k2 (fin ρ2 i2)⟩
theorem pws_for (hp : PS X st (tFor (tSemI X tg iter) (tSemG X tg) (tSemSs X body))) (hi : PWI X Φ tg iter it) (hg : PWG X Φ tg is g) (hb : PWSs X Φ body tb) : PWS X Φ st (vFor it g tb) := ⟨fun ρ R Hk T σ H D q hh o => tSemS_of hp
  (hi.run ρ _ Hk T σ H _ q hh fun J H1 Hk1 ρ1 ds T' e1 h1 k1 iok ⟨I, i0, turn, fin⟩ => for_core hg hb iok h1 (o.step e1 k1) I i0 turn fin)⟩
def vWhile (t : VT) (tb : VS) : VS := fun R ρ => ∃ I : Nat → Rho → Prop, (∃ m, I m ρ) ∧ ∀ m ρ', I m ρ' → t ρ' fun k ρ1 =>
  (k = true → tb { R with nx := fun ρ2 => ∃ m', m' < m ∧ I m' ρ2, ct := fun ρ2 => ∃ m', m' < m ∧ I m' ρ2, bk := R.nx } ρ1) ∧ (k = false → R.nx ρ1)
theorem pws_while (hp : PS X st (tWhile (tSemT X c) (tSemSs X body))) (hc : PWT X Φ c tc) (hb : PWSs X Φ body tb) : PWS X Φ st (vWhile tc tb) := ⟨fun ρ R Hk T σ H D ⟨I, ⟨m0, i0⟩, turn⟩ hh o => tSemS_of hp (by
  refine ⟨fun m σ' H' => ∃ Hk' ρ', Same Hk Hk' ∧ Holds X.K Φ Hk' ρ' T σ' H' ∧ Kp σ ρ σ' ρ' ∧ I m ρ', ⟨m0, Hk, ρ, .refl _, hh, .refl _ _, i0⟩, ?_⟩
  rintro m σ2 H2 ⟨Hk2, ρ2, e2, h2, k2, i2⟩
  refine hc.run ρ2 _ Hk2 T σ2 H2 _ (turn m ρ2 i2) h2 fun k H3 Hk3 ρ3 e3 h3 k3 q3 => ?_
  cases k with
  | true =>
    rw [if_pos rfl]
    refine ⟨fun σ' H' => ∃ Hk' ρ', Same Hk Hk' ∧ Holds X.K Φ Hk' ρ' T σ' H' ∧ Kp σ ρ σ' ρ' ∧ ∃ m', m' < m ∧ I m' ρ', fun σ' H' ⟨Hk', ρ', e, h, k, m', l, i⟩ => ⟨m', l, Hk', ρ', e, h, k, i⟩, ?_⟩
    refine hb.run ρ3 _ Hk3 T σ2 H3 _ (q3.1 rfl) h3 ⟨fun σ5 H5 Hk5 ρ5 e5 h5 k5 q5 => ?_, fun v σ5 H5 Hk5 ρ5 r e5 h5 k5 q5 => ?_, fun σ5 H5 Hk5 ρ5 e5 h5 k5 q5 => ?_, fun σ5 H5 Hk5 ρ5 e5 h5 k5 q5 => ?_⟩
    · exact ⟨Hk5, ρ5, e2.trans (e3.trans e5), h5, k2.trans (k3.trans k5), q5⟩
    · exact o.rt v σ5 H5 Hk5 ρ5 r (e2.trans (e3.trans e5)) h5 (k2.trans (k3.trans k5)) q5
    · exact o.nx σ5 H5 Hk5 ρ5 (e2.trans (e3.trans e5)) h5 (k2.trans (k3.trans k5)) q5
    · exact ⟨Hk5, ρ5, e2.trans (e3.trans e5), h5, k2.trans (k3.trans k5), q5⟩
  | false => rw [if_neg Bool.false_ne_true]; exact o.nx σ2 H3 Hk3 ρ3 (e2.trans e3) h3 (k2.trans k3) (q3.2 rfl))⟩
end
end WL

set_option Elab.async false
set_option linter.all false
set_option maxRecDepth 100000
set_option maxHeartbeats 4000000
/-! W3: comprehensions, calls, a def's promise. -/
namespace WL
open PySem PySem.Spec PyProof.Rows L2

/-! ### comprehensions -/
def wipeR (ρ : Rho) : List Nat → Rho
  | [] => ρ
  | v :: vs => (wipeR ρ vs).set v .un
section
variable {K : PySem.W.Frag} {Φ : Fr} {Hk Hk' H H' : Hp} {ρ ρ' : Rho} {T : List Cell} {σ : L2.St} {i : Nat}
theorem set_ge {α : Type} {l : List α} {i : Nat} {x : α} (h : l.length ≤ i) : l.set i x = l := by
  apply List.ext_getElem?
  intro j
  rw [List.getElem?_set]
  split
  · rename_i e; subst e
    rw [if_neg (by omega), List.getElem?_eq_none h]
  · rfl
theorem kp_unset {x : Option V} : Kp (σ.set i x) (ρ.set i .un) σ (ρ.set i .un) := fun j o v ho ev => by
  have hj : j ≠ i := fun z => by
    subst z
    by_cases hl : j < ρ.length
    · rw [List.getElem?_set_self hl] at ho; cases ho
    · rw [List.getElem?_eq_none (by rw [List.length_set]; omega)] at ho; cases ho
  refine ⟨by rw [List.getElem?_set_ne (Ne.symm hj)] at ev; exact ev, o, ho⟩
theorem Holds.unset {x : Option V} (h : Holds K Φ Hk (ρ.set i .un) T (σ.set i x) H) : Holds K Φ Hk (ρ.set i .un) T σ H := by
  have hl : ρ.length = σ.length := by have := h.len; simpa using this
  by_cases hi : i < σ.length
  · obtain ⟨R, h1, h2⟩ := zip_at (List.getElem?_eq_getElem hi) (List.getElem?_eq_getElem (hl ▸ hi))
    refine ⟨by simp [hl], ?_, h.ex0, h.kp0.trans kp_unset⟩
    have e : σ.set i σ[i] = σ := set_self (List.getElem?_eq_getElem hi)
    have h3 := h2 σ[i] .un
    rw [e] at h3
    have h4 := (h.hl.perm ((h2 x .un).append_right (T ++ Φ.T0))).tail
    exact (h4.un (x := σ[i])).perm (h3.append_right (T ++ Φ.T0)).symm
  · rw [set_ge (l := σ) (by omega)] at h; exact h
/-- the slots of the start that are lent are not among these -/
def Off (Φ : Fr) (vs : List Nat) : Prop := ∀ (j : Nat) (o : Own) (v : Option V), Φ.ρ0[j]? = some (Slot.ow true o) → Φ.σ0[j]? = some v → j ∉ vs
theorem Off.of {vs : List Nat} (h : Holds K Φ Hk ρ T σ H) (hf : ∀ v ∈ vs, ∃ s, ρ[v]? = some s ∧ s.free = true) : Off Φ vs := fun j o v e1 e2 hj => by
  obtain ⟨_, o', e3⟩ := h.kp0 j o v e1 e2
  obtain ⟨s, e4, f4⟩ := hf j hj
  rw [e3] at e4; cases e4; cases f4
theorem Holds.set_un {x : Option V} (h : Holds K Φ Hk ρ T σ H) (hf : Off Φ [i]) : Holds K Φ Hk (ρ.set i .un) T (σ.set i x) H := by
  by_cases hi : i < ρ.length
  · obtain ⟨R, h1, h2⟩ := zip_at (List.getElem?_eq_getElem (h.len ▸ hi)) (List.getElem?_eq_getElem hi)
    refine ⟨by simp [h.len], ?_, h.ex0, fun j o v e1 e2 => ?_⟩
    · exact ((h.hl.perm (h1.append_right _)).tail.un (x := x)).perm ((h2 x .un).append_right _).symm
    · obtain ⟨a, o', b⟩ := h.kp0 j o v e1 e2
      have hj : i ≠ j := fun z => hf j o v e1 e2 (by simp [z])
      exact ⟨by rw [List.getElem?_set_ne hj]; exact a, o', by rw [List.getElem?_set_ne hj]; exact b⟩
  · rw [set_ge (l := ρ) (by omega), set_ge (l := σ) (by rw [← h.len]; omega)]; exact h
theorem wipeR_comm {v : Nat} : ∀ {vs : List Nat} {ρ : Rho}, (wipeR ρ vs).set v .un = wipeR (ρ.set v .un) vs
  | [], _ => rfl
  | w :: vs, ρ => by
    show ((wipeR ρ vs).set w .un).set v .un = (wipeR (ρ.set v .un) vs).set w .un
    rw [← wipeR_comm (vs := vs)]
    by_cases e : w = v
    · subst e; rfl
    · rw [List.set_comm _ _ e]
theorem Holds.wipe : ∀ {vs : List Nat}, Holds K Φ Hk ρ T σ H → Off Φ vs → Holds K Φ Hk (wipeR ρ vs) T (L2.wipe σ vs) H
  | [], h, _ => h
  | v :: vs, h, hf => (Holds.wipe (vs := vs) h fun j o x e1 e2 hj => hf j o x e1 e2 (List.mem_cons_of_mem _ hj)).set_un fun j o x e1 e2 hj => hf j o x e1 e2 (by rw [List.mem_singleton.mp hj]; exact List.mem_cons_self)
theorem Holds.unwipe : ∀ {vs : List Nat} {ρ : Rho}, Holds K Φ Hk (wipeR ρ vs) T (L2.wipe σ vs) H → Holds K Φ Hk (wipeR ρ vs) T σ H
  | [], _, h => h
  | v :: vs, ρ, h => by
    have h' : Holds K Φ Hk ((wipeR ρ vs).set v .un) T ((L2.wipe σ vs).set v none) H := h
    have h2 := h'.unset
    show Holds K Φ Hk ((wipeR ρ vs).set v .un) T σ H
    rw [wipeR_comm] at h2 ⊢
    exact Holds.unwipe h2
theorem wipeR_out {i : Nat} : ∀ {vs : List Nat}, i ∉ vs → (wipeR ρ vs)[i]? = ρ[i]?
  | [], _ => rfl
  | v :: vs, h => by
    show ((wipeR ρ vs).set v .un)[i]? = _
    rw [List.getElem?_set_ne (fun z => h (by simp [z]))]
    exact wipeR_out fun z => h (List.mem_cons_of_mem _ z)
theorem wipe_in {i : Nat} : ∀ {vs : List Nat}, i ∈ vs → i < σ.length → (L2.wipe σ vs)[i]? = some none
  | v :: vs, h, hl => by
    show ((L2.wipe σ vs).set v none)[i]? = _
    by_cases e : v = i
    · subst e; rw [List.getElem?_set_self (by rw [wipe_length]; exact hl)]
    · rw [List.getElem?_set_ne e]
      exact wipe_in (by rcases List.mem_cons.mp h with z | z; exact absurd z.symm e; exact z) hl
theorem wipe_eq {σ2 : L2.St} {vs : List Nat} (h : ∀ j, j ∉ vs → σ2[j]? = (L2.wipe σ vs)[j]?) (hl : σ2.length = σ.length) : L2.wipe σ2 vs = L2.wipe σ vs := by
  apply List.ext_getElem?
  intro j
  by_cases hj : j ∈ vs
  · by_cases hlt : j < σ.length
    · rw [wipe_in hj hlt, wipe_in hj (by omega)]
    · rw [List.getElem?_eq_none (by rw [wipe_length]; omega), List.getElem?_eq_none (by rw [wipe_length]; omega)]
  · rw [wipe_out hj]; exact h j hj
end
structure RunT (K : PySem.W.Frag) (Φ : Fr) (t : TT) (tt : VT) : Prop where
  run : ∀ ρ Q Hk T σ H P, tt ρ Q → Holds K Φ Hk ρ T σ H → PostT K Φ Hk T σ ρ Q P → t σ H P
def vYes : VT := fun ρ Q => Q true ρ
theorem runt_yes {K : PySem.W.Frag} {Φ : Fr} : RunT K Φ tYes vYes := ⟨fun ρ Q Hk T σ H P q hh p => p true H Hk ρ (.refl _) hh (.refl _ _) q⟩
def vLc (it : VI) (g : VG) (tt : VT) (te : VE) (vs : List Nat) : VE := fun ρ Q => it ρ fun ds ρ1 => (∀ v ∈ vs, ∃ s, ρ1[v]? = some s ∧ s.free = true) ∧ ∃ I : Nat → List D → Rho → Prop, I 0 [] (wipeR ρ1 vs) ∧
  (∀ j acc d ρ', ds[j]? = some d → I j acc ρ' → g d ρ' fun ρ2 => tt ρ2 fun b ρ3 =>
    (b = true → te ρ3 fun s ρ4 => ∃ dy, slotD s = some dy ∧ acc.length < sizeLine ∧ I (j + 1) (acc ++ [dy]) (wipeR ρ4 vs)) ∧ (b = false → I (j + 1) acc (wipeR ρ3 vs))) ∧
  ∀ acc ρ', I ds.length acc ρ' → Q (.ow false (.lst acc)) ρ'
/-- a temporary made known -/
theorem Holds.know_top {K : PySem.W.Frag} {Φ : Fr} {Hk H : Hp} {ρ : Rho} {T : List Cell} {σ : L2.St} {v : V} {s : Slot} {d : D} (h : Holds K Φ Hk ρ ((some v, s) :: T) σ H) (e : slotD s = some d) : ∃ Hk', Same Hk Hk' ∧ Rep K Hk' v d ∧ Holds K Φ Hk' ρ T σ H := by
  cases s with
  | un => cases e
  | rw kq rowsq => cases e
  | sh d' =>
    cases e
    obtain ⟨v', ev, r⟩ := h.top
    cases ev
    exact ⟨Hk, .refl _, r, h.pop⟩
  | ow b o =>
    cases e
    obtain ⟨Hk', v', ev, e1, r, h2⟩ := HL.share h.front
    cases ev
    exact ⟨Hk', e1, r, .back h.len h2.tail (h.ex0.trans e1) h.kp0⟩
theorem Holds.app {K : PySem.W.Frag} {Φ : Fr} {Hk H : Hp} {ρ : Rho} {T : List Cell} {σ : L2.St} {x : Option V} {b : Bool} {ds : List D} (h : Holds K Φ Hk ρ ((x, .ow b (.lst ds)) :: T) σ H) :
    ∃ p vs, x = some (.ref p) ∧ H p = some (.lst vs) ∧ Reps K Hk vs ds ∧ ∀ vs' ds', Reps K Hk vs' ds' → Holds K Φ Hk ρ ((x, .ow b (.lst ds')) :: T) σ (upd H p (.lst vs')) := by
  obtain ⟨p, vs, e, h1, r, k⟩ := HL.lst h.front
  exact ⟨p, vs, e, h1, r, fun vs' ds' r' => .back h.len (k vs' ds' r') h.ex0 h.kp0⟩
/-- the loop, its iterator made -/
theorem lc_core1 {X : Cx} {Φ : Fr} {J : It} {ds : List D} {T T' : List Cell} {Hk1 H1 : _} {σ : L2.St} {ρ1 : Rho} {Q : VK0} {P : VK} {g' : TG} {is : List Nat} {g : VG} {tt' : TT} {tt : VT} {te' : TE} {te : VE} {vs : List Nat} (hg : RunG X.K Φ g' is g) (ht : RunT X.K Φ tt' tt) (he : RunE X.K Φ te' te) (his : ∀ j ∈ is, j ∈ vs)
    (iok : ItOk X.K Hk1 T' J ds) (h1 : Holds X.K Φ Hk1 ρ1 (T' ++ T) σ H1) (p : Post X.K Φ Hk1 T σ ρ1 Q P) (fr : ∀ v ∈ vs, ∃ s, ρ1[v]? = some s ∧ s.free = true) (I : Nat → List D → Rho → Prop) (i0 : I 0 [] (wipeR ρ1 vs))
    (turn : ∀ j acc d ρ', ds[j]? = some d → I j acc ρ' → g d ρ' fun ρ2 => tt ρ2 fun b ρ3 =>
      (b = true → te ρ3 fun s ρ4 => ∃ dy, slotD s = some dy ∧ acc.length < sizeLine ∧ I (j + 1) (acc ++ [dy]) (wipeR ρ4 vs)) ∧ (b = false → I (j + 1) acc (wipeR ρ3 vs)))
    (fin : ∀ acc ρ', I ds.length acc ρ' → Q (.ow false (.lst acc)) ρ') :
    ∀ D, H1 D = none → ∃ W : Nat → Nat → Hp → Prop, (∃ m, W 0 m (upd H1 D (.lst []))) ∧ ∀ i m H, W i m H →
      (J.stop i H ∧ P (.ref D) H) ∨ (J.go i H ∧ ∃ Nx : Hp → Prop, (∀ H', Nx H' → ∃ m', m' < m ∧ W (i + 1) m' H') ∧ ∀ x H', J.yld i H x H' → g' x (L2.wipe σ vs) H' fun σ2 H2 => L2.wipe σ2 vs = L2.wipe σ vs ∧ tt' σ2 H2 fun b H3 =>
        if b = true then te' σ2 H3 fun y H4 => ∃ acc, H4 D = some (.lst acc) ∧ acc.length < sizeLine ∧ Nx (upd H4 D (.lst (acc ++ [y]))) else Nx H3) := by
    intro Dl hD
    have off : Off Φ vs := Off.of h1 fr
    have lent : ∀ i o, ρ1[i]? = some (Slot.ow true o) → i ∉ vs := fun i o e z => by
      obtain ⟨s, es, hf⟩ := fr i z
      rw [e] at es; cases es; cases hf
    refine ⟨fun i m H' => m = ds.length - i ∧ i ≤ ds.length ∧ ∃ Hk' ρ' acc, Same Hk1 Hk' ∧ Holds X.K Φ Hk' (wipeR ρ' vs) ((some (.ref Dl), Slot.ow false (Own.lst acc)) :: (T' ++ T)) (L2.wipe σ vs) H' ∧ (∀ j o, ρ1[j]? = some (Slot.ow true o) → ∃ o', (wipeR ρ' vs)[j]? = some (Slot.ow true o')) ∧ I i acc (wipeR ρ' vs),
      ⟨_, rfl, Nat.zero_le _, Hk1, ρ1, [], .refl _, ?_, fun j o e => ⟨o, by rw [wipeR_out (lent j o e)]; exact e⟩, i0⟩, ?_⟩
    · exact Holds.wipe (h1.own hD (.lst upd_same .nil)) off
    · rintro i m H2 ⟨rfl, hle, Hk2, ρ2, acc, e2, h2, k2, i2⟩
      have hL : HL X.K Hk2 H2 (T' ++ (T ++ (Φ.T0 ++ (L2.wipe σ vs).zip (wipeR ρ2 vs)))) := by rw [← List.append_assoc]; exact h2.pop.front
      by_cases hlt : i < ds.length
      · obtain ⟨hgo, hy⟩ := iok.go i Hk2 H2 _ e2 hL hlt
        refine .inr ⟨hgo, fun H' => ∃ Hk' ρ' acc, Same Hk1 Hk' ∧ Holds X.K Φ Hk' (wipeR ρ' vs) ((some (.ref Dl), Slot.ow false (Own.lst acc)) :: (T' ++ T)) (L2.wipe σ vs) H' ∧ (∀ j o, ρ1[j]? = some (Slot.ow true o) → ∃ o', (wipeR ρ' vs)[j]? = some (Slot.ow true o')) ∧ I (i + 1) acc (wipeR ρ' vs),
          fun H' hN => ⟨ds.length - (i + 1), by omega, rfl, hlt, hN⟩, fun x H3 hyl => ?_⟩
        obtain ⟨Hk3, d, hd, e3, r3, mv⟩ := hy x H3 hyl
        refine hg.run d _ _ Hk3 _ (L2.wipe σ vs) H3 x _ (turn i acc d _ hd i2) r3 ⟨h2.len, mv _ h2.hl, h2.ex0.trans e3, h2.kp0⟩ fun σ4 H4 Hk4 ρ4 e4 h4 k4 s4 q4 => ?_
        have ws : L2.wipe σ4 vs = L2.wipe σ vs := wipe_eq (fun j hj => s4.1 j fun z => hj (his j z)) (s4.2.trans (wipe_length σ vs))
        have hσ : ∀ j o, ρ1[j]? = some (Slot.ow true o) → ∃ v, (L2.wipe σ vs)[j]? = some v ∧ σ4[j]? = some v ∧ ∃ o', ρ4[j]? = some (Slot.ow true o') := fun j o e => by
          obtain ⟨o', eo⟩ := k2 j o e
          have hj : j < (L2.wipe σ vs).length := by rw [← h2.len]; exact (List.getElem?_eq_some_iff.mp eo).1
          obtain ⟨e5, o5, eo5⟩ := k4 j o' _ eo (List.getElem?_eq_getElem hj)
          exact ⟨_, List.getElem?_eq_getElem hj, e5, o5, eo5⟩
        refine ⟨ws, ht.run ρ4 _ Hk4 _ σ4 H4 _ q4 h4 fun b H5 Hk5 ρ5 e5 h5 k5 q5 => ?_⟩
        cases b with
        | false =>
          rw [if_neg Bool.false_ne_true]
          refine ⟨Hk5, ρ5, acc, e2.trans (e3.trans (e4.trans e5)), by have := Holds.wipe (vs := vs) h5 off; rw [ws] at this; exact this, fun j o e => ?_, q5.2 rfl⟩
          obtain ⟨v, _, e6, o6, eo6⟩ := hσ j o e
          obtain ⟨_, o7, eo7⟩ := k5 j o6 v eo6 e6
          exact ⟨o7, by rw [wipeR_out (lent j o e)]; exact eo7⟩
        | true =>
          rw [if_pos rfl]
          refine he.run ρ5 _ Hk5 _ σ4 H5 _ (q5.1 rfl) h5 fun y H6 Hk6 ρ6 s e6 h6 k6 ⟨dy, hs, hz, q6⟩ => ?_
          obtain ⟨Hk7, e7, r7, h7⟩ := h6.know_top hs
          obtain ⟨p', vs', ep, hp, rp, mu⟩ := h7.app
          cases ep
          refine ⟨vs', hp, by rw [rp.length]; exact hz, Hk7, ρ6, acc ++ [dy], e2.trans (e3.trans (e4.trans (e5.trans (e6.trans e7)))), ?_, fun j o e => ?_, q6⟩
          · have := Holds.wipe (vs := vs) (mu _ _ (rp.append (.one r7))) off; rw [ws] at this; exact this
          · obtain ⟨v, _, e6', o6, eo6⟩ := hσ j o e
            obtain ⟨_, o7, eo7⟩ := k5 j o6 v eo6 e6'
            obtain ⟨_, o8, eo8⟩ := k6 j o7 v eo7 e6'
            exact ⟨o8, by rw [wipeR_out (lent j o e)]; exact eo8⟩
      · have hie : i = ds.length := by omega
        subst hie
        refine .inl ⟨iok.stop _ Hk2 H2 _ e2 hL (Nat.le_refl _), ?_⟩
        refine p (.ref Dl) H2 Hk2 (wipeR ρ2 vs) (.ow false (.lst acc)) (e2) h2.dropMid.unwipe (fun j o v e ev => ⟨ev, k2 j o e⟩) (fin acc _ i2)
theorem run_lc {X : Cx} {Φ : Fr} {tg iter : Expr} {it : VI} {g' : TG} {is : List Nat} {g : VG} {tt' : TT} {tt : VT} {te' : TE} {te : VE} {vs : List Nat} (hi : PWI X Φ tg iter it) (hg : RunG X.K Φ g' is g) (ht : RunT X.K Φ tt' tt) (he : RunE X.K Φ te' te) (his : ∀ j ∈ is, j ∈ vs) :
    RunE X.K Φ (tLc (tSemI X tg iter) g' tt' te' vs) (vLc it g tt te vs) := ⟨fun ρ Q Hk T σ H P q hh p =>
  hi.run ρ _ Hk T σ H _ q hh fun J H1 Hk1 ρ1 ds T' e1 h1 k1 iok ⟨fr, I, i0, turn, fin⟩ => lc_core1 hg ht he his iok h1 (p.step e1 k1) fr I i0 turn fin⟩

/-! the blocks' readings, the same for every block -/
section
variable {X : Cx} {Φ : Fr} {scope : Scope} {elt tg iter c : Expr} {own : List (Str × Nat)} {pos : Pos}
def gU (X : Cx) (scope : Scope) (tg : Expr) : TG := fun v σ H P => ∀ s0 H0 C cl fp, tSemG (X.blk s0 H0 scope (compEnvC scope cl C X.env) fp) tg v σ H P
def eU (X : Cx) (scope : Scope) (e : Expr) : TE := fun σ H P => ∀ s0 H0 C cl fp, tSem (X.blk s0 H0 scope (compEnvC scope cl C X.env) fp) e σ H P
def cU (X : Cx) (scope : Scope) (e : Expr) : TT := fun σ H P => ∀ s0 H0 C cl fp, tSemT (X.blk s0 H0 scope (compEnvC scope cl C X.env) fp) e σ H P
theorem pg_U {s0 H0 C cl fp} : PG (X.blk s0 H0 scope (compEnvC scope cl C X.env) fp) tg (gU X scope tg) := ⟨fun pins s _ _ _ u _ I r h => h s0 H0 C cl fp pins s u I r⟩
theorem pe_U {s0 H0 C cl fp} : PE (X.blk s0 H0 scope (compEnvC scope cl C X.env) fp) elt (eU X scope elt) := ⟨fun pins s _ _ _ I h => h s0 H0 C cl fp pins s I⟩
theorem pt_U {s0 H0 C cl fp} : PT (X.blk s0 H0 scope (compEnvC scope cl C X.env) fp) c (cU X scope c) := ⟨fun pins s _ _ _ I h => h s0 H0 C cl fp pins s I⟩
theorem rung_U {is : List Nat} {g : VG} (h : ∀ s0 H0 C cl fp, PWG (X.blk s0 H0 scope (compEnvC scope cl C X.env) fp) Φ tg is g) : RunG X.K Φ (gU X scope tg) is g := ⟨fun d ρ Q Hk T σ H v P q r hh p s0 H0 C cl fp => (h s0 H0 C cl fp).run.run d ρ Q Hk T σ H v P q r hh p⟩
theorem rune_U {te : VE} (h : ∀ s0 H0 C cl fp, PWE (X.blk s0 H0 scope (compEnvC scope cl C X.env) fp) Φ elt te) : RunE X.K Φ (eU X scope elt) te := ⟨fun ρ Q Hk T σ H P q hh p s0 H0 C cl fp => (h s0 H0 C cl fp).run ρ Q Hk T σ H P q hh p⟩
theorem runt_U {tt : VT} (h : ∀ s0 H0 C cl fp, PWT (X.blk s0 H0 scope (compEnvC scope cl C X.env) fp) Φ c tt) : RunT X.K Φ (cU X scope c) tt := ⟨fun ρ Q Hk T σ H P q hh p s0 H0 C cl fp => (h s0 H0 C cl fp).run ρ Q Hk T σ H P q hh p⟩
variable {it : VI} {is : List Nat} {g : VG} {te : VE} {tt : VT}
theorem pe_lc0 (hc : X.calm = true) (hN : X.N.Nodup) (ok : BlkOk X.N X.env.scope scope own) (hs : ∀ x, foldedSetIterable iter X.env x = pure x := by intro _; rfl) :
    PE X (.ListComp elt [⟨tg, iter, [], 0⟩] scope pos) (tLc (tSemI X tg iter) (gU X scope tg) tYes (eU X scope elt) (own.map (·.2))) :=
  pe_lc hc hN pi_sem ok (fun _ _ _ _ _ => pg_U) (fun _ _ _ _ _ => pts_nil) (fun _ _ _ _ _ => pe_U) hs
theorem pe_lc1 (hc : X.calm = true) (hN : X.N.Nodup) (ok : BlkOk X.N X.env.scope scope own) (hs : ∀ x, foldedSetIterable iter X.env x = pure x := by intro _; rfl) :
    PE X (.ListComp elt [⟨tg, iter, [c], 0⟩] scope pos) (tLc (tSemI X tg iter) (gU X scope tg) (cU X scope c) (eU X scope elt) (own.map (·.2))) :=
  pe_lc hc hN pi_sem ok (fun _ _ _ _ _ => pg_U) (fun _ _ _ _ _ => pts_one pt_U) (fun _ _ _ _ _ => pe_U) hs
theorem run_lc0 (hi : PWI X Φ tg iter it) (hg : ∀ s0 H0 C cl fp, PWG (X.blk s0 H0 scope (compEnvC scope cl C X.env) fp) Φ tg is g) (he : ∀ s0 H0 C cl fp, PWE (X.blk s0 H0 scope (compEnvC scope cl C X.env) fp) Φ elt te) (his : ∀ j ∈ is, j ∈ own.map (·.2) := by decide) :
    RunE X.K Φ (tLc (tSemI X tg iter) (gU X scope tg) tYes (eU X scope elt) (own.map (·.2))) (vLc it g vYes te (own.map (·.2))) := run_lc hi (rung_U hg) runt_yes (rune_U he) his
theorem run_lc1 (hi : PWI X Φ tg iter it) (hg : ∀ s0 H0 C cl fp, PWG (X.blk s0 H0 scope (compEnvC scope cl C X.env) fp) Φ tg is g) (ht : ∀ s0 H0 C cl fp, PWT (X.blk s0 H0 scope (compEnvC scope cl C X.env) fp) Φ c tt) (he : ∀ s0 H0 C cl fp, PWE (X.blk s0 H0 scope (compEnvC scope cl C X.env) fp) Φ elt te) (his : ∀ j ∈ is, j ∈ own.map (·.2) := by decide) :
    RunE X.K Φ (tLc (tSemI X tg iter) (gU X scope tg) (cU X scope c) (eU X scope elt) (own.map (·.2))) (vLc it g tt te (own.map (·.2))) := run_lc hi (rung_U hg) (runt_U ht) (rune_U he) his
end
end WL

set_option Elab.async false
set_option linter.all false
set_option maxRecDepth 100000
set_option maxHeartbeats 4000000
/-! W4: calls, a def's promise. -/
namespace WL
open PySem PySem.Spec PyProof.Rows L2

/-- arguments behind a call: what was shared is as it was, what was lent may have changed -/
inductive KpA : List Slot → List Slot → Prop
  | nil : KpA [] []
  | sh {d as bs} (t : KpA as bs) : KpA (.sh d :: as) (.sh d :: bs)
  | ow {o o' as bs} (t : KpA as bs) : KpA (.ow true o :: as) (.ow true o' :: bs)
/-- a def's promise over values: its arguments, what is wanted of the result and the arguments behind, what of an exception -/
abbrev VSp := List Slot → (Slot → List Slot → Prop) → (Value → List (Str × D) → List Slot → Prop) → Prop
inductive RepX (K : PySem.W.Frag) (H : Hp) : List (Str × V) → List (Str × D) → Prop
  | nil : RepX K H [] []
  | cons {k v d vs ds} (h : Rep K H v d) (t : RepX K H vs ds) : RepX K H ((k, v) :: vs) ((k, d) :: ds)
theorem RepX.mono {K : PySem.W.Frag} {H H' : Hp} (e : Same H H') : ∀ {vs : List (Str × V)} {ds : List (Str × D)}, RepX K H vs ds → RepX K H' vs ds
  | _, _, .nil => .nil
  | _, _, .cons h t => .cons (h.mono e) (RepX.mono e t)
/-- an exception's own fields -/
def ExAt (K : PySem.W.Frag) (Hk : Hp) (d : Option Addr) (fs : List (Str × D)) : Prop := fs = [] ∨ ∃ a vs, d = some a ∧ Hk a = some (.xd vs) ∧ RepX K Hk vs fs
theorem ExAt.mono {K : PySem.W.Frag} {Hk Hk' : Hp} {d : Option Addr} {fs : List (Str × D)} (h : ExAt K Hk d fs) (e : Same Hk Hk') : ExAt K Hk' d fs := by
  rcases h with h | ⟨a, vs, h1, h2, h3⟩
  · exact .inl h
  · exact .inr ⟨a, vs, h1, e _ _ h2, h3.mono e⟩
def spV (K : PySem.W.Frag) (SS : VSp) : Sp := fun vs H Q E => ∃ Hk ρs T R RX, ρs.length = vs.length ∧ KpA ρs ρs ∧ HL K Hk H ((vs.map some).zip ρs ++ T) ∧ SS ρs R RX ∧
  (∀ v H' Hk' ρs' r, Same Hk Hk' → KpA ρs ρs' → HL K Hk' H' ((some v, r) :: ((vs.map some).zip ρs' ++ T)) → R r ρs' → Q v H') ∧
  ∀ cls d fs H' Hk' ρs', Same Hk Hk' → KpA ρs ρs' → HL K Hk' H' ((vs.map some).zip ρs' ++ T) → ExAt K Hk' d fs → RX cls fs ρs' → E cls d H'
/-- what may be let out here -/
def WΦ (K : PySem.W.Frag) (Φ : Fr) : WX := fun cls d σ H => ∃ Hk ρ fs, Holds K Φ Hk ρ [] σ H ∧ ExAt K Hk d fs ∧ Φ.EX cls fs ρ
def Tk (X : Cx) (Φ : Fr) : Prop := Takes X (WΦ X.K Φ)

def lendS : Rho → List Arg → Option (List Slot)
  | _, [] => some []
  | ρ, .val (.sh d) :: as => (lendS ρ as).map (Slot.sh d :: ·)
  | ρ, .val (.ow _ o) :: as => (lendS ρ as).map (Slot.ow true o :: ·)
  | _, .val .un :: _ => none
  | _, .val (.rw _ _) :: _ => none
  | ρ, .pk i :: as => match ρ[i]? with
    | some (.sh d) => (lendS ρ as).map (Slot.sh d :: ·)
    | some (.ow _ o) => (lendS (ρ.set i .un) as).map (Slot.ow true o :: ·)
    | _ => none
def lendR : Rho → List Arg → Rho
  | ρ, [] => ρ
  | ρ, .val _ :: as => lendR ρ as
  | ρ, .pk i :: as => match ρ[i]? with
    | some (.ow _ _) => lendR (ρ.set i .un) as
    | _ => lendR ρ as
def backS (b : Bool) : Slot → Slot
  | .ow _ o => .ow b o
  | s => s
def takeBack : Rho → List Arg → List Slot → Rho
  | ρ, .val _ :: as, _ :: ss => takeBack ρ as ss
  | ρ, .pk i :: as, s' :: ss => match ρ[i]? with
    | some (.ow b _) => (takeBack (ρ.set i .un) as ss).set i (backS b s')
    | _ => takeBack ρ as ss
  | ρ, _, _ => ρ

section
variable {K : PySem.W.Frag} {Φ : Fr} {Hk Hk' H H' : Hp} {σ : L2.St}
theorem HL.relab {x : Option V} {b b' : Bool} {o : Own} {L : List Cell} (h : HL K Hk H ((x, .ow b o) :: L)) : HL K Hk H ((x, .ow b' o) :: L) := by
  obtain ⟨F, hc, hn, hk⟩ := h.cells
  cases hc with
  | cons h1 t =>
    cases h1 with
    | ow r => exact ⟨h.ex, _, .cons (.ow r) t, hn, hk⟩
theorem HL.drop {L : List Cell} : ∀ {C : List Cell}, HL K Hk H (C ++ L) → HL K Hk H L
  | [], h => h
  | _ :: C, h => HL.drop (C := C) h.tail
theorem HL.mid {c : Cell} {C L : List Cell} (h : HL K Hk H (C ++ c :: L)) : HL K Hk H (c :: (C ++ L)) := h.perm List.perm_middle
theorem HL.unmid {c : Cell} {C L : List Cell} (h : HL K Hk H (c :: (C ++ L))) : HL K Hk H (C ++ c :: L) := h.perm List.perm_middle.symm
theorem argsAt_ok {as : List Arg} {vs : List V} {ts : List Cell} (ha : ArgsAt σ as vs ts) : ∀ {ρ : Rho} {T C : List Cell} {ρs : List Slot}, ρ.length = σ.length → HL K Hk H (C ++ (σ.zip ρ ++ (ts ++ T))) → lendS ρ as = some ρs →
    HL K Hk H (C ++ ((vs.map some).zip ρs ++ (σ.zip (lendR ρ as) ++ T))) ∧ ρs.length = vs.length ∧ KpA ρs ρs := by
  induction ha with
  | nil =>
    intro ρ T C ρs hl h e
    cases e
    exact ⟨h, rfl, .nil⟩
  | cons hd t ih =>
    rename_i a v ta as vs us
    intro ρ T C ρs hl h e
    cases hd with
    | val =>
      rename_i s
      have h1 : HL K Hk H (((some v, s) :: C) ++ (σ.zip ρ ++ (us ++ T))) := by
        have h2 : HL K Hk H ((C ++ (σ.zip ρ ++ us)) ++ (some v, s) :: T) := by simpa [List.append_assoc] using h
        simpa [List.append_assoc] using h2.mid
      cases s with
      | un => cases e
      | rw kq rowsq => cases e
      | sh d =>
        have e' : (lendS ρ as).map (Slot.sh d :: ·) = some ρs := e
        obtain ⟨r, hr, er⟩ := Option.map_eq_some_iff.mp e'
        subst er
        obtain ⟨g1, g2, g3⟩ := ih hl h1 hr
        exact ⟨HL.unmid g1, by simp [g2], .sh g3⟩
      | ow b o =>
        have e' : (lendS ρ as).map (Slot.ow true o :: ·) = some ρs := e
        obtain ⟨r, hr, er⟩ := Option.map_eq_some_iff.mp e'
        subst er
        obtain ⟨g1, g2, g3⟩ := ih (C := (some v, .ow true o) :: C) hl (HL.relab h1) hr
        exact ⟨HL.unmid g1, by simp [g2], .ow g3⟩
    | pk hv =>
      rename_i i
      have h0 : HL K Hk H (C ++ (σ.zip ρ ++ (us ++ T))) := by simpa using h
      cases hs : ρ[i]? with
      | none =>
        have e' : (match ρ[i]? with | some (.sh d) => (lendS ρ as).map (Slot.sh d :: ·) | some (.ow _ o) => (lendS (ρ.set i .un) as).map (Slot.ow true o :: ·) | _ => none) = some ρs := e
        rw [hs] at e'; cases e'
      | some s =>
        have e' : (match ρ[i]? with | some (.sh d) => (lendS ρ as).map (Slot.sh d :: ·) | some (.ow _ o) => (lendS (ρ.set i .un) as).map (Slot.ow true o :: ·) | _ => none) = some ρs := e
        rw [hs] at e'
        obtain ⟨R, z1, z2⟩ := zip_at hv hs
        cases s with
        | un => cases e'
        | rw kq rowsq => cases e'
        | sh d =>
          obtain ⟨r, hr, er⟩ := Option.map_eq_some_iff.mp e'
          subst er
          have hR : lendR ρ (.pk i :: as) = lendR ρ as := by
            show (match ρ[i]? with | some (.ow _ _) => lendR (ρ.set i .un) as | _ => lendR ρ as) = _
            rw [hs]
          have rep : Rep K Hk v d := by
            have q := (h0.perm (((z1.append_right (us ++ T)).append_left C))).mid
            obtain ⟨v', ev, r⟩ := HL.get_sh q
            cases ev; exact r
          obtain ⟨g1, g2, g3⟩ := ih (C := (some v, .sh d) :: C) hl (h0.sh rep) hr
          rw [hR]
          exact ⟨HL.unmid g1, by simp [g2], .sh g3⟩
        | ow b o =>
          obtain ⟨r, hr, er⟩ := Option.map_eq_some_iff.mp e'
          subst er
          have hR : lendR ρ (.pk i :: as) = lendR (ρ.set i .un) as := by
            show (match ρ[i]? with | some (.ow _ _) => lendR (ρ.set i .un) as | _ => lendR ρ as) = _
            rw [hs]
          have z3 := z2 (some v) .un
          rw [set_self hv] at z3
          have q : HL K Hk H ((some v, .ow b o) :: (C ++ (R ++ (us ++ T)))) := (h0.perm ((z1.append_right (us ++ T)).append_left C)).mid
          have q2 : HL K Hk H (((some v, .ow true o) :: C) ++ (σ.zip (ρ.set i .un) ++ (us ++ T))) := by
            have q3 : HL K Hk H ((some v, .un) :: ((some v, .ow true o) :: (C ++ (R ++ (us ++ T))))) := q.relab.un
            have q4 : HL K Hk H ((((some v, .ow true o) :: C)) ++ ((some v, .un) :: (R ++ (us ++ T)))) := HL.unmid (C := (some v, .ow true o) :: C) (by simpa using q3)
            exact q4.perm ((z3.append_right (us ++ T)).symm.append_left _)
          obtain ⟨g1, g2, g3⟩ := ih (by simpa using hl) q2 hr
          rw [hR]
          exact ⟨HL.unmid g1, by simp [g2], .ow g3⟩
theorem takeBack_len : ∀ (as : List Arg) (ρ : Rho) (ss : List Slot), (takeBack ρ as ss).length = ρ.length
  | [], ρ, ss => by cases ss <;> rfl
  | .val _ :: as, ρ, [] => rfl
  | .val _ :: as, ρ, _ :: ss => takeBack_len as ρ ss
  | .pk _ :: as, ρ, [] => rfl
  | .pk i :: as, ρ, s :: ss => by
    show (match ρ[i]? with | some (.ow b _) => (takeBack (ρ.set i .un) as ss).set i (backS b s) | _ => takeBack ρ as ss).length = ρ.length
    split
    · rw [List.length_set, takeBack_len as, List.length_set]
    · exact takeBack_len as ρ ss
theorem takeBack_un {i : Nat} : ∀ (as : List Arg) (ρ : Rho) (ss ρs : List Slot), ρ[i]? = some Slot.un → lendS ρ as = some ρs → (takeBack ρ as ss)[i]? = some Slot.un
  | [], ρ, ss, ρs, h, e => by cases ss <;> exact h
  | .val _ :: as, ρ, [], ρs, h, e => h
  | .val s :: as, ρ, _ :: ss, ρs, h, e => by
    cases s with
    | un => cases e
    | rw kq rowsq => cases e
    | sh d => obtain ⟨r, hr, _⟩ := Option.map_eq_some_iff.mp (show (lendS ρ as).map (Slot.sh d :: ·) = some ρs from e); exact takeBack_un as ρ ss r h hr
    | ow b o => obtain ⟨r, hr, _⟩ := Option.map_eq_some_iff.mp (show (lendS ρ as).map (Slot.ow true o :: ·) = some ρs from e); exact takeBack_un as ρ ss r h hr
  | .pk _ :: as, ρ, [], ρs, h, e => h
  | .pk j :: as, ρ, s :: ss, ρs, h, e => by
    have e' : (match ρ[j]? with | some (.sh d) => (lendS ρ as).map (Slot.sh d :: ·) | some (.ow _ o) => (lendS (ρ.set j .un) as).map (Slot.ow true o :: ·) | _ => none) = some ρs := e
    show (match ρ[j]? with | some (.ow b _) => (takeBack (ρ.set j .un) as ss).set j (backS b s) | _ => takeBack ρ as ss)[i]? = _
    cases hs : ρ[j]? with
    | none => rw [hs] at e'; cases e'
    | some t =>
      rw [hs] at e'
      cases t with
      | un => cases e'
      | rw kq rowsq => cases e'
      | sh d => obtain ⟨r, hr, _⟩ := Option.map_eq_some_iff.mp e'; exact takeBack_un as ρ ss r h hr
      | ow b o =>
        obtain ⟨r, hr, _⟩ := Option.map_eq_some_iff.mp e'
        have hji : j ≠ i := fun z => by subst z; rw [h] at hs; cases hs
        show ((takeBack (ρ.set j .un) as ss).set j (backS b s))[i]? = _
        rw [List.getElem?_set_ne hji]
        exact takeBack_un as _ ss r (by rw [List.getElem?_set_ne hji]; exact h) hr
theorem takeBack_kp {j : Nat} {o : Own} : ∀ (as : List Arg) (ρ : Rho) (ρs ss : List Slot), ρ[j]? = some (Slot.ow true o) → lendS ρ as = some ρs → KpA ρs ss → ∃ o', (takeBack ρ as ss)[j]? = some (Slot.ow true o')
  | [], ρ, ρs, ss, h, e, k => by cases ss <;> exact ⟨o, h⟩
  | .val s :: as, ρ, ρs, ss, h, e, k => by
    cases s with
    | un => cases e
    | rw kq rowsq => cases e
    | sh d =>
      obtain ⟨r, hr, er⟩ := Option.map_eq_some_iff.mp (show (lendS ρ as).map (Slot.sh d :: ·) = some ρs from e)
      subst er
      cases k with | sh k => exact takeBack_kp as ρ r _ h hr k
    | ow b o =>
      obtain ⟨r, hr, er⟩ := Option.map_eq_some_iff.mp (show (lendS ρ as).map (Slot.ow true o :: ·) = some ρs from e)
      subst er
      cases k with | ow k => exact takeBack_kp as ρ r _ h hr k
  | .pk i :: as, ρ, ρs, ss, h, e, k => by
    have e' : (match ρ[i]? with | some (.sh d) => (lendS ρ as).map (Slot.sh d :: ·) | some (.ow _ o) => (lendS (ρ.set i .un) as).map (Slot.ow true o :: ·) | _ => none) = some ρs := e
    cases hs : ρ[i]? with
    | none => rw [hs] at e'; cases e'
    | some t =>
      rw [hs] at e'
      cases t with
      | un => cases e'
      | rw kq rowsq => cases e'
      | sh d =>
        obtain ⟨r, hr, er⟩ := Option.map_eq_some_iff.mp e'
        subst er
        cases k with
        | sh k =>
          rename_i bs
          show ∃ o', (match ρ[i]? with | some (.ow b _) => (takeBack (ρ.set i .un) as bs).set i (backS b (.sh d)) | _ => takeBack ρ as bs)[j]? = some (Slot.ow true o')
          rw [hs]
          exact takeBack_kp as ρ r _ h hr k
      | ow b o1 =>
        obtain ⟨r, hr, er⟩ := Option.map_eq_some_iff.mp e'
        subst er
        cases k with
        | ow k =>
          rename_i o' bs
          show ∃ o2, (match ρ[i]? with | some (.ow b _) => (takeBack (ρ.set i .un) as bs).set i (backS b (.ow true o')) | _ => takeBack ρ as bs)[j]? = some (Slot.ow true o2)
          rw [hs]
          by_cases hij : i = j
          · subst hij
            rw [h] at hs; cases hs
            refine ⟨o', ?_⟩
            show ((takeBack (ρ.set i .un) as bs).set i (Slot.ow true o'))[i]? = _
            rw [List.getElem?_set_self]
            rw [takeBack_len, List.length_set]
            exact (List.getElem?_eq_some_iff.mp h).1
          · obtain ⟨o2, h2⟩ := takeBack_kp as (ρ.set i .un) r bs (by rw [List.getElem?_set_ne hij]; exact h) hr k
            refine ⟨o2, ?_⟩
            show ((takeBack (ρ.set i .un) as bs).set i (backS b _))[j]? = _
            rw [List.getElem?_set_ne hij]
            exact h2
theorem argsAt_back {as : List Arg} {vs : List V} {ts : List Cell} (ha : ArgsAt σ as vs ts) : ∀ {ρ : Rho} {T C : List Cell} {ρs ss : List Slot}, ρ.length = σ.length → lendS ρ as = some ρs → KpA ρs ss →
    HL K Hk' H' (C ++ ((vs.map some).zip ss ++ (σ.zip (lendR ρ as) ++ T))) → HL K Hk' H' (C ++ (σ.zip (takeBack ρ as ss) ++ T)) := by
  induction ha with
  | nil =>
    intro ρ T C ρs ss hl e k h
    cases e
    cases k
    exact h
  | cons hd t ih =>
    rename_i a v ta as vs us
    intro ρ T C ρs ss hl e k h
    cases hd with
    | val =>
      rename_i s
      cases s with
      | un => cases e
      | rw kq rowsq => cases e
      | sh d =>
        obtain ⟨r, hr, er⟩ := Option.map_eq_some_iff.mp (show (lendS ρ as).map (Slot.sh d :: ·) = some ρs from e)
        subst er
        cases k with
        | sh k =>
          have h1 : HL K Hk' H' (C ++ ((some v, .sh d) :: ((vs.map some).zip _ ++ (σ.zip (lendR ρ as) ++ T)))) := h
          exact ih hl hr k h1.mid.tail
      | ow b o =>
        obtain ⟨r, hr, er⟩ := Option.map_eq_some_iff.mp (show (lendS ρ as).map (Slot.ow true o :: ·) = some ρs from e)
        subst er
        cases k with
        | ow k =>
          have h1 : HL K Hk' H' (C ++ ((some v, .ow true _) :: ((vs.map some).zip _ ++ (σ.zip (lendR ρ as) ++ T)))) := h
          exact ih hl hr k h1.mid.tail
    | pk hv =>
      rename_i i
      have e' : (match ρ[i]? with | some (.sh d) => (lendS ρ as).map (Slot.sh d :: ·) | some (.ow _ o) => (lendS (ρ.set i .un) as).map (Slot.ow true o :: ·) | _ => none) = some ρs := e
      cases hs : ρ[i]? with
      | none => rw [hs] at e'; cases e'
      | some s =>
        rw [hs] at e'
        cases s with
        | un => cases e'
        | rw kq rowsq => cases e'
        | sh d =>
          obtain ⟨r, hr, er⟩ := Option.map_eq_some_iff.mp e'
          subst er
          have hR : lendR ρ (.pk i :: as) = lendR ρ as := by
            show (match ρ[i]? with | some (.ow _ _) => lendR (ρ.set i .un) as | _ => lendR ρ as) = _
            rw [hs]
          cases k with
          | sh k =>
            rename_i bs
            rw [hR] at h
            have hB : takeBack ρ (.pk i :: as) (.sh d :: bs) = takeBack ρ as bs := by
              show (match ρ[i]? with | some (.ow b _) => (takeBack (ρ.set i .un) as bs).set i (backS b _) | _ => takeBack ρ as bs) = _
              rw [hs]
            rw [hB]
            have h1 : HL K Hk' H' (C ++ ((some v, .sh d) :: ((vs.map some).zip bs ++ (σ.zip (lendR ρ as) ++ T)))) := h
            exact ih hl hr k h1.mid.tail
        | ow b o =>
          obtain ⟨r, hr, er⟩ := Option.map_eq_some_iff.mp e'
          subst er
          have hR : lendR ρ (.pk i :: as) = lendR (ρ.set i .un) as := by
            show (match ρ[i]? with | some (.ow _ _) => lendR (ρ.set i .un) as | _ => lendR ρ as) = _
            rw [hs]
          cases k with
          | ow k =>
            rename_i o' bs
            rw [hR] at h
            have hB : takeBack ρ (.pk i :: as) (.ow true o' :: bs) = (takeBack (ρ.set i .un) as bs).set i (.ow b o') := by
              show (match ρ[i]? with | some (.ow b _) => (takeBack (ρ.set i .un) as bs).set i (backS b _) | _ => takeBack ρ as bs) = _
              rw [hs]; rfl
            rw [hB]
            have h1 : HL K Hk' H' (C ++ ((some v, .ow true o') :: ((vs.map some).zip bs ++ (σ.zip (lendR (ρ.set i .un) as) ++ T)))) := h
            have h2 := ih (C := (some v, .ow b o') :: C) (by simpa using hl) hr k h1.mid.relab
            have hi : i < ρ.length := (List.getElem?_eq_some_iff.mp hs).1
            have u : (takeBack (ρ.set i .un) as bs)[i]? = some Slot.un := takeBack_un as _ bs r (by rw [List.getElem?_set_self hi]) hr
            obtain ⟨R, z1, z2⟩ := zip_at hv u
            have z3 := z2 (some v) (.ow b o')
            rw [set_self hv] at z3
            have q : HL K Hk' H' ((some v, .un) :: (((some v, .ow b o') :: C) ++ (R ++ T))) := (h2.perm ((z1.append_right T).append_left _)).mid
            have q1 : HL K Hk' H' (C ++ ((some v, .ow b o') :: (R ++ T))) := HL.unmid (by simpa using q.tail)
            exact q1.perm ((z3.append_right T).symm.append_left C)
end

/-- a call -/
def vCall (SS : VSp) (ta : VA) : VE := fun ρ Q => ta ρ fun as ρ1 => ∃ ρs, lendS ρ1 as = some ρs ∧ SS ρs (fun r ss => Q r (takeBack ρ1 as ss)) fun _ _ _ => False
theorem run_call {X : Cx} {Φ : Fr} {SS : VSp} {es : List Expr} {tas : VA} {E : L2.St → XK} (ha : PWA X Φ es tas) : RunE X.K Φ (tCallSD (spV X.K SS) [] E (tSemA X es)) (vCall SS tas) := ⟨fun ρ Q Hk T σ H P q hh p =>
  ha.run ρ _ Hk T σ H _ q hh fun vs H1 Hk1 ρ1 as ts e1 has h1 k1 ⟨ρs, hl, q1⟩ => by
    obtain ⟨g1, g2, g3⟩ := argsAt_ok (T := T ++ Φ.T0) (C := []) has h1.len (by have := h1.hl; rw [List.append_assoc] at this; simpa using this) hl
    show spV X.K SS (vs ++ []) H1 P (E σ)
    rw [List.append_nil]
    have kb : ∀ {ρs'}, KpA ρs ρs' → Kp σ ρ1 σ (takeBack ρ1 as ρs') := fun k2 j o x ej ex => ⟨ex, takeBack_kp as ρ1 ρs _ ej hl k2⟩
    refine ⟨Hk1, ρs, _, _, _, g2, g3, g1, q1, fun v H' Hk' ρs' r e2 k2 h2 q2 => ?_, fun _ _ _ _ _ _ _ _ _ _ z => z.elim⟩
    refine p v H' Hk' (takeBack ρ1 as ρs') r (e1.trans e2) ?_ (k1.trans (kb k2)) q2
    have b := argsAt_back (C := [(some v, r)]) has h1.len hl k2 h2
    refine ⟨by rw [takeBack_len]; exact h1.len, HL.unmid (C := σ.zip (takeBack ρ1 as ρs')) (by simpa using b), h1.ex0.trans e2, h1.kp0.trans (kb k2)⟩⟩
/-- a call that may raise -/
def vCallX (EX : Value → List (Str × D) → Rho → Prop) (SS : VSp) (ta : VA) : VE := fun ρ Q => ta ρ fun as ρ1 => ∃ ρs, lendS ρ1 as = some ρs ∧ SS ρs (fun r ss => Q r (takeBack ρ1 as ss)) fun cls fs ss => EX cls fs (takeBack ρ1 as ss)
theorem run_callX {X : Cx} {Φ : Fr} {SS : VSp} {es : List Expr} {tas : VA} (ha : PWA X Φ es tas) : RunE X.K Φ (tCallSD (spV X.K SS) [] (WE (WΦ X.K Φ)) (tSemA X es)) (vCallX Φ.EX SS tas) := ⟨fun ρ Q Hk T σ H P q hh p =>
  ha.run ρ _ Hk T σ H _ q hh fun vs H1 Hk1 ρ1 as ts e1 has h1 k1 ⟨ρs, hl, q1⟩ => by
    obtain ⟨g1, g2, g3⟩ := argsAt_ok (T := T ++ Φ.T0) (C := []) has h1.len (by have := h1.hl; rw [List.append_assoc] at this; simpa using this) hl
    show spV X.K SS (vs ++ []) H1 P (WE (WΦ X.K Φ) σ)
    rw [List.append_nil]
    have kb : ∀ {ρs'}, KpA ρs ρs' → Kp σ ρ1 σ (takeBack ρ1 as ρs') := fun k2 j o x ej ex => ⟨ex, takeBack_kp as ρ1 ρs _ ej hl k2⟩
    refine ⟨Hk1, ρs, _, _, _, g2, g3, g1, q1, fun v H' Hk' ρs' r e2 k2 h2 q2 => ?_, fun cls d fs H' Hk' ρs' e2 k2 h2 xa q2 => ?_⟩
    · refine p v H' Hk' (takeBack ρ1 as ρs') r (e1.trans e2) ?_ (k1.trans (kb k2)) q2
      have b := argsAt_back (C := [(some v, r)]) has h1.len hl k2 h2
      exact ⟨by rw [takeBack_len]; exact h1.len, HL.unmid (C := σ.zip (takeBack ρ1 as ρs')) (by simpa using b), h1.ex0.trans e2, h1.kp0.trans (kb k2)⟩
    · have b := argsAt_back (C := []) has h1.len hl k2 h2
      have hX : Holds X.K Φ Hk' (takeBack ρ1 as ρs') T σ H' := ⟨by rw [takeBack_len]; exact h1.len, by simpa using b, h1.ex0.trans e2, h1.kp0.trans (kb k2)⟩
      exact ⟨Hk', _, fs, (Holds.drop (ts := T) (T := []) (by rw [List.append_nil]; exact hX)), xa, q2⟩⟩

/-! ### a def keeps its promise -/
/-- the arguments as they are at the end -/
def fin : List Slot → Rho → List Slot
  | [], _ => []
  | .ow true _ :: as, b :: bs => b :: fin as bs
  | a :: as, _ :: bs => a :: fin as bs
  | as, [] => as
section
variable {K : PySem.W.Frag} {Φ : Fr} {Hk Hk' H H' : Hp}
theorem fin_kp : ∀ {ρs ρs' : List Slot} {ρ' : Rho}, KpA ρs ρs' → (∀ (i : Nat) (o : Own), ρs[i]? = some (Slot.ow true o) → ∃ o', ρ'[i]? = some (Slot.ow true o')) → KpA ρs (fin ρs ρ')
  | _, _, ρ', .nil, _ => by cases ρ' <;> exact .nil
  | .sh d :: as, .sh _ :: bs, [], .sh t, h => by
    show KpA _ (.sh d :: as)
    have : ∀ {as bs : List Slot}, KpA as bs → (∀ (i : Nat) (o : Own), as[i]? = some (Slot.ow true o) → ∃ o', ([] : Rho)[i]? = some (Slot.ow true o')) → KpA as as := by
      intro as bs k
      induction k with
      | nil => intro _; exact .nil
      | sh t ih => intro h; exact .sh (ih fun i o e => h (i + 1) o (by simpa using e))
      | ow t ih => intro h; obtain ⟨_, z⟩ := h 0 _ rfl; simp at z
    exact .sh (this t fun i o e => h (i + 1) o (by simpa using e))
  | .sh d :: as, .sh _ :: bs, b :: ρ', .sh t, h => .sh (fin_kp t fun i o e => by simpa using h (i + 1) o (by simpa using e))
  | .ow true o :: as, .ow true _ :: bs, [], .ow t, h => by obtain ⟨_, z⟩ := h 0 o (by simp); simp at z
  | .ow true o :: as, .ow true _ :: bs, b :: ρ', .ow t, h => by
    obtain ⟨o', z⟩ := h 0 o (by simp)
    have z' : b = .ow true o' := by simpa using z
    subst z'
    exact .ow (fin_kp t fun i o e => by simpa using h (i + 1) o (by simpa using e))
theorem fin_hl : ∀ {ρs : List Slot} {vs : List V} {σ' : L2.St} {ρ' : Rho} {L C : List Cell}, KpA ρs ρs → ρs.length = vs.length → ρ'.length = σ'.length →
    (∀ (i : Nat) (o : Own) (v : V), ρs[i]? = some (Slot.ow true o) → vs[i]? = some v → σ'[i]? = some (some v) ∧ ∃ o', ρ'[i]? = some (Slot.ow true o')) → (∀ (i : Nat) (d : D) (v : V), ρs[i]? = some (Slot.sh d) → vs[i]? = some v → Rep K Hk v d) →
    HL K Hk H (C ++ (σ'.zip ρ' ++ L)) → HL K Hk H (C ++ ((vs.map some).zip (fin ρs ρ') ++ L))
  | [], [], σ', ρ', L, C, _, _, _, _, _, h => by
    have : fin [] ρ' = [] := by cases ρ' <;> rfl
    rw [this]
    show HL K Hk H (C ++ L)
    have h1 : HL K Hk H (σ'.zip ρ' ++ (C ++ L)) := h.perm (by
      rw [← List.append_assoc, ← List.append_assoc]
      exact List.perm_append_comm.append_right L)
    exact h1.drop
  | .sh d :: as, v :: vs, σ', ρ', L, C, .sh k, hl, hlen, ho, hs, h => by
    have r := hs 0 d v (by simp) (by simp)
    cases ρ' with
    | nil =>
      have hσ : σ' = [] := List.length_eq_zero_iff.mp (by rw [← hlen]; rfl)
      subst hσ
      have noow : ∀ (i : Nat) (o : Own), as[i]? ≠ some (Slot.ow true o) := fun i o e => by
        have hi : i < vs.length := by have := (List.getElem?_eq_some_iff.mp e).1; simp at hl; omega
        obtain ⟨z, _⟩ := ho (i + 1) o vs[i] (by simpa using e) (by simp [hi])
        simp at z
      have ih := fin_hl (ρs := as) (vs := vs) (σ' := []) (ρ' := []) (L := L) (C := (some v, .sh d) :: C) k (by simpa using hl) rfl (fun i o x e _ => absurd e (noow i o)) (fun i d x e e2 => hs (i + 1) d x (by simpa using e) (by simpa using e2)) (h.sh r)
      have hf : fin as [] = as := by cases as with
        | nil => rfl
        | cons a t => cases k with
          | sh _ => rfl
          | ow _ => exact absurd rfl (noow 0 _)
      rw [hf] at ih
      show HL K Hk H (C ++ (((v :: vs).map some).zip (.sh d :: as) ++ L))
      exact HL.unmid ih
    | cons b ρ' =>
      cases σ' with
      | nil => simp at hlen
      | cons x σ' =>
        have h1 : HL K Hk H (C ++ ((x, b) :: (σ'.zip ρ' ++ L))) := h
        have ih := fin_hl (ρs := as) (vs := vs) (σ' := σ') (ρ' := ρ') (L := L) (C := (some v, .sh d) :: C) k (by simpa using hl) (by simpa using hlen)
          (fun i o y e e2 => by simpa using ho (i + 1) o y (by simpa using e) (by simpa using e2)) (fun i d y e e2 => hs (i + 1) d y (by simpa using e) (by simpa using e2)) (h1.mid.tail.sh r)
        exact HL.unmid ih
  | .ow true o :: as, v :: vs, σ', ρ', L, C, .ow k, hl, hlen, ho, hs, h => by
    obtain ⟨e1, o', e2⟩ := ho 0 o v (by simp) (by simp)
    cases ρ' with
    | nil => simp at e2
    | cons b ρ' =>
      cases σ' with
      | nil => simp at e1
      | cons x σ' =>
        have eb : b = .ow true o' := by simpa using e2
        have ex : x = some v := by simpa using e1
        subst eb; subst ex
        have h1 : HL K Hk H (C ++ ((some v, .ow true o') :: (σ'.zip ρ' ++ L))) := h
        have ih := fin_hl (ρs := as) (vs := vs) (σ' := σ') (ρ' := ρ') (L := L) (C := (some v, .ow true o') :: C) k (by simpa using hl) (by simpa using hlen)
          (fun i o y e e2 => by simpa using ho (i + 1) o y (by simpa using e) (by simpa using e2)) (fun i d y e e2 => hs (i + 1) d y (by simpa using e) (by simpa using e2)) h1.mid
        exact HL.unmid ih
end
def uns : Nat → Rho
  | 0 => []
  | n + 1 => .un :: uns n
theorem uns_len : ∀ n, (uns n).length = n
  | 0 => rfl
  | n + 1 => by simp [uns, uns_len n]
section
variable {P : Program} {w : World} {K : PySem.W.Frag} {mg : Str → Option Value} {base : Heap}
theorem uns_hl {Hk H : Hp} {L : List Cell} : ∀ (n : Nat), HL K Hk H L → HL K Hk H ((List.replicate n (none : Option V)).zip (uns n) ++ L)
  | 0, h => h
  | n + 1, h => (uns_hl n h).un
/-- a def by the values' reading of its body -/
theorem fn_w {x qual : Str} {st : Stmt} {f : Addr} {fd : FuncData} {N ps : List Str} {k : Nat} {SS : VSp} {t : (Value → List (Str × D) → Rho → Prop) → VS} (F : Fun K x qual st f fd) (S : FnScope N ps (defScope st)) (hps : ps.length ≤ N.length) (len : ∀ ρs R RX, SS ρs R RX → ρs.length = ps.length)
    (syn : ∀ (Φ : Fr) (cdv : Value) (A : Around) (outer : List Env) (s : Shared) (H : Hp) (E : XK), Room k (A.deeper (envOfC qual (defScope st) s.heap.objs.size f cdv)) → Tk (cxOf (L2.CX P w) P w K mg base N qual (defScope st) f cdv A outer s H E) Φ → PWSs (cxOf (L2.CX P w) P w K mg base N qual (defScope st) f cdv A outer s H E) Φ (defBody st) (t Φ.EX))
    (rd : ∀ ρs R RX, SS ρs R RX → t (fun cls fs ρ' => RX cls fs (fin ρs ρ')) { nx := fun ρ' => R (.sh .non) (fin ρs ρ'), rt := fun r ρ' => R r (fin ρs ρ') } (ρs ++ uns (N.length - ps.length))) : FnOk P w K mg base (L2.CX P w) (k + 1) f fd ps (spV K SS) := by
  refine F.okX S (fun vs H Q E h => ?_) (fun cdv A outer s H vs Q E hr h => ?_)
  · obtain ⟨Hk, ρs, T, R, RX, hl, _, _, hs, _⟩ := h
    rw [← hl]; exact len ρs R RX hs
  · obtain ⟨Hk, ρs, T, R, RX, hl, hk, hh, hs, fin', finX⟩ := h
    have hn : ρs.length = ps.length := len ρs R RX hs
    refine ⟨_, pss_sem, ?_⟩
    have e0 : L2.start N vs = vs.map some ++ List.replicate (N.length - ps.length) none := by unfold L2.start; rw [← hl, hn]
    let Φ : Fr := ⟨T, Hk, L2.start N vs, ρs ++ uns (N.length - ps.length), fun cls fs ρ' => RX cls fs (fin ρs ρ')⟩
    have h0 : Holds K Φ Hk (ρs ++ uns (N.length - ps.length)) [] (L2.start N vs) H := by
      refine ⟨by rw [e0]; simp [uns_len, hl], ?_, .refl _, .refl _ _⟩
      show HL K Hk H ((L2.start N vs).zip (ρs ++ uns (N.length - ps.length)) ++ T)
      rw [e0, List.zip_append (by simp [hl])]
      rw [List.append_assoc]
      have h1 : HL K Hk H ((List.replicate (N.length - ps.length) (none : Option V)).zip (uns (N.length - ps.length)) ++ ((vs.map some).zip ρs ++ T)) := uns_hl _ hh
      refine h1.perm ?_
      rw [← List.append_assoc, ← List.append_assoc]
      exact List.perm_append_comm.append_right T
    have shs : ∀ (i : Nat) (d : D) (v : V), ρs[i]? = some (Slot.sh d) → vs[i]? = some v → Rep K Hk v d := fun i d v e1 e2 => by
      have hi : i < ρs.length := (List.getElem?_eq_some_iff.mp e1).1
      have e3 : (ρs ++ uns (N.length - ps.length))[i]? = some (Slot.sh d) := by rw [List.getElem?_append_left hi]; exact e1
      obtain ⟨v', e4, r⟩ := h0.get_sh e3
      have e5 : (L2.start N vs)[i]? = some (some v) := by rw [e0, List.getElem?_append_left (by simp; omega), List.getElem?_map, e2]; rfl
      rw [e5] at e4; cases e4; exact r
    have ows : ∀ {σ' : L2.St} {ρ' : Rho}, Kp (L2.start N vs) (ρs ++ uns (N.length - ps.length)) σ' ρ' → ∀ (i : Nat) (o : Own) (v : V), ρs[i]? = some (Slot.ow true o) → vs[i]? = some v → σ'[i]? = some (some v) ∧ ∃ o', ρ'[i]? = some (Slot.ow true o') := fun k1 i o v e1 e2 => by
      have hi : i < ρs.length := (List.getElem?_eq_some_iff.mp e1).1
      exact k1 i o (some v) (by rw [List.getElem?_append_left hi]; exact e1) (by rw [e0, List.getElem?_append_left (by simp; omega), List.getElem?_map, e2]; rfl)
    have kpf : ∀ {σ' : L2.St} {ρ' : Rho}, Kp (L2.start N vs) (ρs ++ uns (N.length - ps.length)) σ' ρ' → KpA ρs (fin ρs ρ') := fun k1 => fin_kp hk fun i o e => by
      have hi : i < vs.length := by rw [← hl]; exact (List.getElem?_eq_some_iff.mp e).1
      exact (ows k1 i o vs[i] e (List.getElem?_eq_getElem hi)).2
    have ends : ∀ v σ' H' Hk' ρ' r, Same Hk Hk' → Holds K Φ Hk' ρ' ((some v, r) :: []) σ' H' → Kp (L2.start N vs) (ρs ++ uns (N.length - ps.length)) σ' ρ' → R r (fin ρs ρ') → Q v H' := fun v σ' H' Hk' ρ' r e1 h1 k1 q1 => by
      refine fin' v H' Hk' (fin ρs ρ') r e1 (kpf k1) ?_ q1
      have h2 : HL K Hk' H' ([(some v, r)] ++ (σ'.zip ρ' ++ T)) := HL.mid (C := σ'.zip ρ') h1.hl
      exact fin_hl hk hl h1.len (ows k1) (fun i d v e3 e4 => (shs i d v e3 e4).mono e1) h2
    have tk : Tk (cxOf (L2.CX P w) P w K mg base N qual (defScope st) f cdv A outer s H E) Φ := (takes_of rfl rfl rfl rfl : Takes (cxOf (L2.CX P w) P w K mg base N qual (defScope st) f cdv A outer s H E) (fun cls d _ H' => E cls d H')).imp fun cls d σ' H' ⟨Hk', ρ', fs, h1, xa, q1⟩ =>
      finX cls d fs H' Hk' (fin ρs ρ') h1.ex0 (kpf h1.kp0) (fin_hl (C := []) hk hl h1.len (ows h1.kp0) (fun i d v e3 e4 => (shs i d v e3 e4).mono h1.ex0) h1.hl) xa q1
    refine (syn Φ cdv A outer s H E hr tk).run _ _ Hk [] _ H _ (rd ρs R RX hs) h0 ⟨fun σ' H' Hk' ρ' e h1 k1 q1 => ?_, fun v σ' H' Hk' ρ' r e h1 k1 q1 => ends v σ' H' Hk' ρ' r e h1 k1 q1, fun _ _ _ _ _ _ _ z => z.elim, fun _ _ _ _ _ _ _ z => z.elim⟩
    exact ends .non σ' H' Hk' ρ' _ e (h1.sh .non) k1 q1
end
end WL

set_option Elab.async false
set_option linter.all false
set_option maxRecDepth 100000
set_option maxHeartbeats 4000000
/-! W5: operators and built-ins over data. -/
namespace WL
open PySem PySem.Spec PyProof.Rows L2

section
variable {X : Cx} {Φ : Fr}
theorem CallR.or {f : Value} {r r' : List V → Hp → VK → Prop} (h : CallR X f r) (h' : CallR X f r') : CallR X f (fun x H Q => r x H Q ∨ r' x H Q) := by
  intro pins s σ H vs us Q I rv q
  rcases q with q | q
  · exact h pins s σ H vs us Q I rv q
  · exact h' pins s σ H vs us Q I rv q

/-! ### + - * // % ** -/
def rCatS : R2 := fun x y H Q => ∃ i j, x = .str i ∧ y = .str j ∧ i.length + j.length ≤ sizeLine ∧ Q (.str (i ++ j)) H
def rAddA (K : PySem.W.Frag) : R2 := fun x y H Q => rI0 (fun i j => .int (i + j)) x y H Q ∨ (rCatS x y H Q ∨ (rCat x y H Q ∨ rCatA K x y H Q))
theorem op_addA : OpR X (binaryOp .Add) (rAddA X.K) := op_add.or (OpR.or op_add_str (op_cat.or op_catA))
def addP : Prim := fun ds R => match ds with
  | [.int i, .int j] => R (.val (.int (i + j)))
  | [.str x, .str y] => x.length + y.length ≤ sizeLine ∧ R (.val (.str (x ++ y)))
  | [.lst a, .lst b] => a.length + b.length ≤ sizeLine ∧ R (.newL (a ++ b))
  | [.tup a, .tup b] => a.length + b.length ≤ sizeLine ∧ R (.newT (a ++ b)) ∧ R (.val (.tup (a ++ b)))
  | _ => False
theorem ok_add : PrimOk2 X (rAddA X.K) addP := by
  intro Hk H x y dx dy P R ex vx vy q k
  unfold addP at q
  split at q
  · rename_i e; cases e
    exact .inl ⟨_, _, vx.int, vy.int, k _ q _ .int⟩
  · rename_i e; cases e
    exact .inr (.inl ⟨_, _, vx.str, vy.str, q.1, k _ q.2 _ .str⟩)
  · rename_i e; cases e
    obtain ⟨p, vs, rfl, hp, rp⟩ := vx.lst ex
    obtain ⟨p', vs', rfl, hp', rp'⟩ := vy.lst ex
    exact .inr (.inr (.inl ⟨_, _, _, _, rfl, rfl, hp, hp', by rw [rp.length, rp'.length]; exact q.1, fun a ha => k _ q.2 a _ ha (rp.append rp')⟩))
  · rename_i e; cases e
    obtain ⟨p, vs, rfl, hp, rp⟩ := vx.tup ex
    obtain ⟨p', vs', rfl, hp', rp'⟩ := vy.tup ex
    have kx : ∀ {d : List D} {a : Addr}, View X.K Hk H (.ref a) (.tup d) → Rep X.K Hk (.ref a) (.tup d) := fun {d a} h => by
      generalize e : D.tup d = z at h
      cases h with
      | known r => exact r
      | own r => cases r <;> cases e
    refine .inr (.inr (.inr ⟨_, _, _, _, rfl, rfl, .of hp, .of hp', by rw [rp.length, rp'.length]; exact q.1, fun e0 => ?_, fun _ e1 => ?_, fun _ _ a ha => k _ q.2.1 a _ ha (rp.append rp')⟩))
    · have := k _ q.2.2 (.ref p')
      subst e0; cases rp
      exact this (kx vy)
    · have := k _ q.2.2 (.ref p)
      subst e1; cases rp'
      rw [List.append_nil] at this
      exact this (kx vx)
  · exact q.elim
def subP : Prim := fun ds R => match ds with
  | [.int i, .int j] => R (.val (.int (i - j)))
  | _ => False
theorem ok_sub : PrimOk2 X (rI0 fun i j => .int (i - j)) subP := by
  intro Hk H x y dx dy P R ex vx vy q k
  unfold subP at q
  split at q
  · rename_i e; cases e
    exact ⟨_, _, vx.int, vy.int, k _ q _ .int⟩
  · exact q.elim
def mulP : Prim := fun ds R => match ds with
  | [.int i, .int j] => (CMul i j ∨ CMulW i j) ∧ R (.val (.int (i * j)))
  | [.lst a, .int n] => (-(2 ^ 63) ≤ n ∧ n < 2 ^ 63 ∧ a.length * n.toNat ≤ sizeLine) ∧ R (.newL (List.replicate n.toNat a).flatten)
  | _ => False
theorem Reps.rep {K : PySem.W.Frag} {H : Hp} {vs : List V} {ds : List D} (r : Reps K H vs ds) : ∀ n : Nat, Reps K H (List.replicate n vs).flatten (List.replicate n ds).flatten
  | 0 => .nil
  | n + 1 => by rw [List.replicate_succ, List.replicate_succ]; exact r.append (Reps.rep r n)
def rMulA : R2 := fun x y H Q => rI CMul (fun i j => .int (i * j)) x y H Q ∨ (rI CMulW (fun i j => .int (i * j)) x y H Q ∨ rRep x y H Q)
theorem ok_mul : PrimOk2 X rMulA mulP := by
  intro Hk H x y dx dy P R ex vx vy q k
  unfold mulP at q
  split at q
  · rename_i e; cases e
    rcases q.1 with q1 | q1
    · exact .inl ⟨_, _, vx.int, vy.int, q1, k _ q.2 _ .int⟩
    · exact .inr (.inl ⟨_, _, vx.int, vy.int, q1, k _ q.2 _ .int⟩)
  · rename_i e; cases e
    obtain ⟨p, vs, rfl, hp, rp⟩ := vx.lst ex
    exact .inr (.inr ⟨_, _, _, rfl, vy.int, hp, q.1.1, q.1.2.1, by rw [rp.length]; exact q.1.2.2, fun a ha => k _ q.2 a _ ha (rp.rep _)⟩)
  · exact q.elim
theorem op_mulA : OpR X (binaryOp .Mult) rMulA := op_mul.or (OpR.or op_mulW op_rep)
def modP : Prim := fun ds R => match ds with
  | [.int i, .int j] => 0 < j ∧ R (.val (.int (i % j)))
  | _ => False
theorem ok_mod : PrimOk2 X (rI (fun _ j => 0 < j) fun i j => .int (i % j)) modP := by
  intro Hk H x y dx dy P R ex vx vy q k
  unfold modP at q
  split at q
  · rename_i e; cases e
    exact ⟨_, _, vx.int, vy.int, q.1, k _ q.2 _ .int⟩
  · exact q.elim
def divP : Prim := fun ds R => match ds with
  | [.int i, .int j] => (CDiv i j ∨ CDivW i j) ∧ R (.val (.int (i / j)))
  | _ => False
def rDivA : R2 := fun x y H Q => rI CDiv (fun i j => .int (i / j)) x y H Q ∨ rI CDivW (fun i j => .int (i / j)) x y H Q
theorem op_divA : OpR X (binaryOp .FloorDiv) rDivA := op_fdiv.or op_fdivW
theorem ok_div : PrimOk2 X rDivA divP := by
  intro Hk H x y dx dy P R ex vx vy q k
  unfold divP at q
  split at q
  · rename_i e; cases e
    rcases q.1 with q1 | q1
    · exact .inl ⟨_, _, vx.int, vy.int, q1, k _ q.2 _ .int⟩
    · exact .inr ⟨_, _, vx.int, vy.int, q1, k _ q.2 _ .int⟩
  · exact q.elim
def powP : Prim := fun ds R => match ds with
  | [.int i, .int j] => CPow i j ∧ R (.val (.int (i ^ j.toNat)))
  | _ => False
theorem ok_pow : PrimOk2 X (rI CPow fun i j => .int (i ^ j.toNat)) powP := by
  intro Hk H x y dx dy P R ex vx vy q k
  unfold powP at q
  split at q
  · rename_i e; cases e
    exact ⟨_, _, vx.int, vy.int, q.1, k _ q.2 _ .int⟩
  · exact q.elim
def negP : Prim := fun ds R => match ds with
  | [.int i] => R (.val (.int (-i)))
  | _ => False
theorem ok_neg : PrimOk1 X (rU fun i => .int (-i)) negP := by
  intro Hk H x dx P R ex vx q k
  unfold negP at q
  split at q
  · rename_i e; cases e
    exact ⟨_, vx.int, k _ q _ .int⟩
  · exact q.elim

/-! ### order -/
def rLtA : R2 := fun x y H Q => rI0 (fun i j => .bl (decide (i < j))) x y H Q ∨ ∃ i j, x = .str i ∧ y = .str j ∧ Q (.bl (decide (i.cps.toList < j.cps.toList))) H
theorem op_ltA : OpR X (compareOp .Lt) rLtA := op_lt.or op_lt_str
def ltP : Prim := fun ds R => match ds with
  | [.int i, .int j] => R (.val (.bl (decide (i < j))))
  | [.str x, .str y] => R (.val (.bl (decide (x.cps.toList < y.cps.toList))))
  | _ => False
theorem ok_lt : PrimOk2 X rLtA ltP := by
  intro Hk H x y dx dy P R ex vx vy q k
  unfold ltP at q
  split at q
  · rename_i e; cases e
    exact .inl ⟨_, _, vx.int, vy.int, k _ q _ .bl⟩
  · rename_i e; cases e
    exact .inr ⟨_, _, vx.str, vy.str, k _ q _ .bl⟩
  · exact q.elim
def leP : Prim := fun ds R => match ds with
  | [.int i, .int j] => R (.val (.bl (decide (i ≤ j))))
  | _ => False
theorem ok_le : PrimOk2 X (rI0 fun i j => .bl (decide (i ≤ j))) leP := by
  intro Hk H x y dx dy P R ex vx vy q k
  unfold leP at q
  split at q
  · rename_i e; cases e
    exact ⟨_, _, vx.int, vy.int, k _ q _ .bl⟩
  · exact q.elim
def geP : Prim := fun ds R => match ds with
  | [.int i, .int j] => R (.val (.bl (decide (j ≤ i))))
  | _ => False
theorem ok_ge : PrimOk2 X (rI0 fun i j => .bl (decide (j ≤ i))) geP := by
  intro Hk H x y dx dy P R ex vx vy q k
  unfold geP at q
  split at q
  · rename_i e; cases e
    exact ⟨_, _, vx.int, vy.int, k _ q _ .bl⟩
  · exact q.elim
theorem op_gt_strW : OpR X (compareOp .Gt) (fun x y H Q => ∃ i j, x = .str i ∧ y = .str j ∧ Q (.bl (decide (j.cps.toList < i.cps.toList))) H) := op_gt_str
def rGtA : R2 := fun x y H Q => rI0 (fun i j => .bl (decide (j < i))) x y H Q ∨ ∃ i j, x = .str i ∧ y = .str j ∧ Q (.bl (decide (j.cps.toList < i.cps.toList))) H
theorem op_gtA : OpR X (compareOp .Gt) rGtA := op_gt.or op_gt_str
def gtP : Prim := fun ds R => match ds with
  | [.int i, .int j] => R (.val (.bl (decide (j < i))))
  | [.str x, .str y] => R (.val (.bl (decide (y.cps.toList < x.cps.toList))))
  | _ => False
theorem ok_gt : PrimOk2 X rGtA gtP := by
  intro Hk H x y dx dy P R ex vx vy q k
  unfold gtP at q
  split at q
  · rename_i e; cases e
    exact .inl ⟨_, _, vx.int, vy.int, k _ q _ .bl⟩
  · rename_i e; cases e
    exact .inr ⟨_, _, vx.str, vy.str, k _ q _ .bl⟩
  · exact q.elim

/-! ### == != -/
mutual
def toPy : D → Option PyData
  | .non => some .none
  | .bl b => some (.bool b)
  | .int i => some (.int i)
  | .str x => some (.str x)
  | .lst ds => (toPys ds).map .list
  | .tup ds => (toPys ds).map .tuple
  | .fls ds => (toPys ds).map .list
  | .ftp ds => (toPys ds).map .tuple
  | _ => none
def toPys : List D → Option (List PyData)
  | [] => some []
  | d :: ds => match toPy d, toPys ds with
    | some p, some ps => some (p :: ps)
    | _, _ => none
end
mutual
theorem Rep.dp {K : PySem.W.Frag} {H : Hp} : ∀ {v : V} {d : D} {p : PyData}, Rep K H v d → toPy d = some p → Dp K H v p
  | _, _, p, .non, e => by unfold toPy at e; cases e; exact .non
  | _, _, p, .bl, e => by unfold toPy at e; cases e; exact .bl _
  | _, _, p, .int, e => by unfold toPy at e; cases e; exact .int _
  | _, _, p, .str, e => by unfold toPy at e; cases e; exact .str _
  | _, _, p, .lst h r, e => by
    unfold toPy at e
    obtain ⟨ps, hp, ep⟩ := Option.map_eq_some_iff.mp e
    subst ep
    exact .lst (.of h) (Reps.dp r hp)
  | _, _, p, .tup h r, e => by
    unfold toPy at e
    obtain ⟨ps, hp, ep⟩ := Option.map_eq_some_iff.mp e
    subst ep
    exact .tup (.of h) (Reps.dp r hp)
  | _, _, p, .fls h r, e => by
    unfold toPy at e
    obtain ⟨ps, hp, ep⟩ := Option.map_eq_some_iff.mp e
    subst ep
    exact .lst h (Reps.dp r hp)
  | _, _, p, .ftp h r, e => by
    unfold toPy at e
    obtain ⟨ps, hp, ep⟩ := Option.map_eq_some_iff.mp e
    subst ep
    exact .tup h (Reps.dp r hp)
  | _, _, p, .dct _ _, e => by unfold toPy at e; cases e
  | _, _, p, .dcT _ _, e => by unfold toPy at e; cases e
  | _, _, p, .opq, e => by unfold toPy at e; cases e
theorem Reps.dp {K : PySem.W.Frag} {H : Hp} : ∀ {vs : List V} {ds : List D} {ps : List PyData}, Reps K H vs ds → toPys ds = some ps → DpAll K H vs ps
  | _, _, ps, .nil, e => by unfold toPys at e; cases e; exact .nil
  | _, _, ps, .cons h t, e => by
    unfold toPys at e
    split at e
    · rename_i p ps' h1 h2
      cases e
      exact .cons (Rep.dp h h1) (Reps.dp t h2)
    · cases e
end
theorem View.dp {K : PySem.W.Frag} {Hk H : Hp} {v : V} {d : D} {p : PyData} (ex : Same Hk H) (h : View K Hk H v d) (e : toPy d = some p) : Dp K H v p := by
  cases h with
  | known r => exact (r.mono ex).dp e
  | own r =>
    cases r with
    | lst h r =>
      have e' : toPy (.lst _) = some p := e
      unfold toPy at e'
      obtain ⟨ps, hp, ep⟩ := Option.map_eq_some_iff.mp e'
      subst ep
      exact .lst (.of h) ((r.mono ex).dp hp)
    | dct h r => have e' : toPy (.dct _) = some p := e; unfold toPy at e'; cases e'
    | dcT h r => have e' : toPy (.dcT _) = some p := e; unfold toPy at e'; cases e'
/-! dicts compared -/
def lookK {κ α : Type} [DecidableEq κ] (kvs : List (κ × α)) (k : κ) : Option α := (kvs.find? fun kv => decide (kv.1 = k)).map (·.2)
section
variable {K : PySem.W.Frag} {Φ : Fr} {H : Hp}
theorem RepK.look : ∀ {vs : List (Key × V)} {ds : List (Key × D)} {k : Key}, RepK K H vs ds → (valV vs k = none ∧ lookK ds k = none) ∨ ∃ v d, valV vs k = some v ∧ lookK ds k = some d ∧ Rep K H v d
  | _, _, k, .nil => .inl ⟨rfl, rfl⟩
  | _, _, k, .cons (k := j) (vs := vs) (ds := ds) h t => by
    by_cases e : j = k
    · subst e
      exact .inr ⟨_, _, by simp [valV], by simp [lookK], h⟩
    · rcases t.look (k := k) with ⟨h1, h2⟩ | ⟨v, d, h1, h2, r⟩
      · exact .inl ⟨by simpa [valV, e] using h1, by simpa [lookK, e] using h2⟩
      · exact .inr ⟨v, d, by simpa [valV, e] using h1, by simpa [lookK, e] using h2, r⟩
theorem RepK.len : ∀ {vs : List (Key × V)} {ds : List (Key × D)}, RepK K H vs ds → vs.length = ds.length
  | _, _, .nil => rfl
  | _, _, .cons _ t => by simp [RepK.len t]
end
/-- what the walk over the first dict's entries says -/
inductive HitsE (ls : List (Key × D)) : List (Key × D) → Bool → Prop
  | nil : HitsE ls [] true
  | miss {k v r} (h : lookK ls k = none) : HitsE ls ((k, v) :: r) false
  | hit {k v u d e r b} (h : lookK ls k = some u) (hd : toPy v = some d) (he : toPy u = some e) (sd : SeqAt.shaped d = true) (se : SeqAt.shaped e = true) (dd : d.depth ≤ 60) (t : HitsE ls r b) : HitsE ls ((k, v) :: r) (PyData.eqv d e && b)
inductive HitsV (K : PySem.W.Frag) (H : Hp) (ls : List (Key × V)) : List (Key × V) → Bool → Prop
  | nil : HitsV K H ls [] true
  | miss {k v r} (h : valV ls k = none) : HitsV K H ls ((k, v) :: r) false
  | hit {k v u d e r b} (h : valV ls k = some u) (hd : Dp K H v d) (he : Dp K H u e) (sd : SeqAt.shaped d = true) (se : SeqAt.shaped e = true) (dd : d.depth ≤ 60) (t : HitsV K H ls r b) : HitsV K H ls ((k, v) :: r) (PyData.eqv d e && b)
theorem hitsV_of {K : PySem.W.Frag} {H : Hp} {lv : List (Key × V)} {ls : List (Key × D)} (rl : RepK K H lv ls) {ks : List (Key × D)} {r : Bool} (h : HitsE ls ks r) : ∀ {kv : List (Key × V)}, RepK K H kv ks → HitsV K H lv kv r := by
  induction h with
  | nil => intro kv rk; cases rk; exact .nil
  | miss h =>
    intro kv rk
    cases rk with
    | cons rv rt =>
      rename_i k v r v' vs
      rcases rl.look (k := k) with ⟨h1, _⟩ | ⟨_, _, _, h2, _⟩
      · exact .miss h1
      · rw [h] at h2; cases h2
  | hit h hd he sd se dd t ih =>
    intro kv rk
    cases rk with
    | cons rv rt =>
      rcases rl.look (k := _) with ⟨_, h2⟩ | ⟨u', d', h1, h2, ru⟩
      · rw [h] at h2; cases h2
      · rw [h] at h2
        cases h2
        exact .hit h1 (rv.dp hd) (ru.dp he) sd se dd (ih rt)
theorem hits_vals {X : Cx} {pins : List (Addr × Obj)} {σ : L2.St} {H : Hp} {s : Shared} (I : Inv X pins σ H s) {A : Around} (hu : A.units + 60 < cLine) {ls : List (Key × V)} {vb : List (Key × Value)} (rb : KV ls vb) {ks : List (Key × V)} {r : Bool} (h : HitsV X.K H ls ks r) :
    ∀ {va : List (Key × Value)}, KV ks va → PySem.W.KeqHits A s vb va r := by
  induction h with
  | nil => intro va ra; cases ra; exact .nil
  | miss h =>
    intro va ra
    cases ra with
    | cons z t =>
      rename_i q _
      obtain ⟨k, w⟩ := q
      obtain ⟨e, _⟩ := z
      have e' : _ = k := e
      have hv := rb.val k
      rw [← e', h] at hv
      exact .miss (by rw [← e']; cases hq : valueAt vb _ with
        | none => rfl
        | some y => rw [hq] at hv; cases hv)
  | hit h hd he sd se dd t ih =>
    intro va ra
    cases ra with
    | cons z t =>
      rename_i q _
      obtain ⟨k, w⟩ := q
      obtain ⟨e, rw'⟩ := z
      have e' : _ = k := e
      have hv := rb.val k
      rw [← e', h] at hv
      obtain ⟨y, hy, ry⟩ := hv.some_of
      rw [e'] at hy
      obtain ⟨as, r1⟩ := Dp.reads I _ _ w hd rw'
      obtain ⟨bs, r2⟩ := Dp.reads I _ _ y he ry
      refine .hit hy (SeqAt.eqAt_reads _ _ A s w y as bs r1 r2 (SeqAt.canLay_of_shaped sd) (SeqAt.canLay_of_shaped se) ?_) (ih t)
      exact Nat.lt_of_le_of_lt (Nat.add_le_add_left (Nat.le_trans (Nat.min_le_left _ _) dd) _) hu
def rEqK (K : PySem.W.Frag) : R2 := fun x y H Q => ∃ a b ks ls r, x = .ref a ∧ y = .ref b ∧ Rd H a (.dK ks) ∧ Rd H b (.dK ls) ∧ HitsV K H ls ks r ∧ Q (.bl (ks.length == ls.length && r)) H
def rNeK (K : PySem.W.Frag) : R2 := fun x y H Q => ∃ a b ks ls r, x = .ref a ∧ y = .ref b ∧ Rd H a (.dK ks) ∧ Rd H b (.dK ls) ∧ HitsV K H ls ks r ∧ Q (.bl (!(ks.length == ls.length && r))) H
section
variable {X : Cx} {Φ : Fr}
theorem op_eqK (hu : X.A.units + 64 < cLine) : OpR X (compareOp .Eq) (rEqK X.K) := by
  intro pins s σ H x y v u Q I rx ry ⟨a, b, ks, ls, r, ex, ey, ha, hb, hh, q⟩
  subst ex; subst ey
  cases rx; cases ry
  obtain ⟨_, na, va, ra, da⟩ := dk_rd I.hok ha
  obtain ⟨_, nb, vb, rb, db⟩ := dk_rd I.hok hb
  refine PySem.W.keq_eq (knd := mixKind X.prog X.w) (r := r) na nb da db (by omega) (fun _ => hits_vals I (by show X.A.units + 1 + 60 < cLine; omega) rb hh ra) ⟨.bl _, H, I, ?_, q⟩
  rw [ra.length, rb.length]; rfl
theorem op_neK (hu : X.A.units + 64 < cLine) : OpR X (compareOp .NotEq) (rNeK X.K) := by
  intro pins s σ H x y v u Q I rx ry ⟨a, b, ks, ls, r, ex, ey, ha, hb, hh, q⟩
  subst ex; subst ey
  cases rx; cases ry
  obtain ⟨_, na, va, ra, da⟩ := dk_rd I.hok ha
  obtain ⟨_, nb, vb, rb, db⟩ := dk_rd I.hok hb
  refine PySem.W.keq_ne (knd := mixKind X.prog X.w) (r := r) na nb da db (by omega) (fun _ => hits_vals I (by show X.A.units + 1 + 60 < cLine; omega) rb hh ra) ⟨.bl _, H, I, ?_, q⟩
  rw [ra.length, rb.length]; rfl
end
def eqP : Prim := fun ds R => match ds with
  | [.int i, .int j] => R (.val (.bl (decide (i = j))))
  | [.str x, .str y] => R (.val (.bl (decide (x = y))))
  | [.bl x, .bl y] => R (.val (.bl (decide (x = y))))
  | [.non, .non] => R (.val (.bl true))
  | [.dct ks, .dct ls] => ∃ r, HitsE ls ks r ∧ R (.val (.bl (ks.length == ls.length && r)))
  | [a, b] => ∃ d e, toPy a = some d ∧ toPy b = some e ∧ SeqAt.shaped d = true ∧ SeqAt.shaped e = true ∧ R (.val (.bl (PyData.eqv d e)))
  | _ => False
def rEqA (K : PySem.W.Frag) : R2 := fun x y H Q => (rEq x y H Q ∨ rEqD K x y H Q) ∨ rEqK K x y H Q
theorem op_eqA (hu : X.A.units + 64 < cLine) : OpR X (compareOp .Eq) (rEqA X.K) := (op_eq.or (op_eqD hu)).or (op_eqK hu)
theorem dec_inj {α β : Type} [DecidableEq α] [DecidableEq β] {f : α → β} (h : ∀ a b, f a = f b → a = b) (a b : α) : decide (f a = f b) = decide (a = b) := by
  by_cases e : a = b
  · subst e; simp
  · rw [decide_eq_false e, decide_eq_false fun z => e (h a b z)]
theorem ok_eq : PrimOk2 X (rEqA X.K) eqP := by
  intro Hk H x y dx dy P R ex vx vy q k
  unfold eqP at q
  split at q
  · rename_i e; cases e
    rw [vx.int, vy.int]
    exact .inl (.inl ⟨rfl, by rw [dec_inj (f := V.int) fun _ _ z => by injection z]; exact k _ q _ .bl⟩)
  · rename_i e; cases e
    rw [vx.str, vy.str]
    exact .inl (.inl ⟨rfl, by rw [dec_inj (f := V.str) fun _ _ z => by injection z]; exact k _ q _ .bl⟩)
  · rename_i e; cases e
    rw [vx.bl, vy.bl]
    exact .inl (.inl ⟨rfl, by rw [dec_inj (f := V.bl) fun _ _ z => by injection z]; exact k _ q _ .bl⟩)
  · rename_i e; cases e
    rw [vx.non, vy.non]
    exact .inl (.inl ⟨rfl, k _ q _ .bl⟩)
  · rename_i e; cases e
    obtain ⟨r, hr, q⟩ := q
    obtain ⟨a, ks, rfl, ha, ra⟩ := vx.dct ex
    obtain ⟨b, ls, rfl, hb, rb⟩ := vy.dct ex
    refine .inr ⟨a, b, ks, ls, r, rfl, rfl, ha, hb, hitsV_of (rb.mono ex) hr (ra.mono ex), ?_⟩
    rw [ra.len, rb.len]
    exact k _ q _ .bl
  · rename_i e; cases e
    obtain ⟨d, e, hd, he, sd, se, q⟩ := q
    exact .inl (.inr ⟨d, e, vx.dp ex hd, vy.dp ex he, sd, se, k _ q _ .bl⟩)
  · exact q.elim
def neP : Prim := fun ds R => match ds with
  | [.int i, .int j] => R (.val (.bl (!decide (i = j))))
  | [.str x, .str y] => R (.val (.bl (!decide (x = y))))
  | [.bl x, .bl y] => R (.val (.bl (!decide (x = y))))
  | [.non, .non] => R (.val (.bl false))
  | [.dct ks, .dct ls] => ∃ r, HitsE ls ks r ∧ R (.val (.bl (!(ks.length == ls.length && r))))
  | [a, b] => ∃ d e, toPy a = some d ∧ toPy b = some e ∧ SeqAt.shaped d = true ∧ SeqAt.shaped e = true ∧ R (.val (.bl (!PyData.eqv d e)))
  | _ => False
def rNeA (K : PySem.W.Frag) : R2 := fun x y H Q => (rNe x y H Q ∨ rNeD K x y H Q) ∨ rNeK K x y H Q
theorem op_neA (hu : X.A.units + 64 < cLine) : OpR X (compareOp .NotEq) (rNeA X.K) := (op_ne.or (op_neD hu)).or (op_neK hu)
theorem ok_ne : PrimOk2 X (rNeA X.K) neP := by
  intro Hk H x y dx dy P R ex vx vy q k
  unfold neP at q
  split at q
  · rename_i e; cases e
    rw [vx.int, vy.int]
    exact .inl (.inl ⟨rfl, by rw [dec_inj (f := V.int) fun _ _ z => by injection z]; exact k _ q _ .bl⟩)
  · rename_i e; cases e
    rw [vx.str, vy.str]
    exact .inl (.inl ⟨rfl, by rw [dec_inj (f := V.str) fun _ _ z => by injection z]; exact k _ q _ .bl⟩)
  · rename_i e; cases e
    rw [vx.bl, vy.bl]
    exact .inl (.inl ⟨rfl, by rw [dec_inj (f := V.bl) fun _ _ z => by injection z]; exact k _ q _ .bl⟩)
  · rename_i e; cases e
    rw [vx.non, vy.non]
    exact .inl (.inl ⟨rfl, k _ q _ .bl⟩)
  · rename_i e; cases e
    obtain ⟨r, hr, q⟩ := q
    obtain ⟨a, ks, rfl, ha, ra⟩ := vx.dct ex
    obtain ⟨b, ls, rfl, hb, rb⟩ := vy.dct ex
    refine .inr ⟨a, b, ks, ls, r, rfl, rfl, ha, hb, hitsV_of (rb.mono ex) hr (ra.mono ex), ?_⟩
    rw [ra.len, rb.len]
    exact k _ q _ .bl
  · rename_i e; cases e
    obtain ⟨d, e, hd, he, sd, se, q⟩ := q
    exact .inl (.inr ⟨d, e, vx.dp ex hd, vy.dp ex he, sd, se, k _ q _ .bl⟩)
  · exact q.elim
/-- is None -/
def isNP : Prim := fun ds R => match ds with
  | [.non, .non] => R (.val (.bl true))
  | [.int _, .non] => R (.val (.bl false))
  | [.str _, .non] => R (.val (.bl false))
  | [.bl _, .non] => R (.val (.bl false))
  | [.lst _, .non] => R (.val (.bl false))
  | [.tup _, .non] => R (.val (.bl false))
  | [.dct _, .non] => R (.val (.bl false))
  | _ => False
def notNP : Prim := fun ds R => isNP ds fun r => match r with | .val (.bl b) => R (.val (.bl (!b))) | _ => False
theorem ok_isN : PrimOk2 X (fun x y H Q => y = .non ∧ Q (.bl (decide (x = .non))) H) isNP := by
  intro Hk H x y dx dy P R ex vx vy q k
  unfold isNP at q
  split at q <;> first
    | (rename_i e; cases e; refine ⟨vy.non, ?_⟩; first
        | (rw [vx.non]; exact k _ q _ .bl)
        | (rw [vx.int]; exact k _ q _ .bl)
        | (rw [vx.str]; exact k _ q _ .bl)
        | (rw [vx.bl]; exact k _ q _ .bl)
        | (obtain ⟨p, vs, rfl, hp, rp⟩ := vx.lst ex; exact k _ q _ .bl)
        | (obtain ⟨p, vs, rfl, hp, rp⟩ := vx.tup ex; exact k _ q _ .bl)
        | (obtain ⟨p, vs, rfl, hp, rp⟩ := vx.dct ex; exact k _ q _ .bl))
    | exact q.elim
theorem ok_notN : PrimOk2 X (fun x y H Q => y = .non ∧ Q (.bl (!decide (x = .non))) H) notNP := by
  intro Hk H x y dx dy P R ex vx vy q k
  unfold notNP isNP at q
  split at q <;> first
    | (rename_i e; cases e; refine ⟨vy.non, ?_⟩; first
        | (rw [vx.non]; exact k _ q _ .bl)
        | (rw [vx.int]; exact k _ q _ .bl)
        | (rw [vx.str]; exact k _ q _ .bl)
        | (rw [vx.bl]; exact k _ q _ .bl)
        | (obtain ⟨p, vs, rfl, hp, rp⟩ := vx.lst ex; exact k _ q _ .bl)
        | (obtain ⟨p, vs, rfl, hp, rp⟩ := vx.tup ex; exact k _ q _ .bl)
        | (obtain ⟨p, vs, rfl, hp, rp⟩ := vx.dct ex; exact k _ q _ .bl))
    | exact q.elim
/-- x += y, x -= y by values: ints, texts -/
def rIAdd : R2 := fun x y H Q => rI0 (fun i j => .int (i + j)) x y H Q ∨ rCatS x y H Q
theorem ip_addA : PIp X .Add rIAdd := by
  intro pins s σ H x y v u Q I rx ry q
  rcases q with q | q
  · exact iop_add pins s σ H x y v u Q I rx ry q
  · exact iop_add_str pins s σ H x y v u Q I rx ry q
theorem ip_subA : PIp X .Sub (rI0 fun i j => .int (i - j)) := fun pins s σ H x y v u Q I rx ry q => iop_sub pins s σ H x y v u Q I rx ry q
def iaddP : Prim := fun ds R => match ds with
  | [.int i, .int j] => R (.val (.int (i + j)))
  | [.str x, .str y] => x.length + y.length ≤ sizeLine ∧ R (.val (.str (x ++ y)))
  | _ => False
theorem ok_iadd : PrimOk2 X rIAdd iaddP := by
  intro Hk H x y dx dy P R ex vx vy q k
  unfold iaddP at q
  split at q
  · rename_i e; cases e
    exact .inl ⟨_, _, vx.int, vy.int, k _ q _ .int⟩
  · rename_i e; cases e
    exact .inr ⟨_, _, vx.str, vy.str, q.1, k _ q.2 _ .str⟩
  · exact q.elim
end
end WL

set_option Elab.async false
set_option linter.all false
set_option maxRecDepth 100000
set_option maxHeartbeats 4000000
/-! W6: in, subscripts, slices, len and other built-ins, changes of own lists and dicts. -/
namespace WL
open PySem PySem.Spec PyProof.Rows L2

/-! ### keys, flat data -/
def flat1 : D → Option V
  | .non => some .non
  | .bl b => some (.bl b)
  | .int i => some (.int i)
  | .str x => some (.str x)
  | _ => none
def flatL : List D → Option (List V)
  | [] => some []
  | d :: ds => match flat1 d, flatL ds with
    | some v, some vs => some (v :: vs)
    | _, _ => none
def keyD : D → Option Key
  | .int i => some (.inl i)
  | .str x => some (.inr x)
  | _ => none
def dK : Key → D
  | .inl i => .int i
  | .inr x => .str x
def keyL : List D → Option (List Key)
  | [] => some []
  | d :: ds => match keyD d, keyL ds with
    | some v, some vs => some (v :: vs)
    | _, _ => none
section
variable {K : PySem.W.Frag} {Φ : Fr} {H : Hp}
theorem Rep.flat {v w : V} {d : D} (h : Rep K H v d) (e : flat1 d = some w) : v = w ∧ flatV w = true := by
  cases h <;> simp [flat1] at e <;> subst e <;> exact ⟨rfl, rfl⟩
theorem Reps.flat : ∀ {vs ws : List V} {ds : List D}, Reps K H vs ds → flatL ds = some ws → vs = ws ∧ ws.all flatV = true
  | _, _, _, .nil, e => by cases e; exact ⟨rfl, rfl⟩
  | _, _, _, .cons h t, e => by
    unfold flatL at e
    split at e
    · rename_i v vs h1 h2
      cases e
      obtain ⟨e1, f1⟩ := h.flat h1
      obtain ⟨e2, f2⟩ := t.flat h2
      subst e1; subst e2
      exact ⟨rfl, by rw [List.all_cons, f1, f2]; rfl⟩
    · cases e
theorem View.flat {Hk : Hp} {v w : V} {d : D} (h : View K Hk H v d) (e : flat1 d = some w) : v = w ∧ flatV w = true := by
  cases h with
  | known r => exact r.flat e
  | own r => cases r <;> cases e
theorem Rep.key {v : V} {d : D} {k : Key} (h : Rep K H v d) (e : keyD d = some k) : v = kV k := by
  cases h <;> simp [keyD] at e <;> subst e <;> rfl
theorem View.key {Hk : Hp} {v : V} {d : D} {k : Key} (h : View K Hk H v d) (e : keyD d = some k) : v = kV k := by
  cases h with
  | known r => exact r.key e
  | own r => cases r <;> cases e
theorem Reps.keys : ∀ {vs : List V} {ds : List D} {ks : List Key}, Reps K H vs ds → keyL ds = some ks → vs = ks.map kV
  | _, _, _, .nil, e => by cases e; rfl
  | _, _, _, .cons h t, e => by
    unfold keyL at e
    split at e
    · rename_i v vs h1 h2
      cases e
      rw [h.key h1, t.keys h2]; rfl
    · cases e
theorem RepT.look : ∀ {vs : List (List Key × V)} {ds : List (List Key × D)} {k : List Key}, RepT K H vs ds → (valV vs k = none ∧ lookK ds k = none) ∨ ∃ v d, valV vs k = some v ∧ lookK ds k = some d ∧ Rep K H v d
  | _, _, k, .nil => .inl ⟨rfl, rfl⟩
  | _, _, k, .cons (k := j) (vs := vs) (ds := ds) h t => by
    by_cases e : j = k
    · subst e
      exact .inr ⟨_, _, by simp [valV], by simp [lookK], h⟩
    · rcases t.look (k := k) with ⟨h1, h2⟩ | ⟨v, d, h1, h2, r⟩
      · exact .inl ⟨by simpa [valV, e] using h1, by simpa [lookK, e] using h2⟩
      · exact .inr ⟨v, d, by simpa [valV, e] using h1, by simpa [lookK, e] using h2, r⟩
theorem RepK.isSome {vs : List (Key × V)} {ds : List (Key × D)} {k : Key} (r : RepK K H vs ds) : (valV vs k).isSome = (lookK ds k).isSome := by
  rcases r.look (k := k) with ⟨h1, h2⟩ | ⟨v, d, h1, h2, r⟩ <;> rw [h1, h2] <;> rfl
theorem RepT.isSome {vs : List (List Key × V)} {ds : List (List Key × D)} {k : List Key} (r : RepT K H vs ds) : (valV vs k).isSome = (lookK ds k).isSome := by
  rcases r.look (k := k) with ⟨h1, h2⟩ | ⟨v, d, h1, h2, r⟩ <;> rw [h1, h2] <;> rfl
theorem RepK.length : ∀ {vs : List (Key × V)} {ds : List (Key × D)}, RepK K H vs ds → vs.length = ds.length
  | _, _, .nil => rfl
  | _, _, .cons _ t => by simp [RepK.length t]
theorem RepT.length : ∀ {vs : List (List Key × V)} {ds : List (List Key × D)}, RepT K H vs ds → vs.length = ds.length
  | _, _, .nil => rfl
  | _, _, .cons _ t => by simp [RepT.length t]
theorem RepK.keys : ∀ {vs : List (Key × V)} {ds : List (Key × D)}, RepK K H vs ds → vs.map (·.1) = ds.map (·.1)
  | _, _, .nil => rfl
  | _, _, .cons _ t => by simp [RepK.keys t]
end

/-! ### in -/
section
variable {X : Cx} {Φ : Fr}
def rDIn (b : Bool) : R2 := fun y x H Q => ∃ a o, x = .ref a ∧ DGet H a y o ∧ Q (.bl (if b then !o.isSome else o.isSome)) H
theorem op_din (hu : X.A.units + 1 < cLine) : OpR X (compareOp .In) (rDIn false) := by
  intro pins s σ H y x u v Q I ry rx h
  obtain ⟨a, o, e, g, q⟩ := h
  subst e
  cases rx
  exact d_in hu I g ry fun s3 I3 => ⟨.bl o.isSome, H, I3, rfl, q⟩
theorem op_dnotin (hu : X.A.units + 1 < cLine) : OpR X (compareOp .NotIn) (rDIn true) := by
  intro pins s σ H y x u v Q I ry rx h
  obtain ⟨a, o, e, g, q⟩ := h
  subst e
  cases rx
  exact d_notIn hu I g ry fun s3 I3 => ⟨.bl (!o.isSome), H, I3, rfl, q⟩
def rInA (K : PySem.W.Frag) (b : Bool) : R2 := fun x y H Q => rIn K b x y H Q ∨ rDIn b x y H Q
theorem op_inA (hu : X.A.units + 1 < cLine) : OpR X (compareOp .In) (rInA X.K false) := op_in_seq.or (op_din hu)
theorem op_notinA (hu : X.A.units + 1 < cLine) : OpR X (compareOp .NotIn) (rInA X.K true) := op_notIn_seq.or (op_dnotin hu)
def ifN (b k : Bool) : Bool := if b then !k else k
def inP (b : Bool) : Prim := fun ds R => match ds with
  | [x, .dct kvs] => ∃ k, keyD x = some k ∧ R (.val (.bl (ifN b (lookK kvs k).isSome)))
  | [.tup ks, .dcT kvs] => ∃ k, keyL ks = some k ∧ R (.val (.bl (ifN b (lookK kvs k).isSome)))
  | [x, d] => ∃ ds vx vs, (seqLD d = some ds ∨ seqTD d = some ds) ∧ flat1 x = some vx ∧ flatL ds = some vs ∧ R (.val (.bl (ifN b (inV vx vs))))
  | _ => False
theorem ok_in {b : Bool} : PrimOk2 X (rInA X.K b) (inP b) := by
  intro Hk H x y dx dy P R ex vx vy q k
  unfold inP at q
  split at q
  · rename_i e; cases e
    obtain ⟨key, hk, q⟩ := q
    obtain ⟨a, vs, rfl, hr, rr⟩ := vy.dct ex
    refine .inr ⟨a, valV vs key, rfl, .inl ⟨vs, key, hr, vx.key hk, rfl⟩, ?_⟩
    have e := rr.isSome (k := key)
    show P (.bl (ifN b (valV vs key).isSome)) H
    rw [e]; exact k _ q _ .bl
  · rename_i e; cases e
    obtain ⟨key, hk, q⟩ := q
    obtain ⟨a, vs, rfl, hr, rr⟩ := vy.dcT ex
    obtain ⟨a2, ws, rfl, hr2, rr2⟩ := vx.tup ex
    refine .inr ⟨a, valV vs key, rfl, .inr ⟨vs, key, a2, hr, rfl, by rw [hr2, rr2.keys hk], rfl⟩, ?_⟩
    have e := rr.isSome (k := key)
    show P (.bl (ifN b (valV vs key).isSome)) H
    rw [e]; exact k _ q _ .bl
  · rename_i e; cases e
    obtain ⟨ds, wx, ws, hd, hx, hs, q⟩ := q
    obtain ⟨rfl, fx⟩ := vx.flat hx
    rcases hd with hd | hd
    · obtain ⟨a, vs, rfl, hr, rr⟩ := vy.seqL ex (seqLD_eq hd)
      obtain ⟨rfl, fs⟩ := rr.flat hs
      exact .inl ⟨a, _, rfl, .inl hr, fx, fs, k _ q _ .bl⟩
    · obtain ⟨a, vs, rfl, hr, rr⟩ := vy.seqT ex (seqTD_eq hd)
      obtain ⟨rfl, fs⟩ := rr.flat hs
      exact .inl ⟨a, _, rfl, .inr hr, fx, fs, k _ q _ .bl⟩
  · exact q.elim

/-! ### a[i] -/
def rIxDc : R2 := fun x y H Q => ∃ a v, x = .ref a ∧ DGet H a y (some v) ∧ Q v H
theorem ix_dict (hu : X.A.units + 1 < cLine) : IxR X rIxDc := by
  intro value slice pins s σ H x y v u Q I rx ry h hs
  obtain ⟨a, w, e, g, q⟩ := h
  subst e
  cases rx
  exact tail_any (dict_typeIs I g) PySem.F.slot_dict_getitem.lookup (d_getItem hu I g ry fun w' s3 I3 rw' => ⟨w, H, I3, rw', q⟩) hs
theorem Reps.atI {K : PySem.W.Frag} {H : Hp} {vs : List V} {ds : List D} {i : Int} {d : D} (r : Reps K H vs ds) (h : L2.atI ds i = some d) : ∃ v, L2.atI vs i = some v ∧ Rep K H v d := by
  unfold L2.atI at h ⊢
  rw [r.length]
  obtain ⟨j, hj, hd⟩ := Option.bind_eq_some_iff.mp h
  obtain ⟨v, hv, rv⟩ := r.getD hd
  exact ⟨v, by rw [hj]; exact hv, rv⟩
def rIxA (K : PySem.W.Frag) : R2 := fun x y H Q => rIxL K x y H Q ∨ (rIxT K x y H Q ∨ (rIxS x y H Q ∨ rIxDc x y H Q))
theorem ix_all (hu : X.A.units + 1 < cLine) : IxR X (rIxA X.K) := ix_list.or (IxR.or ix_tup (IxR.or ix_str (ix_dict hu)))
def ixP : Prim := fun ds R => match ds with
  | [.str x, .int i] => x.length ≤ sizeLine ∧ ∃ c, L2.atI x.cps.toList i = some c ∧ R (.val (.str ⟨#[c]⟩))
  | [.dct kvs, y] => ∃ k d, keyD y = some k ∧ lookK kvs k = some d ∧ R (.val d)
  | [.dcT kvs, .tup ks] => ∃ k d, keyL ks = some k ∧ lookK kvs k = some d ∧ R (.val d)
  | [x, .int i] => ∃ ds d, (seqLD x = some ds ∨ seqTD x = some ds) ∧ L2.atI ds i = some d ∧ R (.val d)
  | _ => False
theorem ok_ix : PrimOk2 X (rIxA X.K) ixP := by
  intro Hk H x y dx dy P R ex vx vy q k
  unfold ixP at q
  split at q
  · rename_i e; cases e
    obtain ⟨hz, c, hc, q⟩ := q
    exact .inr (.inr (.inl ⟨_, _, c, vx.str, vy.int, hz, hc, k _ q _ .str⟩))
  · rename_i e; cases e
    obtain ⟨key, d, hk, hl, q⟩ := q
    obtain ⟨a, vs, rfl, hr, rr⟩ := vx.dct ex
    rcases rr.look (k := key) with ⟨h1, h2⟩ | ⟨v, d', h1, h2, r⟩
    · rw [hl] at h2; cases h2
    · rw [hl] at h2; cases h2
      exact .inr (.inr (.inr ⟨a, v, rfl, .inl ⟨vs, key, hr, vy.key hk, h1.symm⟩, k _ q _ r⟩))
  · rename_i e; cases e
    obtain ⟨key, d, hk, hl, q⟩ := q
    obtain ⟨a, vs, rfl, hr, rr⟩ := vx.dcT ex
    obtain ⟨a2, ws, rfl, hr2, rr2⟩ := vy.tup ex
    rcases rr.look (k := key) with ⟨h1, h2⟩ | ⟨v, d', h1, h2, r⟩
    · rw [hl] at h2; cases h2
    · rw [hl] at h2; cases h2
      exact .inr (.inr (.inr ⟨a, v, rfl, .inr ⟨vs, key, a2, hr, rfl, by rw [hr2, rr2.keys hk], h1.symm⟩, k _ q _ r⟩))
  · rename_i e; cases e
    obtain ⟨ds, d, hd, ha, q⟩ := q
    rcases hd with hd | hd
    · obtain ⟨a, vs, rfl, hr, rr⟩ := vx.seqL ex (seqLD_eq hd)
      obtain ⟨v, hv, rv⟩ := rr.atI ha
      exact .inl ⟨a, vs, _, v, rfl, vy.int, hr, hv, k _ q _ rv⟩
    · obtain ⟨a, vs, rfl, hr, rr⟩ := vx.seqT ex (seqTD_eq hd)
      obtain ⟨v, hv, rv⟩ := rr.atI ha
      exact .inr (.inl ⟨a, vs, _, v, rfl, vy.int, hr, hv, k _ q _ rv⟩)
  · exact q.elim

/-! ### slices -/
def cutL {α : Type} (xs : List α) (lo hi : Option Int) : List α := (xs.drop (HT.sIx xs.length 0 lo)).take (HT.sIx xs.length xs.length hi - HT.sIx xs.length 0 lo)
theorem Reps.cut {K : PySem.W.Frag} {H : Hp} {vs : List V} {ds : List D} {lo hi : Option Int} (r : Reps K H vs ds) : Reps K H (cutV vs lo hi) (cutL ds lo hi) := by
  unfold cutV cutL
  rw [r.length]
  exact (r.drop _).take _
abbrev VPo := Rho → (Option Int → Rho → Prop) → Prop
structure RunO (K : PySem.W.Frag) (Φ : Fr) (t : TO) (to : VPo) : Prop where
  run : ∀ ρ (Q : Option Int → Rho → Prop) Hk T σ H (P : Option Int → Hp → Prop), to ρ Q → Holds K Φ Hk ρ T σ H → (∀ i H' Hk' ρ', Same Hk Hk' → Holds K Φ Hk' ρ' T σ H' → Kp σ ρ σ ρ' → Q i ρ' → P i H') → t σ H P
def vNoPart : VPo := fun ρ Q => Q none ρ
def vPart (te : VE) : VPo := fun ρ Q => te ρ fun s ρ1 => ∃ i, s = .sh (.int i) ∧ Q (some i) ρ1
theorem runo_none {K : PySem.W.Frag} {Φ : Fr} : RunO K Φ tNoPart vNoPart := ⟨fun ρ Q Hk T σ H P q hh p => p none H Hk ρ (.refl _) hh (.refl _ _) q⟩
theorem runo_some {e : Expr} {te : VE} (h : PWE X Φ e te) : RunO X.K Φ (tPart (tSem X e)) (vPart te) := ⟨fun ρ Q Hk T σ H P q hh p =>
  h.run ρ _ Hk T σ H _ q hh fun v H1 Hk1 ρ1 s e1 h1 k1 ⟨i, hs, q1⟩ => by
    subst hs
    obtain ⟨v', ev, r⟩ := h1.top
    cases ev; cases r
    exact ⟨i, rfl, p _ H1 Hk1 ρ1 e1 h1.pop k1 q1⟩⟩
def slP (lo hi : Option Int) : Prim := fun ds R => match ds with
  | [.str x] => x.length ≤ sizeLine ∧ R (.val (.str (cutS x lo hi)))
  | [.lst ds] => R (.newL (cutL ds lo hi))
  | [.fls ds] => R (.newL (cutL ds lo hi))
  | _ => False
def rSlA (K : PySem.W.Frag) : V → Option Int → Option Int → Hp → VK → Prop := fun x lo hi H Q => rSlS x lo hi H Q ∨ rSlL K x lo hi H Q
theorem sl_all : SlR X (rSlA X.K) := sl_str.or sl_list
theorem ok_sl {lo hi : Option Int} : PrimOk1 X (fun x H Q => rSlA X.K x lo hi H Q) (slP lo hi) := by
  intro Hk H x dx P R ex vx q k
  unfold slP at q
  split at q
  · rename_i e; cases e
    exact .inl ⟨_, vx.str, q.1, k _ q.2 _ .str⟩
  · rename_i e; cases e
    obtain ⟨a, vs, rfl, hr, rr⟩ := vx.lst ex
    exact .inr ⟨a, vs, rfl, .of hr, fun p hp => k _ q p _ hp rr.cut⟩
  · rename_i e; cases e
    obtain ⟨a, vs, rfl, hr, rr⟩ := vx.fls ex
    exact .inr ⟨a, vs, rfl, hr, fun p hp => k _ q p _ hp rr.cut⟩
  · exact q.elim
def vSl (to : VO) (tl th : VPo) : VE := fun ρ Q => to ρ fun a ρ1 => tl ρ1 fun lo ρ2 => th ρ2 fun hi ρ3 => ∃ d, argD ρ3 a = some d ∧ slP lo hi [d] fun ret => Q ret.slot ρ3
theorem run_sl {e : Expr} {to : VO} {t1 t2 : TO} {tl th : VPo} (ha : PWO X Φ e to) (hl : RunO X.K Φ t1 tl) (hh : RunO X.K Φ t2 th) : RunE X.K Φ (tSl (rSlA X.K) (tSem X e) t1 t2) (vSl to tl th) := ⟨fun ρ Q Hk T σ H P q h0 p =>
  ha.run ρ _ Hk T σ H _ q h0 fun v H1 Hk1 ρ1 a ts e1 g1 h1 k1 q1 => hl.run ρ1 _ Hk1 (ts ++ T) σ H1 _ q1 h1 fun lo H2 Hk2 ρ2 e2 h2 k2 q2 => hh.run ρ2 _ Hk2 (ts ++ T) σ H2 _ q2 h2 fun hi H3 Hk3 ρ3 e3 h3 k3 ⟨d, hd, q3⟩ =>
    ok_sl Hk3 H3 v d P _ h3.ex (ArgAt.view h3 g1 hd) q3 fun ret hr => ret_post h3.drop (p.step (e1.trans (e2.trans e3)) (k1.trans (k2.trans k3))) hr⟩

/-! ### built-ins by name -/
def lenP : Prim := fun ds R => match ds with
  | [.str x] => x.length ≤ sizeLine ∧ R (.val (.int x.length))
  | [.lst ds] => R (.val (.int ds.length))
  | [.fls ds] => R (.val (.int ds.length))
  | [.tup ds] => R (.val (.int ds.length))
  | [.ftp ds] => R (.val (.int ds.length))
  | [.dct ds] => R (.val (.int ds.length))
  | _ => False
def rLenA (K : PySem.W.Frag) : List V → Hp → VK → Prop := fun xs H Q => (∃ x n, xs = [x] ∧ LenV K x H n ∧ Q (.int n) H) ∨ ∃ d kvs, xs = [.ref d] ∧ Rd H d (.dK kvs) ∧ Q (.int kvs.length) H
end
end WL

set_option Elab.async false
set_option linter.all false
set_option maxRecDepth 100000
set_option maxHeartbeats 4000000
/-! W7: built-ins by name, methods of texts, changes of own lists and dicts. -/
namespace WL
open PySem PySem.Spec PyProof.Rows L2
section
variable {X : Cx} {Φ : Fr}
theorem vs1 {K : PySem.W.Frag} {Hk H : Hp} {vs : List V} {d : D} (h : Views K Hk H vs [d]) : ∃ v, vs = [v] ∧ View K Hk H v d := by
  cases h with
  | cons h t => cases t; exact ⟨_, rfl, h⟩
theorem vs2 {K : PySem.W.Frag} {Hk H : Hp} {vs : List V} {d e : D} (h : Views K Hk H vs [d, e]) : ∃ v w, vs = [v, w] ∧ View K Hk H v d ∧ View K Hk H w e := by
  cases h with
  | cons h t =>
    cases t with
    | cons h2 t => cases t; exact ⟨_, _, rfl, h, h2⟩
theorem call_lenA : CallR X (.builtin "len") (rLenA X.K) := by
  intro pins s σ H vs us Q I rv q
  rcases q with q | q
  · exact call_len pins s σ H vs us Q I rv q
  · obtain ⟨a, kvs, rfl, ha, q⟩ := q
    obtain ⟨u, rfl, ru⟩ := vals1 rv
    cases ru
    exact d_len I ha fun t s' I' => ⟨.int kvs.length, H, I', ⟨t, rfl⟩, q⟩
theorem ok_len : PrimOk X (rLenA X.K) lenP := by
  intro Hk H vs ds P R ex vv q k
  unfold lenP at q
  split at q
  · obtain ⟨v, rfl, h⟩ := vs1 vv
    rename_i z
    have e := h.str
    subst e
    exact .inl ⟨.str z, z.length, rfl, ⟨q.1, rfl⟩, k _ q.2 _ .int⟩
  · obtain ⟨v, rfl, h⟩ := vs1 vv
    obtain ⟨a, vs, rfl, hr, rr⟩ := h.lst ex
    exact .inl ⟨_, vs.length, rfl, .inl ⟨_, .of hr, rfl⟩, by rw [rr.length]; exact k _ q _ .int⟩
  · obtain ⟨v, rfl, h⟩ := vs1 vv
    obtain ⟨a, vs, rfl, hr, rr⟩ := h.fls ex
    exact .inl ⟨_, vs.length, rfl, .inl ⟨_, hr, rfl⟩, by rw [rr.length]; exact k _ q _ .int⟩
  · obtain ⟨v, rfl, h⟩ := vs1 vv
    obtain ⟨a, vs, rfl, hr, rr⟩ := h.tup ex
    exact .inl ⟨_, vs.length, rfl, .inr ⟨_, .of hr, rfl⟩, by rw [rr.length]; exact k _ q _ .int⟩
  · obtain ⟨v, rfl, h⟩ := vs1 vv
    obtain ⟨a, vs, rfl, hr, rr⟩ := h.ftp ex
    exact .inl ⟨_, vs.length, rfl, .inr ⟨_, hr, rfl⟩, by rw [rr.length]; exact k _ q _ .int⟩
  · obtain ⟨v, rfl, h⟩ := vs1 vv
    obtain ⟨a, vs, rfl, hr, rr⟩ := h.dct ex
    exact .inr ⟨_, vs, rfl, hr, by rw [rr.length]; exact k _ q _ .int⟩
  · exact q.elim

/-! ints, bools -/
def absP : Prim := fun ds R => match ds with
  | [.int i] => R (.val (.int (if i < 0 then -i else i)))
  | _ => False
theorem ok_abs : PrimOk X (fun xs H Q => ∃ i, xs = [.int i] ∧ Q (.int (if i < 0 then -i else i)) H) absP := by
  intro Hk H vs ds P R ex vv q k
  unfold absP at q
  split at q
  · obtain ⟨v, rfl, h⟩ := vs1 vv
    exact ⟨_, by rw [h.int], k _ q _ .int⟩
  · exact q.elim
def intP : Prim := fun ds R => match ds with
  | [.int i] => R (.val (.int i))
  | [.bl b] => R (.val (.int (if b then 1 else 0)))
  | _ => False
theorem ok_int : PrimOk X (fun xs H Q => (∃ i, xs = [.int i] ∧ Q (.int i) H) ∨ ∃ k, xs = [.bl k] ∧ Q (.int (if k then 1 else 0)) H) intP := by
  intro Hk H vs ds P R ex vv q k
  unfold intP at q
  split at q
  · obtain ⟨v, rfl, h⟩ := vs1 vv
    exact .inl ⟨_, by rw [h.int], k _ q _ .int⟩
  · obtain ⟨v, rfl, h⟩ := vs1 vv
    exact .inr ⟨_, by rw [h.bl], k _ q _ .int⟩
  · exact q.elim
def strP : Prim := fun ds R => match ds with
  | [.int i] => i.natAbs.log2 < 1920 ∧ R (.val (.str (toString i)))
  | [.str x] => R (.val (.str x))
  | _ => False
def rStrA : List V → Hp → VK → Prop := fun xs H Q => (∃ i, xs = [.int i] ∧ i.natAbs.log2 < 1920 ∧ Q (.str (toString i)) H) ∨ ∃ a, xs = [.str a] ∧ Q (.str a) H
theorem call_strA : CallR X (.type "str") rStrA := CallR.or call_str_int SkE.call_str_str
theorem ok_str : PrimOk X rStrA strP := by
  intro Hk H vs ds P R ex vv q k
  unfold strP at q
  split at q
  · obtain ⟨v, rfl, h⟩ := vs1 vv
    exact .inl ⟨_, by rw [h.int], q.1, k _ q.2 _ .str⟩
  · obtain ⟨v, rfl, h⟩ := vs1 vv
    exact .inr ⟨_, by rw [h.str], k _ q _ .str⟩
  · exact q.elim
def reprP : Prim := fun ds R => match ds with
  | [.int i] => i.natAbs.log2 < 1920 ∧ R (.val (.str (toString i)))
  | [.str x] => (reprText x).length ≤ sizeLine ∧ R (.val (.str (reprText x)))
  | [.bl b] => R (.val (.str (if b then "True" else "False")))
  | [.non] => R (.val (.str "None"))
  | _ => False
def rReprA : List V → Hp → VK → Prop := fun xs H Q => ((∃ i, xs = [.int i] ∧ i.natAbs.log2 < 1920 ∧ Q (.str (toString i)) H) ∨ ∃ a, xs = [.str a] ∧ (reprText a).length ≤ sizeLine ∧ Q (.str (reprText a)) H) ∨
  ((∃ b : Bool, xs = [.bl b] ∧ Q (.str (if b then "True" else "False")) H) ∨ (xs = [.non] ∧ Q (.str "None") H))
theorem call_repr_bl : CallR X (.builtin "repr") (fun xs H Q => ∃ b : Bool, xs = [.bl b] ∧ Q (.str (if b then "True" else "False")) H) := by
  intro pins s σ H xs us Q I r h
  obtain ⟨a, rfl, q⟩ := h
  obtain ⟨u, rfl, rv⟩ := vals1 r
  cases rv
  refine PySem.P.repr_of_bool ⟨.str _, H, I.tok _, ?_, q⟩
  cases a <;> exact ⟨_, rfl⟩
theorem call_repr_non : CallR X (.builtin "repr") (fun xs H Q => xs = [.non] ∧ Q (.str "None") H) := by
  intro pins s σ H xs us Q I r h
  obtain ⟨rfl, q⟩ := h
  obtain ⟨u, rfl, rv⟩ := vals1 r
  cases rv
  exact PySem.P.repr_of_none ⟨.str _, H, I.tok _, ⟨_, rfl⟩, q⟩
theorem call_repr_str : CallR X (.builtin "repr") (fun xs H Q => ∃ a, xs = [.str a] ∧ (reprText a).length ≤ sizeLine ∧ Q (.str (reprText a)) H) := by
  intro pins s σ H xs us Q I r h
  obtain ⟨a, rfl, hz, q⟩ := h
  obtain ⟨u, rfl, t, rfl⟩ := vals1 r
  exact PySem.P.repr_of_str ⟨.str _, H, I.tok _, ⟨_, rfl⟩, q⟩ hz
theorem call_reprA : CallR X (.builtin "repr") rReprA := CallR.or (CallR.or SkE.call_repr_int call_repr_str) (CallR.or call_repr_bl call_repr_non)
theorem ok_repr : PrimOk X rReprA reprP := by
  intro Hk H vs ds P R ex vv q k
  unfold reprP at q
  split at q
  · obtain ⟨v, rfl, h⟩ := vs1 vv
    exact .inl (.inl ⟨_, by rw [h.int], q.1, k _ q.2 _ .str⟩)
  · obtain ⟨v, rfl, h⟩ := vs1 vv
    exact .inl (.inr ⟨_, by rw [h.str], q.1, k _ q.2 _ .str⟩)
  · obtain ⟨v, rfl, h⟩ := vs1 vv
    exact .inr (.inl ⟨_, by rw [h.bl], k _ q _ .str⟩)
  · obtain ⟨v, rfl, h⟩ := vs1 vv
    exact .inr (.inr ⟨by rw [h.non], k _ q _ .str⟩)
  · exact q.elim
/-! lists -/
def listP : Prim := fun ds R => match ds with
  | [.dct kvs] => R (.newL (kvs.map fun kv => dK kv.1))
  | [d] => ∃ ds, (seqLD d = some ds ∨ seqTD d = some ds) ∧ R (.newL ds)
  | _ => False
def rListK : List V → Hp → VK → Prop := fun xs H Q => ∃ d kvs, xs = [.ref d] ∧ Rd H d (.dK kvs) ∧ ∀ q, H q = none → Q (.ref q) (upd H q (.lst (kvs.map fun kv => kV kv.1)))
theorem call_list_rd (hc : X.calm = true) : CallR X (.type "list") rListK := by
  intro pins s σ H xs us Q I r ⟨d, kvs, e, hk, q⟩
  subst e
  obtain ⟨u, rfl, rx⟩ := vals1 r
  cases rx
  obtain ⟨z, lo, vs, rk, hd⟩ := dk_rd I.hok hk
  obtain ⟨ep, hat⟩ := hd.dictAt
  have hl : kvs.length = vs.length := rk.length
  refine PySem.W.kdl_call (PySem.W.kdl_dict (knd := mixKind X.prog X.w) (kvs := vs) (ep := ep) lo) (I.ok.hd hc) hat (hl ▸ z) fun h' tk acc' c' hkeep hS hacc => ?_
  have hz : (kvs.map fun kv => kV kv.1).length ≤ sizeLine := by simpa using z
  have hvals : Vals (kvs.map fun kv => kV kv.1) acc'.toList := by
    refine vals_of_at (by simp [hacc.1, hl]) fun j x w h1 h2 => ?_
    obtain ⟨k, y, hky, hi⟩ := hacc.2 j w (by simpa using h2)
    have hj : (kvs.map (·.1))[j]? = some k := by rw [KV.keys rk]; simp [hky]
    have hx : x = kV k := by
      have h3 : ((kvs.map (·.1)).map kV)[j]? = some x := by simpa using h1
      rw [List.getElem?_map, hj] at h3
      exact (Option.some.inj h3).symm
    subst hx
    exact relV_key hi
  have ob : ObjOk X.prog X.w (upd H s.heap.objs.size (.lst (kvs.map fun kv => kV kv.1))) h' s.heap.objs.size (.lst (kvs.map fun kv => kV kv.1)) := ⟨hz, acc'.toList, c', hvals, by simpa using hS⟩
  exact ⟨.ref _, _, I.laid hkeep (Nat.le_refl _) ob, rfl, q _ (I.hok.fresh (Nat.le_refl _))⟩
def rListA (K : PySem.W.Frag) : List V → Hp → VK → Prop := fun xs H Q => (∃ p ys, xs = [.ref p] ∧ (SqL K H p ys ∨ SqT K H p ys) ∧ ∀ l, H l = none → Q (.ref l) (upd H l (.lst ys))) ∨ rListK xs H Q
theorem call_listA (hc : X.calm = true) : CallR X (.type "list") (rListA X.K) := CallR.or call_list_of (call_list_rd hc)
theorem Reps.ofKeys {K : PySem.W.Frag} {H : Hp} : ∀ (ks : List Key), Reps K H (ks.map kV) (ks.map dK)
  | [] => .nil
  | .inl _ :: r => .cons .int (Reps.ofKeys r)
  | .inr _ :: r => .cons .str (Reps.ofKeys r)
theorem ok_list : PrimOk X (rListA X.K) listP := by
  intro Hk H vs ds P R ex vv q k
  unfold listP at q
  split at q
  · obtain ⟨v, rfl, h⟩ := vs1 vv
    obtain ⟨a, ws, rfl, hr, rr⟩ := h.dct ex
    refine .inr ⟨a, ws, rfl, hr, fun p hp => k _ q p _ hp ?_⟩
    rename_i kvs
    have e2 : (ws.map fun kv => kV kv.1) = (ws.map (·.1)).map kV := by simp
    have e3 : (kvs.map fun kv => dK kv.1) = (kvs.map (·.1)).map dK := by simp
    rw [e2, e3, rr.keys]
    exact Reps.ofKeys _
  · obtain ⟨v, rfl, h⟩ := vs1 vv
    obtain ⟨ds, hd, q⟩ := q
    rcases hd with hd | hd
    · obtain ⟨a, ws, rfl, hr, rr⟩ := h.seqL ex (seqLD_eq hd)
      exact .inl ⟨a, ws, rfl, .inl hr, fun p hp => k _ q p _ hp rr⟩
    · obtain ⟨a, ws, rfl, hr, rr⟩ := h.seqT ex (seqTD_eq hd)
      exact .inl ⟨a, ws, rfl, .inr hr, fun p hp => k _ q p _ hp rr⟩
  · exact q.elim

def sumP : Prim := fun ds R => ∃ (d : D) (l : List D) (ns : List Int), ds = [d] ∧ seqLD d = some l ∧ l = ns.map D.int ∧ R (.val (.int ns.sum))
theorem ok_sum : PrimOk X (rSum X.K) sumP := by
  intro Hk H vs ds P R ex vv ⟨d, l, ns, e, hd, hl, q⟩ k
  subst e; subst hl
  obtain ⟨v, rfl, h⟩ := vs1 vv
  obtain ⟨a, ws, rfl, hr, rr⟩ := h.seqL ex (seqLD_eq hd)
  rw [rr.ints] at hr
  exact ⟨a, ns, rfl, hr, k _ q _ .int⟩
def maxP : Prim := fun ds R => match ds with
  | [.int i, .int j] => R (.val (.int (if j > i then j else i)))
  | [d] => ∃ (l : List D) (ns : List Int), seqLD d = some l ∧ l = ns.map D.int ∧ ns ≠ [] ∧ ∀ m, m ∈ ns → (∀ y ∈ ns, y ≤ m) → R (.val (.int m))
  | _ => False
def rMaxA (K : PySem.W.Frag) : List V → Hp → VK → Prop := fun xs H Q => (∃ i j, xs = [.int i, .int j] ∧ Q (.int (if j > i then j else i)) H) ∨ rMax K xs H Q
theorem call_maxA (hc : X.calm = true) : CallR X (.builtin "max") (rMaxA X.K) := CallR.or (call_max2 hc) (cr_max hc)
theorem ok_max : PrimOk X (rMaxA X.K) maxP := by
  intro Hk H vs ds P R ex vv q k
  unfold maxP at q
  split at q
  · obtain ⟨v, w, rfl, h, h2⟩ := vs2 vv
    exact .inl ⟨_, _, by rw [h.int, h2.int], k _ q _ .int⟩
  · obtain ⟨l, ns, hd, hl, hn, q⟩ := q
    subst hl
    obtain ⟨v, rfl, h⟩ := vs1 vv
    obtain ⟨a, ws, rfl, hr, rr⟩ := h.seqL ex (seqLD_eq hd)
    rw [rr.ints] at hr
    exact .inr ⟨a, ns, rfl, hr, List.length_pos_iff.mpr hn, fun m h1 h2 => k _ (q m h1 h2) _ .int⟩
  · exact q.elim
def minP : Prim := fun ds R => match ds with
  | [.int i, .int j] => R (.val (.int (if j < i then j else i)))
  | [d] => ∃ (l : List D) (ns : List Int), seqLD d = some l ∧ l = ns.map D.int ∧ ns ≠ [] ∧ ∀ m, m ∈ ns → (∀ y ∈ ns, m ≤ y) → R (.val (.int m))
  | _ => False
def rMinA (K : PySem.W.Frag) : List V → Hp → VK → Prop := fun xs H Q => (∃ i j, xs = [.int i, .int j] ∧ Q (.int (if j < i then j else i)) H) ∨ rMin K xs H Q
theorem call_minA (hc : X.calm = true) : CallR X (.builtin "min") (rMinA X.K) := CallR.or (call_min2 hc) (cr_min hc)
theorem ok_min : PrimOk X (rMinA X.K) minP := by
  intro Hk H vs ds P R ex vv q k
  unfold minP at q
  split at q
  · obtain ⟨v, w, rfl, h, h2⟩ := vs2 vv
    exact .inl ⟨_, _, by rw [h.int, h2.int], k _ q _ .int⟩
  · obtain ⟨l, ns, hd, hl, hn, q⟩ := q
    subst hl
    obtain ⟨v, rfl, h⟩ := vs1 vv
    obtain ⟨a, ws, rfl, hr, rr⟩ := h.seqL ex (seqLD_eq hd)
    rw [rr.ints] at hr
    exact .inr ⟨a, ns, rfl, hr, List.length_pos_iff.mpr hn, fun m h1 h2 => k _ (q m h1 h2) _ .int⟩
  · exact q.elim
/-- all, any of truths -/
def allP : Prim := fun ds R => ∃ (d : D) (l : List D) (bs : List Bool), ds = [d] ∧ seqLD d = some l ∧ l = bs.map D.bl ∧ R (.val (.bl (bs.all id)))
theorem ok_all : PrimOk X (rAll X.K) allP := by
  intro Hk H vs ds P R ex vv ⟨d, l, bs, e, hd, hl, q⟩ k
  subst e; subst hl
  obtain ⟨v, rfl, h⟩ := vs1 vv
  obtain ⟨a, ws, rfl, hr, rr⟩ := h.seqL ex (seqLD_eq hd)
  rw [rr.bls] at hr
  exact ⟨a, bs, rfl, hr, k _ q _ .bl⟩
def anyP : Prim := fun ds R => ∃ (d : D) (l : List D) (bs : List Bool), ds = [d] ∧ seqLD d = some l ∧ l = bs.map D.bl ∧ R (.val (.bl (bs.any id)))
theorem ok_any : PrimOk X (rAny X.K) anyP := by
  intro Hk H vs ds P R ex vv ⟨d, l, bs, e, hd, hl, q⟩ k
  subst e; subst hl
  obtain ⟨v, rfl, h⟩ := vs1 vv
  obtain ⟨a, ws, rfl, hr, rr⟩ := h.seqL ex (seqLD_eq hd)
  rw [rr.bls] at hr
  exact ⟨a, bs, rfl, hr, k _ q _ .bl⟩
/-- sorted: ints, texts below 64 -/
def sortedP : Prim := fun ds R => ∃ (d : D) (l : List D), ds = [d] ∧ seqLD d = some l ∧ ((∃ (ns : List Int), l = ns.map D.int ∧ ∀ ms : List Int, ms.Perm ns → ms.Pairwise (· ≤ ·) → R (.newL (ms.map D.int))) ∨
  ∃ (xs : List Str), l = xs.map D.str ∧ xs.length < 64 ∧ ∀ ys : List Str, ys.Perm xs → sortedS ys = true → R (.newL (ys.map D.str)))
def rSortedA (K : PySem.W.Frag) : List V → Hp → VK → Prop := fun xs H Q => rSortedI K xs H Q ∨ rSortedS K xs H Q
theorem call_sortedA : CallR X (.builtin "sorted") (rSortedA X.K) := CallR.or cr_sortedI cr_sortedS
theorem ok_sorted : PrimOk X (rSortedA X.K) sortedP := by
  intro Hk H vs ds P R ex vv ⟨d, l, e, hd, q⟩ k
  subst e
  obtain ⟨v, rfl, h⟩ := vs1 vv
  obtain ⟨a, ws, rfl, hr, rr⟩ := h.seqL ex (seqLD_eq hd)
  rcases q with ⟨ns, hl, q⟩ | ⟨xs, hl, hz, q⟩
  · subst hl
    rw [rr.ints] at hr
    exact .inl ⟨a, ns, rfl, hr, fun ms p h1 h2 hp => k _ (q ms h1 h2) p _ hp (Reps.of_ints ms)⟩
  · subst hl
    rw [rr.strs] at hr
    exact .inr ⟨a, xs, rfl, hr, hz, fun ms p h1 h2 hp => k _ (q ms h1 h2) p _ hp (Reps.of_strs ms)⟩
def tupleP : Prim := fun ds R => match ds with
  | [.lst l] => R (.newT l)
  | _ => False
theorem ok_tuple : PrimOk X (fun xs H Q => ∃ p ys, xs = [.ref p] ∧ ((SqL X.K H p ys ∧ ∀ l, H l = none → Q (.ref l) (upd H l (.tup ys))) ∨ (SqT X.K H p ys ∧ Q (.ref p) H))) tupleP := by
  intro Hk H vs ds P R ex vv q k
  unfold tupleP at q
  split at q
  · obtain ⟨v, rfl, h⟩ := vs1 vv
    obtain ⟨a, ws, rfl, hr, rr⟩ := h.lst ex
    exact ⟨a, ws, rfl, .inl ⟨.of hr, fun p hp => k _ q p _ hp rr⟩⟩
  · exact q.elim
/-- dict of pairs -/
def pairsD : List D → Option (List (Key × D))
  | [] => some []
  | .tup [k, d] :: r => match keyD k, pairsD r with
    | some k, some r => some ((k, d) :: r)
    | _, _ => none
  | _ => none
def putD {κ α : Type} [DecidableEq κ] (kvs : List (κ × α)) (k : κ) (v : α) : List (κ × α) :=
  if (kvs.any fun kv => decide (kv.1 = k)) = true then kvs.map (fun kv => if kv.1 = k then (kv.1, v) else kv) else kvs ++ [(k, v)]
def mergeD {α : Type} (kvs more : List (Key × α)) : List (Key × α) := more.foldl (fun acc kv => putD acc kv.1 kv.2) kvs
section
variable {K : PySem.W.Frag} {Φ : Fr} {H : Hp}
theorem RepK.any : ∀ {vs : List (Key × V)} {ds : List (Key × D)} {k : Key}, RepK K H vs ds → (vs.any fun kv => decide (kv.1 = k)) = (ds.any fun kv => decide (kv.1 = k))
  | _, _, _, .nil => rfl
  | _, _, k, .cons (vs := vs) (ds := ds) _ t => by rw [List.any_cons, List.any_cons, RepK.any t]
theorem RepK.repl {v : V} {d : D} (r : Rep K H v d) : ∀ {vs : List (Key × V)} {ds : List (Key × D)} {k : Key}, RepK K H vs ds → RepK K H (vs.map fun kv => if kv.1 = k then (kv.1, v) else kv) (ds.map fun kv => if kv.1 = k then (kv.1, d) else kv)
  | _, _, _, .nil => .nil
  | _, _, k, .cons (k := j) (vs := vs) (ds := ds) h t => by
    rw [List.map_cons, List.map_cons]
    by_cases e : j = k
    · rw [if_pos e, if_pos e]; exact .cons r (RepK.repl r t)
    · rw [if_neg e, if_neg e]; exact .cons h (RepK.repl r t)
theorem RepK.append : ∀ {vs ws : List (Key × V)} {ds es : List (Key × D)}, RepK K H vs ds → RepK K H ws es → RepK K H (vs ++ ws) (ds ++ es)
  | _, _, _, _, .nil, h => h
  | _, _, _, _, .cons h t, h2 => .cons h (RepK.append t h2)
theorem RepK.put {v : V} {d : D} {vs : List (Key × V)} {ds : List (Key × D)} {k : Key} (h : RepK K H vs ds) (r : Rep K H v d) : RepK K H (putK vs k v) (putD ds k d) := by
  unfold putK putD
  rw [h.any]
  split
  · exact h.repl r
  · exact h.append (.cons r .nil)
theorem RepK.merge : ∀ {ws vs : List (Key × V)} {es ds : List (Key × D)}, RepK K H vs ds → RepK K H ws es → RepK K H (mergeK vs ws) (mergeD ds es)
  | [], _, [], _, h, .nil => h
  | (k, v) :: ws, vs, (_, d) :: es, ds, h, .cons r t => RepK.merge (ws := ws) (es := es) (vs := putK vs k v) (ds := putD ds k d) (h.put r) t
theorem RepT.any : ∀ {vs : List (List Key × V)} {ds : List (List Key × D)} {k : List Key}, RepT K H vs ds → (vs.any fun kv => decide (kv.1 = k)) = (ds.any fun kv => decide (kv.1 = k))
  | _, _, _, .nil => rfl
  | _, _, k, .cons (vs := vs) (ds := ds) _ t => by rw [List.any_cons, List.any_cons, RepT.any t]
theorem RepT.repl {v : V} {d : D} (r : Rep K H v d) : ∀ {vs : List (List Key × V)} {ds : List (List Key × D)} {k : List Key}, RepT K H vs ds → RepT K H (vs.map fun kv => if kv.1 = k then (kv.1, v) else kv) (ds.map fun kv => if kv.1 = k then (kv.1, d) else kv)
  | _, _, _, .nil => .nil
  | _, _, k, .cons (k := j) (vs := vs) (ds := ds) h t => by
    rw [List.map_cons, List.map_cons]
    by_cases e : j = k
    · rw [if_pos e, if_pos e]; exact .cons r (RepT.repl r t)
    · rw [if_neg e, if_neg e]; exact .cons h (RepT.repl r t)
theorem RepT.append : ∀ {vs ws : List (List Key × V)} {ds es : List (List Key × D)}, RepT K H vs ds → RepT K H ws es → RepT K H (vs ++ ws) (ds ++ es)
  | _, _, _, _, .nil, h => h
  | _, _, _, _, .cons h t, h2 => .cons h (RepT.append t h2)
theorem RepT.put {v : V} {d : D} {vs : List (List Key × V)} {ds : List (List Key × D)} {k : List Key} (h : RepT K H vs ds) (r : Rep K H v d) : RepT K H (putK vs k v) (putD ds k d) := by
  unfold putK putD
  rw [h.any]
  split
  · exact h.repl r
  · exact h.append (.cons r .nil)
theorem Reps.pairs : ∀ {vs : List V} {ds : List D} {kds : List (Key × D)}, Reps K H vs ds → pairsD ds = some kds → ∃ (ps : List Addr) (kvs : List (Key × V)), vs = ps.map V.ref ∧ Paired (fun p kv => SqT K H p [kV kv.1, kv.2]) ps kvs ∧ RepK K H kvs kds
  | _, _, _, .nil, e => by cases e; exact ⟨[], [], rfl, .nil, .nil⟩
  | _, _, kds, .cons (d := d) h t, e => by
    unfold pairsD at e
    split at e
    · rename_i heq; cases heq
    · rename_i ds k d r heq
      cases heq
      split at e
      · rename_i k' r' h1 h2
        cases e
        obtain ⟨ps, kvs, e1, p1, r1⟩ := t.pairs h2
        cases h with
        | tup hh rr =>
          cases rr with
          | cons ra rt =>
            cases rt with
            | cons rb rt =>
              cases rt
              have ek := ra.key h1
              subst ek; subst e1
              exact ⟨_ :: ps, (k', _) :: kvs, rfl, .cons (.of hh) p1, .cons rb r1⟩
      · cases e
    · cases e
end
def dictP : Prim := fun ds R => ∃ (d : D) (l : List D) (kvs : List (Key × D)), ds = [d] ∧ seqLD d = some l ∧ pairsD l = some kvs ∧ R (.newD (mergeD [] kvs))
theorem ok_dict : PrimOk X (fun xs H Q => ∃ (a : Addr) (ps : List Addr) (kvs : List (Key × V)), xs = [.ref a] ∧ SqL X.K H a (ps.map V.ref) ∧ Paired (fun p kv => SqT X.K H p [kV kv.1, kv.2]) ps kvs ∧ ∀ p, H p = none → Q (.ref p) (upd H p (.dK (mergeK [] kvs)))) dictP := by
  intro Hk H vs ds P R ex vv ⟨d, l, kvs, e, hd, hp, q⟩ k
  subst e
  obtain ⟨v, rfl, h⟩ := vs1 vv
  obtain ⟨a, ws, rfl, hr, rr⟩ := h.seqL ex (seqLD_eq hd)
  obtain ⟨ps, kws, rfl, pp, rk⟩ := (rr.mono ex).pairs hp
  obtain ⟨ps', kws', e1, pp', rk'⟩ := rr.pairs hp
  have e2 : ps = ps' := by
    have inj : ∀ {a b : List Addr}, a.map V.ref = b.map V.ref → a = b := fun {a b} h => (List.map_inj_right (fun x y z => by injection z)).mp h
    exact inj e1
  subst e2
  refine ⟨a, ps, kws', rfl, hr, ?_, fun p hp => k _ q p _ hp (RepK.merge .nil rk')⟩
  exact Paired.mapP pp' fun p kv hq => Same.sqT ex hq
/-- isinstance -/
def tyD : D → Option String
  | .non => some "NoneType"
  | .bl _ => some "bool"
  | .int _ => some "int"
  | .str _ => some "str"
  | .lst _ => some "list"
  | .fls _ => some "list"
  | .tup _ => some "tuple"
  | .ftp _ => some "tuple"
  | .dct _ => some "dict"
  | _ => none
theorem View.tyx {K : PySem.W.Frag} {Hk H : Hp} {v : V} {d : D} {t : String} (ex : Same Hk H) (h : View K Hk H v d) (e : tyD d = some t) : TyX K H v (.type t) := by
  cases d with
  | non => rw [h.non]; cases e; exact .base .non
  | bl b => rw [h.bl]; cases e; exact .base (.bl b)
  | int b => rw [h.int]; cases e; exact .base (.int b)
  | str b => rw [h.str]; cases e; exact .base (.str b)
  | lst l => obtain ⟨a, vs, rfl, hr, _⟩ := h.lst ex; cases e; exact .base (.lst hr)
  | tup l => obtain ⟨a, vs, rfl, hr, _⟩ := h.tup ex; cases e; exact .base (.tup hr)
  | fls l =>
    obtain ⟨a, vs, rfl, hr, _⟩ := h.fls ex; cases e
    rcases hr with (hr | ⟨o, hr⟩) | ⟨o, its, n, hk, hc, _⟩
    · exact .base (.lst hr)
    · exact .base (.frz hr)
    · exact .kList hk hc
  | ftp l =>
    obtain ⟨a, vs, rfl, hr, _⟩ := h.ftp ex; cases e
    rcases hr with (hr | ⟨o, hr⟩) | ⟨o, its, n, hk, hc, _⟩
    · exact .base (.tup hr)
    · exact .fTuple hr
    · exact .kTuple hk hc
  | dct l =>
    obtain ⟨a, vs, rfl, hr, _⟩ := h.dct ex; cases e
    rcases hr with hr | ⟨o, hr⟩
    · exact .base (.dK hr)
    · exact .fDict hr
  | dcT l => cases e
  | opq v => cases e
def kitAnyB (t : String) : List String → Option Bool
  | [] => some false
  | c :: r => match kitB t c with
    | some true => some true
    | some false => kitAnyB t r
    | none => none
def isiP : Prim := fun ds R => ∃ (d : D) (T t : String) (b : Bool), ds = [d, .opq (.ty T)] ∧ tyD d = some t ∧ kitB t T = some b ∧ R (.val (.bl b))
def isiTP : Prim := fun ds R => ∃ (d : D) (Ts : List String) (t : String) (b : Bool), ds = [d, .tup (Ts.map fun n => .opq (.ty n))] ∧ tyD d = some t ∧ kitAnyB t Ts = some b ∧ R (.val (.bl b))
theorem View.opq {K : PySem.W.Frag} {Hk H : Hp} {v w : V} (h : View K Hk H v (.opq w)) : v = w := by
  generalize e : D.opq w = d at h
  cases h with
  | known r => subst e; cases r; rfl
  | own r => cases r <;> cases e
theorem ok_isi : PrimOk X (rIsi X.K) isiP := by
  intro Hk H vs ds P R ex vv ⟨d, T, t, b, e, ht, hk, q⟩ k
  subst e
  obtain ⟨v, w, rfl, h, h2⟩ := vs2 vv
  have := h2.opq
  subst this
  exact ⟨v, .ty T, .type t, .type T, b, rfl, .ty T, h.tyx ex ht, kit_ty hk, k _ q _ .bl⟩
theorem Reps.tys {K : PySem.W.Frag} {H : Hp} : ∀ {vs : List V} {Ts : List String}, Reps K H vs (Ts.map fun n => .opq (.ty n)) → Paired ClsV vs (Ts.map Value.type) ∧ vs = Ts.map V.ty
  | _, [], .nil => ⟨.nil, rfl⟩
  | _, T :: Ts, .cons h t => by
    cases h
    obtain ⟨h1, h2⟩ := t.tys
    exact ⟨.cons (.ty T) h1, by rw [h2]; rfl⟩
theorem kitAny_of {K : PySem.W.Frag} {t : String} : ∀ {Ts : List String} {b : Bool}, kitAnyB t Ts = some b → PySem.W.kitAny K (.type t) (Ts.map Value.type) = some b
  | [], b, e => by cases e; rfl
  | T :: Ts, b, e => by
    unfold kitAnyB at e
    split at e
    · rename_i h; cases e
      exact kitAny_cons (kit_ty h) (fun z => by cases z) fun _ => rfl
    · rename_i h
      exact kitAny_cons (kit_ty h) (fun _ => kitAny_of e) fun z => by cases z
    · cases e
theorem ok_isiT : PrimOk X (rIsiT X.K) isiTP := by
  intro Hk H vs ds P R ex vv ⟨d, Ts, t, b, e, ht, hk, q⟩ k
  subst e
  obtain ⟨v, w, rfl, h, h2⟩ := vs2 vv
  obtain ⟨a, us, rfl, hr, rr⟩ := h2.tup ex
  obtain ⟨h3, h4⟩ := rr.tys
  exact ⟨v, a, us, .type t, _, b, rfl, hr, h3, h.tyx ex ht, kitAny_of hk, k _ q _ .bl⟩
end
end WL

set_option Elab.async false
set_option linter.all false
set_option maxRecDepth 100000
set_option maxHeartbeats 4000000
/-! W8: changes of own lists and dicts, joins, gets, truth of data. -/
namespace WL
open PySem PySem.Spec PyProof.Rows L2

section
variable {K : PySem.W.Frag} {Φ : Fr} {Hk H : Hp} {ρ : Rho} {T : List Cell} {σ : L2.St} {i : Nat} {b : Bool}
theorem kp_ow {o o' : Own} (e : ρ[i]? = some (.ow b o)) : Kp σ ρ σ (ρ.set i (.ow b o')) := kp_set e fun o1 z => by cases z; exact ⟨o', rfl⟩
theorem Holds.mutL {ds : List D} (h : Holds K Φ Hk ρ T σ H) (e : ρ[i]? = some (.ow b (.lst ds))) : ∃ p vs, σ[i]? = some (some (.ref p)) ∧ H p = some (.lst vs) ∧ Reps K Hk vs ds ∧
    ∀ vs' ds', Reps K Hk vs' ds' → Holds K Φ Hk (ρ.set i (.ow b (.lst ds'))) T σ (upd H p (.lst vs')) := by
  obtain ⟨v, R, ev, h1, back⟩ := h.at' e
  obtain ⟨p, vs, ex, hp, r, k⟩ := h1.lst
  subst ex
  exact ⟨p, vs, ev, hp, r, fun vs' ds' r' => back _ _ _ (k vs' ds' r') (.refl _) (kp_ow e)⟩
theorem Holds.mutD {ds : List (Key × D)} (h : Holds K Φ Hk ρ T σ H) (e : ρ[i]? = some (.ow b (.dct ds))) : ∃ p vs, σ[i]? = some (some (.ref p)) ∧ H p = some (.dK vs) ∧ RepK K Hk vs ds ∧
    ∀ vs' ds', RepK K Hk vs' ds' → Holds K Φ Hk (ρ.set i (.ow b (.dct ds'))) T σ (upd H p (.dK vs')) := by
  obtain ⟨v, R, ev, h1, back⟩ := h.at' e
  obtain ⟨p, vs, ex, hp, r, k⟩ := h1.dct
  subst ex
  exact ⟨p, vs, ev, hp, r, fun vs' ds' r' => back _ _ _ (k vs' ds' r') (.refl _) (kp_ow e)⟩
end

section
variable {X : Cx} {Φ : Fr} {e k : Expr} {te tk : VE}
/-- x.append(e) -/
def vApp (i : Nat) (te : VE) : VE := fun ρ Q => (∃ b ds, ρ[i]? = some (.ow b (.lst ds))) ∧ te ρ fun s ρ1 => ∃ b ds d, ρ1[i]? = some (.ow b (.lst ds)) ∧ slotD s = some d ∧ ds.length < sizeLine ∧ Q (.sh .non) (ρ1.set i (.ow b (.lst (ds ++ [d]))))
theorem run_app (i : Nat) (h : PWE X Φ e te) : RunE X.K Φ (tBM X.K "list" rAppend (tVar i) (tCons (tSem X e) tNil)) (vApp i te) := ⟨fun ρ Q Hk T σ H P ⟨⟨b0, ds0, e0⟩, q⟩ hh p => by
  obtain ⟨p0, vs0, ev, hp0, _, _⟩ := hh.mutL e0
  refine ⟨.ref p0, ev, .inl ⟨rfl, vs0, .of hp0⟩, h.run ρ _ Hk T σ H _ q hh fun v H1 Hk1 ρ1 s e1 h1 k1 ⟨b, ds, d, e2, hs, hz, q1⟩ => ?_⟩
  obtain ⟨Hk2, e3, rd, h2⟩ := h1.know_top hs
  obtain ⟨p1, vs1, ev1, hp1, r1, mu⟩ := h2.mutL e2
  rw [ev] at ev1; cases ev1
  exact ⟨p0, vs1, v, rfl, rfl, hp1, by rw [r1.length]; exact hz, p _ _ Hk2 _ _ (e1.trans e3) ((mu _ _ (r1.append (.one rd))).sh .non) (k1.trans (kp_ow e2)) q1⟩⟩
/-- x.pop() -/
def vPop (i : Nat) : VE := fun ρ Q => ∃ b ds d, ρ[i]? = some (.ow b (.lst ds)) ∧ ds[ds.length - 1]? = some d ∧ Q (.sh d) (ρ.set i (.ow b (.lst ds.dropLast)))
theorem run_pop (i : Nat) : RunE X.K Φ (tBM0 X.K "list" rPop (tVar i)) (vPop i) := ⟨fun ρ Q Hk T σ H P ⟨b, ds, d, e0, hd, q⟩ hh p => by
  obtain ⟨p0, vs0, ev, hp0, r0, mu⟩ := hh.mutL e0
  obtain ⟨v, hv, rv⟩ := r0.getD hd
  exact ⟨.ref p0, ev, .inl ⟨rfl, vs0, .of hp0⟩, p0, vs0, v, rfl, rfl, hp0, by rw [r0.length]; exact hv, p _ _ Hk _ _ (.refl _) ((mu _ _ r0.dropLast).sh rv) (kp_ow e0) q⟩⟩
/-- x.pop(k) -/
def vPopAt (i : Nat) (tk : VE) : VE := fun ρ Q => (∃ b ds, ρ[i]? = some (.ow b (.lst ds))) ∧ tk ρ fun s ρ1 => ∃ (k : Int) (j : Nat) (b : Bool) (ds : List D) (d : D), s = .sh (.int k) ∧ ρ1[i]? = some (.ow b (.lst ds)) ∧
  (-(2 ^ 63) ≤ k ∧ k < 2 ^ 63) ∧ seqIndex? k ds.length = some j ∧ ds[j]? = some d ∧ Q (.sh d) (ρ1.set i (.ow b (.lst (ds.eraseIdx j))))
theorem run_popAt (i : Nat) (h : PWE X Φ e te) : RunE X.K Φ (tBM X.K "list" rPopAt (tVar i) (tCons (tSem X e) tNil)) (vPopAt i te) := ⟨fun ρ Q Hk T σ H P ⟨⟨b0, ds0, e0⟩, q⟩ hh p => by
  obtain ⟨p0, vs0, ev, hp0, _, _⟩ := hh.mutL e0
  refine ⟨.ref p0, ev, .inl ⟨rfl, vs0, .of hp0⟩, h.run ρ _ Hk T σ H _ q hh fun v H1 Hk1 ρ1 s e1 h1 k1 ⟨k, j, b, ds, d, hs, e2, hz, hj, hd, q1⟩ => ?_⟩
  subst hs
  obtain ⟨v', ev', rv⟩ := h1.top
  cases ev'; cases rv
  obtain ⟨p1, vs1, ev1, hp1, r1, mu⟩ := h1.pop.mutL e2
  rw [ev] at ev1; cases ev1
  obtain ⟨w, hw, rw'⟩ := r1.getD hd
  exact ⟨p0, vs1, k, j, w, rfl, rfl, hp1, hz.1, hz.2, by rw [r1.length]; exact hj, hw, p _ _ Hk1 _ _ e1 ((mu _ _ (r1.eraseIdx j)).sh rw') (k1.trans (kp_ow e2)) q1⟩⟩
/-- x.extend(e) -/
def vExt (i : Nat) (te : VE) : VE := fun ρ Q => (∃ b ds, ρ[i]? = some (.ow b (.lst ds))) ∧ te ρ fun s ρ1 => ∃ b ds es, ρ1[i]? = some (.ow b (.lst ds)) ∧ slotD s = some (.lst es) ∧ ds.length + es.length ≤ sizeLine ∧ Q (.sh .non) (ρ1.set i (.ow b (.lst (ds ++ es))))
theorem run_ext (i : Nat) (h : PWE X Φ e te) : RunE X.K Φ (tBM X.K "list" rExtend (tVar i) (tCons (tSem X e) tNil)) (vExt i te) := ⟨fun ρ Q Hk T σ H P ⟨⟨b0, ds0, e0⟩, q⟩ hh p => by
  obtain ⟨p0, vs0, ev, hp0, _, _⟩ := hh.mutL e0
  refine ⟨.ref p0, ev, .inl ⟨rfl, vs0, .of hp0⟩, h.run ρ _ Hk T σ H _ q hh fun v H1 Hk1 ρ1 s e1 h1 k1 ⟨b, ds, es, e2, hs, hz, q1⟩ => ?_⟩
  obtain ⟨Hk2, e3, rd, h2⟩ := h1.know_top hs
  obtain ⟨p1, vs1, ev1, hp1, r1, mu⟩ := h2.mutL e2
  rw [ev] at ev1; cases ev1
  cases rd with
  | lst hq rq => exact ⟨p0, _, vs1, _, rfl, rfl, hp1, h2.ex _ _ hq, by rw [r1.length, rq.length]; exact hz, p _ _ Hk2 _ _ (e1.trans e3) ((mu _ _ (r1.append rq)).sh .non) (k1.trans (kp_ow e2)) q1⟩⟩

/-! ### statements -/
variable {st : Stmt}
/-- x[k] = e, a list -/
def vSetL (i : Nat) (tk te : VE) : VS := fun R ρ => te ρ fun s ρ1 => (∃ b ds, ρ1[i]? = some (.ow b (.lst ds))) ∧ tk ρ1 fun sk ρ2 => ∃ (k : Int) (j : Nat) (b : Bool) (ds : List D) (d : D), sk = .sh (.int k) ∧ ρ2[i]? = some (.ow b (.lst ds)) ∧ ixN ds.length k = some j ∧ slotD s = some d ∧
  R.nx (ρ2.set i (.ow b (.lst (ds.set j d))))
theorem pws_setL (i : Nat) (hp : PS X st (tAsg (tSem X e) (gSub (tVar i) (tSem X k) rSetL))) (hk : PWE X Φ k tk) (h : PWE X Φ e te) : PWS X Φ st (vSetL i tk te) := ⟨fun ρ R Hk T σ H D q hh o => tSemS_of hp
  (h.run ρ _ Hk T σ H _ q hh fun v H1 Hk1 ρ1 s e1 h1 k1 ⟨⟨b0, ds0, e0⟩, q1⟩ => by
    obtain ⟨p0, vs0, ev, hp0, _, _⟩ := h1.mutL e0
    refine ⟨.ref p0, ev, hk.run ρ1 _ Hk1 ((some v, s) :: T) σ H1 _ q1 h1 fun u H2 Hk2 ρ2 sk e2 h2 k2 ⟨k, j, b, ds, d, hs, e3, hj, hd, q2⟩ => ?_⟩
    subst hs
    obtain ⟨v', ev', rv⟩ := h2.top
    cases ev'; cases rv
    obtain ⟨Hk3, e4, rd, h3⟩ := h2.pop.know_top hd
    obtain ⟨p1, vs1, ev1, hp1, r1, mu⟩ := h3.mutL e3
    rw [ev] at ev1; cases ev1
    exact ⟨p0, vs1, k, j, rfl, rfl, hp1, by rw [r1.length]; exact hj, o.nx σ _ Hk3 _ (e1.trans (e2.trans e4)) (mu _ _ (r1.set rd j)) (k1.trans (k2.trans (kp_ow e3))) q2⟩)⟩
/-- x[k] = e, a dict -/
def vPutD (i : Nat) (tk te : VE) : VS := fun R ρ => te ρ fun s ρ1 => (∃ b ds, ρ1[i]? = some (.ow b (.dct ds))) ∧ tk ρ1 fun sk ρ2 => ∃ (kd : D) (key : Key) (b : Bool) (ds : List (Key × D)) (d : D), sk = .sh kd ∧ keyD kd = some key ∧ ρ2[i]? = some (.ow b (.dct ds)) ∧ ds.length < sizeLine ∧ slotD s = some d ∧
  R.nx (ρ2.set i (.ow b (.dct (putD ds key d))))
theorem pws_putD (i : Nat) (hp : PS X st (sDPut (tVar i) (tSem X k) (tSem X e))) (hk : PWE X Φ k tk) (h : PWE X Φ e te) : PWS X Φ st (vPutD i tk te) := ⟨fun ρ R Hk T σ H D q hh o => tSemS_of hp
  (h.run ρ _ Hk T σ H _ q hh fun v H1 Hk1 ρ1 s e1 h1 k1 ⟨⟨b0, ds0, e0⟩, q1⟩ => by
    obtain ⟨p0, vs0, ev, hp0, _, _⟩ := h1.mutD e0
    refine ⟨.ref p0, ev, hk.run ρ1 _ Hk1 ((some v, s) :: T) σ H1 _ q1 h1 fun u H2 Hk2 ρ2 sk e2 h2 k2 ⟨kd, key, b, ds, d, hs, hkey, e3, hz, hd, q2⟩ => ?_⟩
    subst hs
    obtain ⟨v', ev', rv⟩ := h2.top
    cases ev'
    have ek := rv.key hkey
    subst ek
    obtain ⟨Hk3, e4, rd, h3⟩ := h2.pop.know_top hd
    obtain ⟨p1, vs1, ev1, hp1, r1, mu⟩ := h3.mutD e3
    rw [ev] at ev1; cases ev1
    exact ⟨p0, _, rfl, .inl ⟨vs1, key, hp1, rfl, by rw [r1.length]; exact hz, rfl⟩, o.nx σ _ Hk3 _ (e1.trans (e2.trans e4)) (mu _ _ (r1.put rd)) (k1.trans (k2.trans (kp_ow e3))) q2⟩)⟩
/-- x[k], a list, by values -/
theorem pget_list : PGet X (fun o i H Q => ∃ p vs k v, o = .ref p ∧ i = .int k ∧ H p = some (.lst vs) ∧ 0 ≤ k ∧ vs[k.toNat]? = some v ∧ Q v H) := by
  intro pins s σ H o i ov iv Q I ro ri ⟨p, vs, k, v, e1, e2, hp, h0, hv, q⟩
  subst e1; subst e2
  cases ro
  obtain ⟨t, rfl⟩ := ri
  obtain ⟨its, r, pl, hz⟩ := I.list (.of hp)
  obtain ⟨w, ew, rw'⟩ := r.get hv
  have hl : k.toNat < vs.length := (List.getElem?_eq_some_iff.mp hv).1
  have hn := line63
  exact wpAny_getItem_list pl.isList h0 (by omega) (by simpa using ew) ⟨v, H, I, rw', q⟩
/-- x[k] op= e, a list -/
def vAugL (i : Nat) (op : Prim) (tk te : VE) : VS := fun R ρ => (∃ b ds, ρ[i]? = some (.ow b (.lst ds))) ∧ tk ρ fun sk ρ1 => ∃ (k : Int) (b : Bool) (ds : List D) (d : D), sk = .sh (.int k) ∧ ρ1[i]? = some (.ow b (.lst ds)) ∧ 0 ≤ k ∧ ds[k.toNat]? = some d ∧
  te ρ1 fun s ρ2 => ∃ (b' : Bool) (ds' : List D) (dy : D), slotD s = some dy ∧ ρ2[i]? = some (.ow b' (.lst ds')) ∧ k < ds'.length ∧ op [d, dy] fun ret => ∃ z, ret = .val z ∧ R.nx (ρ2.set i (.ow b' (.lst (ds'.set k.toNat z))))
theorem pws_augL {tip : TIp} {op : Prim} (i : Nat) (hp : PS X st (tAugS (tVar i) (tSem X k) (tSem X e) (fun o i H Q => ∃ p vs k v, o = .ref p ∧ i = .int k ∧ H p = some (.lst vs) ∧ 0 ≤ k ∧ vs[k.toNat]? = some v ∧ Q v H) tip rSetL)) (ho : PrimOk2 X tip op) (hk : PWE X Φ k tk) (h : PWE X Φ e te) :
    PWS X Φ st (vAugL i op tk te) := ⟨fun ρ R Hk T σ H D ⟨⟨b0, ds0, e0⟩, q⟩ hh o => tSemS_of hp (by
  obtain ⟨p0, vs0, ev, hp0, _, _⟩ := hh.mutL e0
  refine ⟨.ref p0, ev, hk.run ρ _ Hk T σ H _ q hh fun u H1 Hk1 ρ1 sk e1 h1 k1 ⟨k, b, ds, d, hs, e2, h0, hd, q1⟩ => ?_⟩
  subst hs
  obtain ⟨v', ev', rv⟩ := h1.top
  cases ev'; cases rv
  obtain ⟨p1, vs1, ev1, hp1, r1, _⟩ := h1.pop.mutL e2
  rw [ev] at ev1; cases ev1
  obtain ⟨x, hx, rx⟩ := r1.getD hd
  refine ⟨p0, vs1, k, x, rfl, rfl, hp1, h0, hx, h.run ρ1 _ Hk1 T σ H1 _ q1 h1.pop fun y H2 Hk2 ρ2 s e3 h2 k2 ⟨b', ds', dy, hy, e4, hlt, q2⟩ => ?_⟩
  refine ho Hk2 H2 x y d dy _ _ h2.ex (.known (rx.mono e3)) (HL.view h2.front hy) q2 fun ret ⟨z, ez, q3⟩ => ?_
  subst ez
  intro w rw'
  obtain ⟨p2, vs2, ev2, hp2, r2, mu⟩ := h2.pop.mutL e4
  rw [ev] at ev2; cases ev2
  have hj : ixN vs2.length k = some k.toNat := by
    unfold ixN
    rw [if_pos h0, if_pos (by rw [r2.length]; exact hlt)]
  exact ⟨p0, vs2, k, k.toNat, rfl, rfl, hp2, hj, o.nx σ _ Hk2 _ (e1.trans e3) (mu _ _ (r2.set rw' k.toNat)) (k1.trans (k2.trans (kp_ow e4))) q3⟩)⟩

/-! ### {} -/
def vNewD : VE := fun ρ Q => Q (.ow false (.dct [])) ρ
theorem run_newD : RunE X.K Φ tDNewK vNewD := ⟨fun ρ Q Hk T σ H P q hh p => fun a ha => p _ _ Hk ρ _ (.refl _) (hh.own ha (.dct upd_same .nil)) (.refl _ _) q⟩
end
end WL

set_option Elab.async false
set_option linter.all false
set_option maxRecDepth 100000
set_option maxHeartbeats 4000000
/-! W9: displays, truth, joins, gets, walks over dicts. -/
namespace WL
open PySem PySem.Spec PyProof.Rows L2

def argV : Arg → Option D
  | .val s => slotD s
  | .pk _ => none
def argVs : List Arg → Option (List D)
  | [] => some []
  | a :: as => match argV a, argVs as with
    | some d, some ds => some (d :: ds)
    | _, _ => none
section
variable {K : PySem.W.Frag} {Φ : Fr} {H : Hp} {ρ : Rho} {σ : L2.St}
theorem ArgsAt.known {as : List Arg} {vs : List V} {ts : List Cell} (h : ArgsAt σ as vs ts) : ∀ {Hk : Hp} {T : List Cell} {ds : List D}, argVs as = some ds → Holds K Φ Hk ρ (ts ++ T) σ H → ∃ Hk', Same Hk Hk' ∧ Reps K Hk' vs ds ∧ Holds K Φ Hk' ρ T σ H := by
  induction h with
  | nil => intro Hk T ds e hh; cases e; exact ⟨Hk, .refl _, .nil, hh⟩
  | cons ha t ih =>
    rename_i a v ta as vs us
    intro Hk T ds e hh
    have e' : (match argV a, argVs as with | some d, some ds => some (d :: ds) | _, _ => none) = some ds := e
    cases h1 : argV a with
    | none => rw [h1] at e'; cases e'
    | some d =>
      cases h2 : argVs as with
      | none => rw [h1, h2] at e'; cases e'
      | some es =>
        rw [h1, h2] at e'
        cases e'
        cases ha with
        | pk hv => cases h1
        | val =>
          rename_i s
          rw [List.append_assoc] at hh
          obtain ⟨Hk1, e1, r1, hh1⟩ := ih h2 hh
          obtain ⟨Hk2, e2, r2, hh2⟩ := hh1.know_top h1
          exact ⟨Hk2, e1.trans e2, .cons r2 (r1.mono e2), hh2⟩
end
section
variable {X : Cx} {Φ : Fr} {e k f : Expr} {es : List Expr} {te tk tx : VE} {to tu : VO} {tas : VA} {pos : Pos}
def vLst (ta : VA) : VE := fun ρ Q => ta ρ fun as ρ1 => ∃ ds, argVs as = some ds ∧ ds.length ≤ sizeLine ∧ Q (.ow false (.lst ds)) ρ1
def vTup (ta : VA) : VE := fun ρ Q => ta ρ fun as ρ1 => ∃ ds, argVs as = some ds ∧ ds.length ≤ sizeLine ∧ Q (.sh (.tup ds)) ρ1
theorem pwe_lst (h : PWA X Φ es tas) : PWE X Φ (.List es pos) (vLst tas) := ⟨fun ρ Q Hk T σ H P q hh p => tSem_of (pe_lst pa_sem)
  (h.run ρ _ Hk T σ H _ q hh fun vs H1 Hk1 ρ1 as ts e1 has h1 k1 ⟨ds, hd, hz, q1⟩ => by
    obtain ⟨Hk2, e2, r2, h2⟩ := has.known hd h1
    exact ⟨by rw [r2.length]; exact hz, fun a ha => p _ _ Hk2 ρ1 _ (e1.trans e2) (h2.own ha (.lst upd_same r2)) k1 q1⟩)⟩
theorem pwe_tup {n : Nat} (h : PWA X Φ es tas) : PWE X Φ (.Tuple es n pos) (vTup tas) := ⟨fun ρ Q Hk T σ H P q hh p => tSem_of (pe_tup pa_sem)
  (h.run ρ _ Hk T σ H _ q hh fun vs H1 Hk1 ρ1 as ts e1 has h1 k1 ⟨ds, hd, hz, q1⟩ => by
    obtain ⟨Hk2, e2, r2, h2⟩ := has.known hd h1
    exact ⟨by rw [r2.length]; exact hz, fun a ha => p _ _ _ ρ1 _ (e1.trans (e2.trans (h2.know_same ha))) ((h2.know ha).sh (.tup upd_same (r2.mono (h2.know_same ha)))) k1 q1⟩)⟩
/-- truth -/
def truD : D → Option Bool
  | .non => some false
  | .bl b => some b
  | .int i => some (i != 0)
  | .lst ds => some (!ds.isEmpty)
  | .fls ds => some (!ds.isEmpty)
  | .tup ds => some (!ds.isEmpty)
  | _ => none
theorem Reps.isEmpty {K : PySem.W.Frag} {H : Hp} {vs : List V} {ds : List D} (r : Reps K H vs ds) : vs.isEmpty = ds.isEmpty := by cases r <;> rfl
theorem View.tru {K : PySem.W.Frag} {Hk H : Hp} {v : V} {d : D} {b : Bool} (ex : Same Hk H) (h : View K Hk H v d) (e : truD d = some b) : TruV K v H b := by
  cases d with
  | non => rw [h.non]; cases e; rfl
  | bl b => rw [h.bl]; cases e; rfl
  | int b => rw [h.int]; cases e; rfl
  | lst l => obtain ⟨a, vs, rfl, hr, rr⟩ := h.lst ex; cases e; exact .inl ⟨vs, .of hr, by rw [rr.isEmpty]⟩
  | fls l => obtain ⟨a, vs, rfl, hr, rr⟩ := h.fls ex; cases e; exact .inl ⟨vs, hr, by rw [rr.isEmpty]⟩
  | tup l => obtain ⟨a, vs, rfl, hr, rr⟩ := h.tup ex; cases e; exact .inr (.inl ⟨vs, .of hr, by rw [rr.isEmpty]⟩)
  | _ => cases e
def vTru (to : VO) : VT := fun ρ Q => to ρ fun a ρ1 => ∃ d b, argD ρ1 a = some d ∧ truD d = some b ∧ Q b ρ1
theorem pwt_truth (h : PWO X Φ e to) (he : ∀ whole, isTrue e X.env whole = (do let v ← whole; standAt e.pos; holding [v] (truthy v)) := by intro _; rfl) : PWT X Φ e (vTru to) := ⟨fun ρ Q Hk T σ H P q hh p => tSemT_of (pt_truth pe_sem he)
  (h.run ρ _ Hk T σ H _ q hh fun v H1 Hk1 ρ1 a ts e1 ha h1 k1 ⟨d, b, hd, hb, q1⟩ => ⟨b, (ha.view h1 hd).tru h1.ex hb, p b H1 Hk1 ρ1 e1 h1.drop k1 q1⟩)⟩
/-- sep.join(xs) -/
def joinP : Prim := fun ds R => ∃ (a : Str) (d : D) (l : List D) (ys : List Str), ds = [.str a, d] ∧ seqLD d = some l ∧ l = ys.map D.str ∧ (ys.map (·.length)).sum + ys.length * a.length ≤ 16777216 ∧ R (.val (.str (Txt.join a ys)))
/-- a text's method with one argument -/
def vM1 (op : Prim) (to tu : VO) : VE := fun ρ Q => to ρ fun a ρ1 => (∃ z, argD ρ1 a = some (.str z)) ∧ tu ρ1 fun b ρ2 => ∃ da db, argD ρ2 a = some da ∧ argD ρ2 b = some db ∧ op [da, db] fun ret => Q ret.slot ρ2
def PrimOkM (X : Cx) (r : V → List V → Hp → VK → Prop) (op : Prim) : Prop :=
  ∀ Hk H x y dx dy P R, Same Hk H → View X.K Hk H x dx → View X.K Hk H y dy → op [dx, dy] R → (∀ ret, R ret → RetK X.K Hk H P ret) → r x [y] H P
theorem run_m1 {r : V → List V → Hp → VK → Prop} {op : Prim} (ho : PrimOkM X r op) (ha : PWO X Φ e to) (hb : PWO X Φ f tu) : RunE X.K Φ (tM1 r (tSem X e) (tSem X f)) (vM1 op to tu) := ⟨fun ρ Q Hk T σ H P q hh p =>
  ha.run ρ _ Hk T σ H _ q hh fun v H1 Hk1 ρ1 a ts e1 h1 hh1 k1 ⟨⟨z, hz⟩, q1⟩ => ⟨⟨z, (ArgAt.view hh1 h1 hz).str⟩, hb.run ρ1 _ Hk1 (ts ++ T) σ H1 _ q1 hh1 fun u H2 Hk2 ρ2 b us e2 h2 hh2 k2 ⟨da, db, hda, hdb, q2⟩ =>
    ho Hk2 H2 v u da db P _ hh2.ex (ArgAt.view (ts := ts) (T := T) hh2.drop h1 hda) (ArgAt.view (ts := us) (T := ts ++ T) hh2 h2 hdb) q2 fun ret hr => ret_post hh2.drop.drop (p.step (e1.trans e2) (k1.trans k2)) hr⟩⟩
theorem ok_join : PrimOkM X (fun x xs H Q => ∃ a p, ∃ ys : List Str, x = .str a ∧ xs = [.ref p] ∧ (SqL X.K H p (ys.map V.str) ∨ SqT X.K H p (ys.map V.str)) ∧ (ys.map (·.length)).sum + ys.length * a.length ≤ 16777216 ∧ Q (.str (Txt.join a ys)) H) joinP := by
  intro Hk H x y dx dy P R ex vx vy ⟨a, d, l, ys, e, hd, hl, hz, q⟩ k
  cases e
  subst hl
  obtain ⟨p, ws, rfl, hr, rr⟩ := vy.seqL ex (seqLD_eq hd)
  rw [rr.strs] at hr
  exact ⟨a, p, ys, vx.str, rfl, .inl hr, hz, k _ q _ .str⟩
/-- d.get(k, x) -/
def vGet2 (to : VO) (tk tx : VE) : VE := fun ρ Q => to ρ fun a ρ1 => (∃ kvs, argD ρ1 a = some (.dct kvs)) ∧ tk ρ1 fun sk ρ2 => tx ρ2 fun s ρ3 => ∃ kd key kvs, sk = .sh kd ∧ keyD kd = some key ∧ argD ρ3 a = some (.dct kvs) ∧ (∀ d, lookK kvs key = some d → Q (.sh d) ρ3) ∧ (lookK kvs key = none → Q s ρ3)
theorem run_get2 (ha : PWO X Φ e to) (hk : PWE X Φ k tk) (hf : PWE X Φ f tx) : RunE X.K Φ (tDGet2 (tSem X e) (tSem X k) (tSem X f)) (vGet2 to tk tx) := ⟨fun ρ Q Hk T σ H P q hh p =>
  ha.run ρ _ Hk T σ H _ q hh fun v H1 Hk1 ρ1 a ts e1 h1 hh1 k1 ⟨⟨kvs0, hz⟩, q1⟩ => by
    obtain ⟨ad, vs0, rfl, hr0, rr0⟩ := (ArgAt.view hh1 h1 hz).dct hh1.ex
    refine ⟨ad, rfl, .inl ⟨vs0, hr0⟩, hk.run ρ1 _ Hk1 (ts ++ T) σ H1 _ q1 hh1 fun y H2 Hk2 ρ2 sk e2 h2 k2 q2 => hf.run ρ2 _ Hk2 ((some y, sk) :: (ts ++ T)) σ H2 _ q2 h2 fun z H3 Hk3 ρ3 s e3 h3 k3 ⟨kd, key, kvs, hs, hkey, hd, qs, qn⟩ => ?_⟩
    subst hs
    have h3' : Holds X.K Φ Hk3 ρ3 ((some y, .sh kd) :: ((some z, s) :: (ts ++ T))) σ H3 := h3.perm (.swap _ _ _)
    obtain ⟨y', ey, ry⟩ := h3'.top
    cases ey
    have eyk := ry.key hkey
    subst eyk
    obtain ⟨ad', vs, ea, hr, rr⟩ := (ArgAt.view (ts := ts) (T := T) h3.pop.pop h1 hd).dct h3.ex
    cases ea
    refine ⟨valV vs key, .inl ⟨vs, key, hr, rfl, rfl⟩, ?_⟩
    have ee := e1.trans (e2.trans e3)
    have kk := k1.trans (k2.trans k3)
    rcases rr.look (k := key) with ⟨l1, l2⟩ | ⟨w, d, l1, l2, rw'⟩
    · rw [l1]
      exact p z H3 Hk3 ρ3 s ee (h3'.pop.dropMid) kk (qn l2)
    · rw [l1]
      exact p w H3 Hk3 ρ3 _ ee (h3'.pop.pop.drop.sh rw') kk (qs d l2)⟩
end

/-! ### walks over dicts: the dict is locked meanwhile -/
def IsDk (H : Hp) (a : Addr) (kvs : List (Key × V)) : Prop := H a = some (.dK kvs) ∨ ∃ o, H a = some (.frz o (.dK kvs))
structure Sw (a : Addr) (kvs : List (Key × V)) (H H2 : Hp) : Prop where
  l : IsDk H a kvs
  r : IsDk H2 a kvs
  out : ∀ b, b ≠ a → H2 b = H b
section
variable {K : PySem.W.Frag} {Φ : Fr} {a : Addr} {kvs : List (Key × V)} {H H2 Hk Hk2 : Hp}
theorem Sw.upd {u : HO} (h : IsDk H a kvs) (hu : u = .dK kvs ∨ ∃ o, u = .frz o (.dK kvs)) : Sw a kvs H (upd H a u) := by
  refine ⟨h, ?_, fun b hb => upd_ne hb⟩
  rcases hu with rfl | ⟨o, rfl⟩
  · exact .inl upd_same
  · exact .inr ⟨o, upd_same⟩
theorem Sw.notl (s : Sw a kvs H H2) {b : Addr} {vs : List V} (h : H b = some (.lst vs)) : H2 b = some (.lst vs) := by
  by_cases e : b = a
  · subst e; rcases s.l with l | ⟨o, l⟩ <;> rw [l] at h <;> cases h
  · rw [s.out b e]; exact h
theorem Sw.nott (s : Sw a kvs H H2) {b : Addr} {vs : List V} (h : H b = some (.tup vs)) : H2 b = some (.tup vs) := by
  by_cases e : b = a
  · subst e; rcases s.l with l | ⟨o, l⟩ <;> rw [l] at h <;> cases h
  · rw [s.out b e]; exact h
theorem Sw.rd (s : Sw a kvs H H2) {b : Addr} {u : HO} (hu : ∀ o w, u ≠ .frz o w) (h : Rd H b u) : Rd H2 b u := by
  by_cases e : b = a
  · subst e
    have : u = .dK kvs := by
      rcases s.l with l | ⟨o, l⟩ <;> rcases h with h | ⟨o', h⟩ <;> rw [l] at h <;> cases h
      · rfl
      · exact absurd rfl (hu o _)
      · rfl
    subst this
    exact s.r
  · unfold Rd; rw [s.out b e]; exact h
theorem Sw.sqL (s : Sw a kvs H H2) {b : Addr} {vs : List V} (h : SqL K H b vs) : SqL K H2 b vs := by
  rcases h with h | h
  · exact .inl (s.rd (fun _ _ z => by cases z) h)
  · exact .inr h
theorem Sw.sqT (s : Sw a kvs H H2) {b : Addr} {vs : List V} (h : SqT K H b vs) : SqT K H2 b vs := by
  rcases h with h | h
  · exact .inl (s.rd (fun _ _ z => by cases z) h)
  · exact .inr h
mutual
theorem Rep.sw {v : V} {d : D} (s : Sw a kvs H H2) : Rep K H v d → Rep K H2 v d
  | .non => .non
  | .bl => .bl
  | .int => .int
  | .str => .str
  | .lst h r => .lst (s.notl h) (Reps.sw s r)
  | .tup h r => .tup (s.nott h) (Reps.sw s r)
  | .fls h r => .fls (s.sqL h) (Reps.sw s r)
  | .ftp h r => .ftp (s.sqT h) (Reps.sw s r)
  | .dct h r => .dct (s.rd (fun _ _ z => by cases z) h) (RepK.sw s r)
  | .dcT h r => .dcT (s.rd (fun _ _ z => by cases z) h) (RepT.sw s r)
  | .opq => .opq
theorem Reps.sw {vs : List V} {ds : List D} (s : Sw a kvs H H2) : Reps K H vs ds → Reps K H2 vs ds
  | .nil => .nil
  | .cons h t => .cons (Rep.sw s h) (Reps.sw s t)
theorem RepK.sw {vs : List (Key × V)} {ds : List (Key × D)} (s : Sw a kvs H H2) : RepK K H vs ds → RepK K H2 vs ds
  | .nil => .nil
  | .cons h t => .cons (Rep.sw s h) (RepK.sw s t)
theorem RepT.sw {vs : List (List Key × V)} {ds : List (List Key × D)} (s : Sw a kvs H H2) : RepT K H vs ds → RepT K H2 vs ds
  | .nil => .nil
  | .cons h t => .cons (Rep.sw s h) (RepT.sw s t)
end
theorem OwnAt.sw {o : Own} {p : Addr} {fp : List Addr} (s : Sw a kvs Hk Hk2) (k : ∀ q ∈ fp, H2 q = H q) (h : OwnAt K Hk H o p fp) : OwnAt K Hk2 H2 o p fp := by
  cases h with
  | lst h r => exact .lst ((k _ (by simp)).trans h) (r.sw s)
  | dct h r => exact .dct ((k _ (by simp)).trans h) (r.sw s)
  | dcT h r => exact .dcT ((k _ (by simp)).trans h) (r.sw s)
theorem Rows.sw (s : Sw a kvs Hk Hk2) : ∀ {qs : List Addr} {rows : List (List D)}, (∀ q ∈ qs, H2 q = H q) → Rows K Hk H qs rows → Rows K Hk2 H2 qs rows
  | _, _, _, .nil => .nil
  | _, _, k, .cons h r t => .cons ((k _ (by simp)).trans h) (r.sw s) (Rows.sw s (fun q hq => k q (List.mem_cons_of_mem _ hq)) t)
theorem CellOk.sw {x : Option V} {sl : Slot} {fp : List Addr} (s : Sw a kvs Hk Hk2) (k : ∀ q ∈ fp, H2 q = H q) (h : CellOk K Hk H x sl fp) : CellOk K Hk2 H2 x sl fp := by
  cases h with
  | rw h hk r => exact .rw ((k _ (by simp)).trans h) hk (r.sw s fun q hq => k q (List.mem_cons_of_mem _ hq))
  | un => exact .un
  | sh r => exact .sh (r.sw s)
  | ow r => exact .ow (r.sw s k)
theorem Cells.sw (s : Sw a kvs Hk Hk2) : ∀ {L : List Cell} {F : List Addr}, (∀ q ∈ F, H2 q = H q) → Cells K Hk H L F → Cells K Hk2 H2 L F
  | _, _, _, .nil => .nil
  | _, _, k, .cons h t => .cons (h.sw s fun q hq => k q (List.mem_append_left _ hq)) (Cells.sw s (fun q hq => k q (List.mem_append_right _ hq)) t)
theorem HL.sw {L : List Cell} (h : HL K Hk H L) (s : Sw a kvs Hk Hk2) (s2 : Sw a kvs H H2) (e : H2 a = Hk2 a) : HL K Hk2 H2 L := by
  obtain ⟨F, hc, hn, hk⟩ := h.cells
  have ne : ∀ q ∈ F, q ≠ a := fun q hq z => by
    have := hk q hq
    rw [z] at this
    rcases s.l with l | ⟨o, l⟩ <;> rw [l] at this <;> cases this
  refine ⟨fun b o q => ?_, F, hc.sw s fun q hq => s2.out q (ne q hq), hn, fun q hq => by rw [s.out q (ne q hq)]; exact hk q hq⟩
  by_cases hb : b = a
  · subst hb; rw [e]; exact q
  · rw [s.out b hb] at q; rw [s2.out b hb]; exact h.ex b o q
theorem Holds.sw {ρ : Rho} {T : List Cell} {σ : L2.St} (h : Holds K Φ.mute Hk ρ T σ H) (s : Sw a kvs Hk Hk2) (s2 : Sw a kvs H H2) (e : H2 a = Hk2 a) : Holds K Φ.mute Hk2 ρ T σ H2 := ⟨h.len, h.hl.sw s s2 e, (fun _ _ z => by cases z), h.kp0⟩
/-- locked, unlocked -/
theorem Holds.lock {ρ : Rho} {T : List Cell} {σ : L2.St} (h : Holds K Φ.mute Hk ρ T σ H) (hk : Hk a = some (.dK kvs)) (od : Obj) : Holds K Φ.mute (upd Hk a (.frz od (.dK kvs))) ρ T σ (upd H a (.frz od (.dK kvs))) :=
  h.sw (.upd (.inl hk) (.inr ⟨od, rfl⟩)) (.upd (.inl (h.ex _ _ hk)) (.inr ⟨od, rfl⟩)) (by rw [upd_same, upd_same])
theorem Holds.unlock {ρ : Rho} {T : List Cell} {σ : L2.St} {od : Obj} (h : Holds K Φ.mute Hk ρ T σ H) (hk : Hk a = some (.frz od (.dK kvs))) : Holds K Φ.mute (upd Hk a (.dK kvs)) ρ T σ (upd H a (.dK kvs)) :=
  h.sw (.upd (.inr ⟨od, hk⟩) (.inl rfl)) (.upd (.inr ⟨od, h.ex _ _ hk⟩) (.inl rfl)) (by rw [upd_same, upd_same])
theorem OutOk.mute {ρ : Rho} {T : List Cell} {σ : L2.St} {R : Out} {D : Ends} (o : OutOk K Φ Hk T σ ρ R D) (hh : Holds K Φ Hk ρ T σ H) : OutOk K Φ.mute Hk T σ ρ R D :=
  ⟨fun σ' H' Hk' ρ' e h k q => o.nx σ' H' Hk' ρ' e (hh.unmute h e k) k q, fun v σ' H' Hk' ρ' r e h k q => o.rt v σ' H' Hk' ρ' r e (hh.unmute h e k) k q,
    fun σ' H' Hk' ρ' e h k q => o.bk σ' H' Hk' ρ' e (hh.unmute h e k) k q, fun σ' H' Hk' ρ' e h k q => o.ct σ' H' Hk' ρ' e (hh.unmute h e k) k q⟩
theorem Post.mute {ρ : Rho} {T : List Cell} {σ : L2.St} {Q : VK0} {P : VK} (o : Post K Φ Hk T σ ρ Q P) (hh : Holds K Φ Hk ρ T σ H) : Post K Φ.mute Hk T σ ρ Q P :=
  fun v H' Hk' ρ' r e h k q => o v H' Hk' ρ' r e (hh.unmute h e k) k q
theorem same_unlock {od : Obj} (h : Hk a = some (.dK kvs)) (e : Same (upd Hk a (.frz od (.dK kvs))) Hk2) : Same Hk (upd Hk2 a (.dK kvs)) := fun b o q => by
  by_cases hb : b = a
  · subst hb; rw [h] at q; cases q; exact upd_same
  · rw [upd_ne hb]; exact e b o (by rw [upd_ne hb]; exact q)
theorem itok_keys {od : Obj} {T' : List Cell} {kds : List (Key × D)} (hk : Hk a = some (.frz od (.dK kvs))) (r : RepK K Hk kvs kds) : ItOk K Hk T' (Itk a od kvs) (kds.map fun kv => dK kv.1) where
  go := fun i Hk' H L e h hi => by
    have hH := h.ex _ _ (e _ _ hk)
    have hl : i < kvs.length := by rw [r.length]; simpa using hi
    refine ⟨⟨hH, hl⟩, fun x H' ⟨eH, k, v, hkv, ex⟩ => ?_⟩
    subst eH; subst ex
    have h1 : (kvs.map (·.1))[i]? = some k := by simp [hkv]
    rw [r.keys] at h1
    refine ⟨Hk', dK k, ?_, .refl _, ?_, fun _ m => m⟩
    · have h2 : ((kds.map (·.1)).map dK)[i]? = some (dK k) := by rw [List.getElem?_map, h1]; rfl
      simpa using h2
    · cases k
      · exact .int
      · exact .str
  stop := fun i Hk' H L e h hi => ⟨h.ex _ _ (e _ _ hk), by rw [r.length]; simpa using hi⟩
end
section
variable {X : Cx} {Φ : Fr} {st : Stmt} {tg elt c : Expr} {body : List Stmt} {is : List Nat} {g : VG} {tb : VS} {te : VE} {tt : VT}
/-- for k in d, d a name -/
def vForK (i : Nat) (g : VG) (tb : VS) : VS := fun R ρ => ∃ kvs, ρ[i]? = some (.sh (.dct kvs)) ∧ ∃ I : Nat → Rho → Prop, I 0 ρ ∧
  (∀ j d ρ', (kvs.map fun kv => dK kv.1)[j]? = some d → I j ρ' → g d ρ' fun ρ2 => tb { R with nx := I (j + 1), ct := I (j + 1), bk := R.nx } ρ2) ∧ ∀ ρ', I (kvs.map fun kv => dK kv.1).length ρ' → R.nx ρ'
theorem pws_forK (i : Nat) (hp : PS X st (tFor (iKeys (tVar i)) (tSemG X tg) (tSemSs X body))) (hg : PWG X Φ.mute tg is g) (hb : PWSs X Φ.mute body tb) : PWS X Φ st (vForK i g tb) := ⟨fun ρ R Hk T σ H D ⟨kds, e0, I, i0, turn, fin⟩ hh o => by
  obtain ⟨v, ev, rv⟩ := hh.get_sh e0
  cases rv with
  | dct hr rr =>
    rename_i a kvs
    rcases hr with hr | ⟨od, hr⟩
    · refine tSemS_of (ps_lock hp) ⟨a, .dK kvs, hh.ex _ _ hr, trivial, fun od => ?_⟩
      have h1 := hh.mute.lock hr od
      have hl : upd Hk a (.frz od (.dK kvs)) a = some (.frz od (.dK kvs)) := upd_same
      have s1 : Sw a kvs Hk (upd Hk a (.frz od (.dK kvs))) := .upd (.inl hr) (.inr ⟨od, rfl⟩)
      refine ⟨.ref a, ev, a, od, rfl, .inl ⟨kvs, upd_same, for_core (T' := []) hg hb (itok_keys hl (rr.sw s1)) h1 ⟨?_, ?_, ?_, ?_⟩ I i0 turn fin⟩⟩
      · exact fun σ' H' Hk' ρ' e h k q => ⟨h.ex _ _ (e _ _ hl), o.nx σ' _ _ ρ' (same_unlock hr e) (hh.unmute (h.unlock (e _ _ hl)) (same_unlock hr e) k) k q⟩
      · exact fun v σ' H' Hk' ρ' r e h k q => ⟨h.ex _ _ (e _ _ hl), o.rt v σ' _ _ ρ' r (same_unlock hr e) (hh.unmute (h.unlock (e _ _ hl)) (same_unlock hr e) k) k q⟩
      · exact fun σ' H' Hk' ρ' e h k q => ⟨h.ex _ _ (e _ _ hl), o.bk σ' _ _ ρ' (same_unlock hr e) (hh.unmute (h.unlock (e _ _ hl)) (same_unlock hr e) k) k q⟩
      · exact fun σ' H' Hk' ρ' e h k q => ⟨h.ex _ _ (e _ _ hl), o.ct σ' _ _ ρ' (same_unlock hr e) (hh.unmute (h.unlock (e _ _ hl)) (same_unlock hr e) k) k q⟩
    · exact tSemS_of hp ⟨.ref a, ev, a, od, rfl, .inl ⟨kvs, hh.ex _ _ hr, for_core (T' := []) hg hb (itok_keys hr rr) hh.mute (o.mute hh) I i0 turn fin⟩⟩⟩
/-- [.. for k in d ..], d a name -/
def vLcK (i : Nat) (g : VG) (tt : VT) (te : VE) (vs : List Nat) : VE := fun ρ Q => ∃ kvs, ρ[i]? = some (.sh (.dct kvs)) ∧ (∀ v ∈ vs, ∃ s, ρ[v]? = some s ∧ s.free = true) ∧ ∃ I : Nat → List D → Rho → Prop, I 0 [] (wipeR ρ vs) ∧
  (∀ j acc d ρ', (kvs.map fun kv => dK kv.1)[j]? = some d → I j acc ρ' → g d ρ' fun ρ2 => tt ρ2 fun b ρ3 =>
    (b = true → te ρ3 fun s ρ4 => ∃ dy, slotD s = some dy ∧ acc.length < sizeLine ∧ I (j + 1) (acc ++ [dy]) (wipeR ρ4 vs)) ∧ (b = false → I (j + 1) acc (wipeR ρ3 vs))) ∧
  ∀ acc ρ', I (kvs.map fun kv => dK kv.1).length acc ρ' → Q (.ow false (.lst acc)) ρ'
theorem pwe_lcK {e : Expr} {g' : TG} {tt' : TT} {te' : TE} {vs : List Nat} (i : Nat) (hp : PE X e (tLc (iKeys (tVar i)) g' tt' te' vs)) (hg : RunG X.K Φ.mute g' is g) (ht : RunT X.K Φ.mute tt' tt) (he : RunE X.K Φ.mute te' te) (his : ∀ j ∈ is, j ∈ vs) :
    PWE X Φ e (vLcK i g tt te vs) := ⟨fun ρ Q Hk T σ H P ⟨kds, e0, fr, I, i0, turn, fin⟩ hh p => by
  obtain ⟨v, ev, rv⟩ := hh.get_sh e0
  cases rv with
  | dct hr rr =>
    rename_i a kvs
    rcases hr with hr | ⟨od, hr⟩
    · refine tSem_of (pe_lock hp) ⟨a, .dK kvs, hh.ex _ _ hr, trivial, fun od => ?_⟩
      have h1 := hh.mute.lock hr od
      have hl : upd Hk a (.frz od (.dK kvs)) a = some (.frz od (.dK kvs)) := upd_same
      have s1 : Sw a kvs Hk (upd Hk a (.frz od (.dK kvs))) := .upd (.inl hr) (.inr ⟨od, rfl⟩)
      refine ⟨.ref a, ev, a, od, rfl, .inl ⟨kvs, upd_same, lc_core1 (T' := []) (P := fun v H' => H' a = some (.frz od (.dK kvs)) ∧ P v (upd H' a (.dK kvs))) hg ht he his (itok_keys hl (rr.sw s1)) h1 ?_ fr I i0 turn fin⟩⟩
      exact fun v H' Hk' ρ' r e h k q => ⟨h.ex _ _ (e _ _ hl), p v _ _ ρ' r (same_unlock hr e) (hh.unmute (h.unlock (e _ _ hl)) (same_unlock hr e) k) k q⟩
    · exact tSem_of hp ⟨.ref a, ev, a, od, rfl, .inl ⟨kvs, hh.ex _ _ hr, lc_core1 (T' := []) hg ht he his (itok_keys hr rr) hh.mute (p.mute hh) fr I i0 turn fin⟩⟩⟩
variable {scope : Scope} {own : List (Str × Nat)} {pos : Pos} {iter : Expr}
theorem pe_lcK0 {ti : TI} (hc : X.calm = true) (hN : X.N.Nodup) (hi : PI X tg iter ti) (ok : BlkOk X.N X.env.scope scope own) (hs : ∀ x, foldedSetIterable iter X.env x = pure x := by intro _; rfl) :
    PE X (.ListComp elt [⟨tg, iter, [], 0⟩] scope pos) (tLc ti (gU X scope tg) tYes (eU X scope elt) (own.map (·.2))) :=
  pe_lc hc hN hi ok (fun _ _ _ _ _ => pg_U) (fun _ _ _ _ _ => pts_nil) (fun _ _ _ _ _ => pe_U) hs
theorem pe_lcK1 {ti : TI} (hc : X.calm = true) (hN : X.N.Nodup) (hi : PI X tg iter ti) (ok : BlkOk X.N X.env.scope scope own) (hs : ∀ x, foldedSetIterable iter X.env x = pure x := by intro _; rfl) :
    PE X (.ListComp elt [⟨tg, iter, [c], 0⟩] scope pos) (tLc ti (gU X scope tg) (cU X scope c) (eU X scope elt) (own.map (·.2))) :=
  pe_lc hc hN hi ok (fun _ _ _ _ _ => pg_U) (fun _ _ _ _ _ => pts_one pt_U) (fun _ _ _ _ _ => pe_U) hs
end

/-! ### a, b = a list -/
section
variable {X : Cx} {Φ : Fr}
def gL (is : List Nat) : VG := fun d ρ Q => ∃ ds, seqLD d = some ds ∧ ds.length = is.length ∧ gTs is ds ρ Q
theorem rung_lst {K : PySem.W.Frag} {Φ : Fr} (is : List Nat) : RunG K Φ (gLst K is.length (gNames is)) is (gL is) := ⟨fun d ρ Q Hk T σ H v P ⟨ds, ed, hl, q⟩ r hh p => by
  obtain ⟨a, vs, rfl, hr, rr⟩ := (View.known (H := H) r).seqL hh.ex (seqLD_eq ed)
  exact ⟨a, vs, rfl, hr, rr.length.trans hl, gnames_run q rr hh p⟩⟩
end
end WL

set_option Elab.async false
set_option linter.all false
set_option maxRecDepth 100000
set_option maxHeartbeats 4000000
/-! WA: a def as its callers see it; [..] stored at once. -/
namespace WL
open PySem PySem.Spec PyProof.Rows L2

/-- a def of the module, at a level, by its promise over values -/
structure Def (P : Program) (w : World) (K : PySem.W.Frag) (mg : Str → Option Value) (base : Heap) (k : Nat) (x : Str) (ps : List Str) (SS : VSp) : Prop where
  ex : ∃ f fd, FnOk P w K mg base (L2.CX P w) k f fd ps (spV K SS) ∧ mg x = some (.ref f) ∧ PySem.W.keepIn K (.ref f) = true ∧ Binds K fd ps []
theorem Def.mono {P : Program} {w : World} {K : PySem.W.Frag} {mg : Str → Option Value} {base : Heap} {j k : Nat} {x : Str} {ps : List Str} {SS : VSp} (h : Def P w K mg base j x ps SS) (hk : j ≤ k) : Def P w K mg base k x ps SS := by
  obtain ⟨f, fd, F, g, kp, b⟩ := h.ex
  exact ⟨f, fd, F.mono hk, g, kp, b⟩
section
variable {X : Cx} {Φ : Fr} {x : Str} {ps : List Str} {SS : VSp} {k : Nat} {e : Expr} {es : List Expr} {tas : VA} {p pos : Pos}
theorem passN {X : Cx} {σ : L2.St} : PassesAt (L2.CX X.prog X.w) X σ (fun _ _ _ => False) := fun _ _ _ _ _ _ h => by
  obtain ⟨_, _, _, _, _, _, _, _, _, _, _, _, z⟩ := h
  exact z.elim
theorem pwe_callD (D : Def X.prog X.w X.K X.mg X.base k x ps SS) (hr : Room k X.A) (hg : Gl X x) (ha : PWA X Φ (e :: es) tas) (hd : (x == ("__debug__" : Str)) = false := by decide)
    (h1 : starEach (e :: es) X.env = (false, eval e X.env) :: starEach es X.env := by rfl) (h2 : ((backTo pos (starEach es X.env)).any fun x => x.1) = false := by rfl) : PWE X Φ (.Call (.Name x p) (e :: es) [] pos) (vCall SS tas) := by
  obtain ⟨f, fd, F, g, kp, b⟩ := D.ex
  exact pwe_of (pe_callSD F hr hg g kp b .nil (E := fun _ _ _ _ => False) (fun _ => passN) pa_sem hd h1 h2) (run_call ha)
/-- .. that may raise -/
theorem pwe_callX (tk : Tk X Φ) (D : Def X.prog X.w X.K X.mg X.base k x ps SS) (hr : Room k X.A) (hg : Gl X x) (ha : PWA X Φ (e :: es) tas) (hd : (x == ("__debug__" : Str)) = false := by decide)
    (h1 : starEach (e :: es) X.env = (false, eval e X.env) :: starEach es X.env := by rfl) (h2 : ((backTo pos (starEach es X.env)).any fun x => x.1) = false := by rfl) : PWE X Φ (.Call (.Name x p) (e :: es) [] pos) (vCallX Φ.EX SS tas) := by
  obtain ⟨f, fd, F, g, kp, b⟩ := D.ex
  exact pwe_of (pe_callSD F hr hg g kp b .nil (fun σ => passAt tk σ) pa_sem hd h1 h2) (run_callX ha)
variable {elt tg iter c : Expr} {scope : Scope} {own : List (Str × Nat)} {y : Str} {py spos : Pos} {i : Nat}
theorem ps_setLc0 {ti : TI} (hc : X.calm = true) (hN : X.N.Nodup) (hy : X.N[i]? = some y) (hyl : X.env.scope.names.lookup y = some .local) (hsw : swapsWith (.ListComp elt [⟨tg, iter, [], 0⟩] scope pos) (some (.Name y py)) spos.line X.env = pure true) (hi : PI X tg iter ti)
    (ok : BlkOk X.N X.env.scope scope own) (hs : ∀ x, foldedSetIterable iter X.env x = pure x := by intro _; rfl) :
    PS X (.Assign [.Name y py] (.ListComp elt [⟨tg, iter, [], 0⟩] scope pos) spos) (tAsg (tLc ti (gU X scope tg) tYes (eU X scope elt) (own.map (·.2))) (gName i)) :=
  ps_setLc hc hN hy hyl hsw hi ok (fun _ _ _ _ _ => pg_U) (fun _ _ _ _ _ => pts_nil) (fun _ _ _ _ _ => pe_U) hs
theorem ps_setLc1 {ti : TI} (hc : X.calm = true) (hN : X.N.Nodup) (hy : X.N[i]? = some y) (hyl : X.env.scope.names.lookup y = some .local) (hsw : swapsWith (.ListComp elt [⟨tg, iter, [c], 0⟩] scope pos) (some (.Name y py)) spos.line X.env = pure true) (hi : PI X tg iter ti)
    (ok : BlkOk X.N X.env.scope scope own) (hs : ∀ x, foldedSetIterable iter X.env x = pure x := by intro _; rfl) :
    PS X (.Assign [.Name y py] (.ListComp elt [⟨tg, iter, [c], 0⟩] scope pos) spos) (tAsg (tLc ti (gU X scope tg) (cU X scope c) (eU X scope elt) (own.map (·.2))) (gName i)) :=
  ps_setLc hc hN hy hyl hsw hi ok (fun _ _ _ _ _ => pg_U) (fun _ _ _ _ _ => pts_one pt_U) (fun _ _ _ _ _ => pe_U) hs
/-- x = [.. for k in d ..]: the whole statement under the lock -/
theorem pws_setLcK {st : Stmt} {g' : TG} {is : List Nat} {g : VG} {tt' : TT} {tt : VT} {te' : TE} {te : VE} {vs : List Nat} {j : Nat} (i : Nat) (hp : PS X st (tAsg (tLc (iKeys (tVar i)) g' tt' te' vs) (gName j))) (hg : RunG X.K Φ.mute g' is g) (ht : RunT X.K Φ.mute tt' tt) (he : RunE X.K Φ.mute te' te) (his : ∀ j ∈ is, j ∈ vs) :
    PWS X Φ st (vSet j (vLcK i g tt te vs)) := ⟨fun ρ R Hk T σ H D ⟨kds, e0, fr, I, i0, turn, fin⟩ hh o => by
  obtain ⟨v, ev, rv⟩ := hh.get_sh e0
  cases rv with
  | dct hr rr =>
    rename_i a kvs
    have post : ∀ {Φ : Fr} {Hk : Hp} {D : Ends}, OutOk X.K Φ Hk T σ ρ R D → Post X.K Φ Hk T σ ρ (fun s ρ1 => ∃ s0, ρ1[j]? = some s0 ∧ s0.free = true ∧ R.nx (ρ1.set j s)) (fun x H1 => D.nx (σ.set j (some x)) H1) := fun o v H' Hk' ρ' r e h' k' ⟨s0, e0, hf, q'⟩ => o.nx _ H' Hk' _ e (h'.store e0 hf) (k'.trans (kp_store e0 hf)) q'
    rcases hr with hr | ⟨od, hr⟩
    · refine tSemS_of (ps_lock hp) ⟨a, .dK kvs, hh.ex _ _ hr, trivial, fun od => ?_⟩
      have h1 := hh.mute.lock hr od
      have hl : upd Hk a (.frz od (.dK kvs)) a = some (.frz od (.dK kvs)) := upd_same
      have s1 : Sw a kvs Hk (upd Hk a (.frz od (.dK kvs))) := .upd (.inl hr) (.inr ⟨od, rfl⟩)
      refine ⟨.ref a, ev, a, od, rfl, .inl ⟨kvs, upd_same, lc_core1 (T' := []) hg ht he his (itok_keys hl (rr.sw s1)) h1 (Q := fun s ρ1 => ∃ s0, ρ1[j]? = some s0 ∧ s0.free = true ∧ R.nx (ρ1.set j s)) (P := fun x H1 => (H1 a = some (.frz od (.dK kvs)) ∧ D.nx (σ.set j (some x)) (upd H1 a (.dK kvs)))) ?_ fr I i0 turn fin⟩⟩
      refine post (D := ⟨fun σ' H' => H' a = some (.frz od (.dK kvs)) ∧ D.nx σ' (upd H' a (.dK kvs)), fun v H' => H' a = some (.frz od (.dK kvs)) ∧ D.rt v (upd H' a (.dK kvs)), fun σ' H' => H' a = some (.frz od (.dK kvs)) ∧ D.bk σ' (upd H' a (.dK kvs)), fun σ' H' => H' a = some (.frz od (.dK kvs)) ∧ D.ct σ' (upd H' a (.dK kvs))⟩) ⟨?_, ?_, ?_, ?_⟩
      · exact fun σ' H' Hk' ρ' e h k q => ⟨h.ex _ _ (e _ _ hl), o.nx σ' _ _ ρ' (same_unlock hr e) (hh.unmute (h.unlock (e _ _ hl)) (same_unlock hr e) k) k q⟩
      · exact fun v σ' H' Hk' ρ' r e h k q => ⟨h.ex _ _ (e _ _ hl), o.rt v σ' _ _ ρ' r (same_unlock hr e) (hh.unmute (h.unlock (e _ _ hl)) (same_unlock hr e) k) k q⟩
      · exact fun σ' H' Hk' ρ' e h k q => ⟨h.ex _ _ (e _ _ hl), o.bk σ' _ _ ρ' (same_unlock hr e) (hh.unmute (h.unlock (e _ _ hl)) (same_unlock hr e) k) k q⟩
      · exact fun σ' H' Hk' ρ' e h k q => ⟨h.ex _ _ (e _ _ hl), o.ct σ' _ _ ρ' (same_unlock hr e) (hh.unmute (h.unlock (e _ _ hl)) (same_unlock hr e) k) k q⟩
    · exact tSemS_of hp ⟨.ref a, ev, a, od, rfl, .inl ⟨kvs, hh.ex _ _ hr, lc_core1 (T' := []) hg ht he his (itok_keys hr rr) hh.mute (Q := fun s ρ1 => ∃ s0, ρ1[j]? = some s0 ∧ s0.free = true ∧ R.nx (ρ1.set j s)) (post (o.mute hh)) fr I i0 turn fin⟩⟩⟩
end

section
variable {X : Cx} {Φ : Fr} {e : Expr} {te : VE} {st : Stmt} {is : List Nat} {g : VG}
/-- a value that is shared at once -/
def vSh (te : VE) : VE := fun ρ Q => te ρ fun s ρ1 => ∃ d, slotD s = some d ∧ Q (.sh d) ρ1
theorem pwe_sh (h : PWE X Φ e te) : PWE X Φ e (vSh te) := ⟨fun ρ Q Hk T σ H P q hh p => h.run ρ _ Hk T σ H P q hh fun v H' Hk' ρ' r e' h' k' ⟨d, hd, q'⟩ => by
  obtain ⟨Hk2, e2, rd, h2⟩ := h'.know_top hd
  exact p v H' Hk2 ρ' _ (e'.trans e2) (h2.sh rd) k' q'⟩
/-- a target of any form = e -/
def vAsg (g : VG) (te : VE) : VS := fun R ρ => te ρ fun s ρ1 => ∃ d, slotD s = some d ∧ g d ρ1 R.nx
theorem pws_asg {tg : Expr} {tt : TE} (hp : PS X st (tAsg tt (tSemG X tg))) (hg : PWG X Φ tg is g) (h : RunE X.K Φ tt te) : PWS X Φ st (vAsg g te) := ⟨fun ρ R Hk T σ H D q hh o => tSemS_of hp
  (h.run ρ _ Hk T σ H _ q hh fun v H' Hk' ρ' r e h' k' ⟨d, hd, q'⟩ => by
    obtain ⟨Hk2, e2, rd, h2⟩ := h'.know_top hd
    exact hg.run.run d ρ' _ Hk2 T σ H' v _ q' rd h2 fun σ3 H3 Hk3 ρ3 e3 h3 k3 _ q3 => o.nx σ3 H3 Hk3 ρ3 (e.trans (e2.trans e3)) h3 (k'.trans k3) q3)⟩
/-- a def that is never called -/
theorem Def.never {P : Program} {w : World} {K : PySem.W.Frag} {mg : Str → Option Value} {base : Heap} {k : Nat} {x qual : Str} {ps : List Str} {st : Stmt} {f : Addr} {fd : FuncData} (F : Fun K x qual st f fd) (g : mg x = some (.ref f))
    (b : Binds K fd ps []) : Def P w K mg base k x ps (fun _ _ _ => False) :=
  ⟨f, fd, ⟨fun vs H Q E h => by obtain ⟨_, _, _, _, _, _, _, _, z, _⟩ := h; exact z.elim, fun A outer s H args us vs Q E _ _ _ _ h => by obtain ⟨_, _, _, _, _, _, _, _, z, _⟩ := h; exact z.elim⟩, g, F.kp, b⟩
end
end WL

set_option Elab.async false
set_option linter.all false
set_option maxRecDepth 100000
set_option maxHeartbeats 4000000
/-! WB: readings of values run step by step: one rule a head. -/
namespace WL
open PySem PySem.Spec PyProof.Rows L2

section
variable {nx bk ct : Rho → Prop} {rt : Slot → Rho → Prop} {t u : VS} {te ta tb : VE} {to tu : VO} {tas : VA} {tt t1 t2 : VT} {ρ ρ' ρ1 : Rho} {i : Nat} {Q : VK0} {QB : Bool → Rho → Prop} {QO : Arg → Rho → Prop} {QA : List Arg → Rho → Prop} {op : Prim}
  {s s0 s1 : Slot} {d : D} {ds es : List D} {b : Bool} {R : Ret → Prop}

/-! ### statements -/
theorem u_next (h : nx ρ) : vNext (.mk nx rt bk ct) ρ := h
theorem u_break (h : bk ρ) : vBreak (.mk nx rt bk ct) ρ := h
theorem u_cont (h : ct ρ) : vCont (.mk nx rt bk ct) ρ := h
theorem u_seq (h : t (.mk (fun ρ' => u (.mk nx rt bk ct) ρ') rt bk ct) ρ) : vSeq t u (.mk nx rt bk ct) ρ := h
def kSet (i : Nat) (nx : Rho → Prop) : VK0 := fun s ρ1 => ∃ s0, ρ1[i]? = some s0 ∧ s0.free = true ∧ nx (ρ1.set i s)
theorem u_set (h : te ρ (kSet i nx)) : vSet i te (.mk nx rt bk ct) ρ := h
theorem k_set (e : ρ[i]? = some s0) (hf : s0.free = true) (k : nx ρ') (hs : ρ.set i s = ρ' := by dsimp only [List.set]) : kSet i nx s ρ := ⟨s0, e, hf, by rw [hs]; exact k⟩
def kExpr (nx : Rho → Prop) : VK0 := fun _ ρ1 => nx ρ1
theorem u_expr (h : te ρ (kExpr nx)) : vExpr te (.mk nx rt bk ct) ρ := h
theorem k_expr (h : nx ρ) : kExpr nx s ρ := h
theorem u_ret (h : te ρ rt) : vRet te (.mk nx rt bk ct) ρ := h
theorem u_retN (h : rt (.sh .non) ρ) : vRetN (.mk nx rt bk ct) ρ := h
def kIf (t u : VS) (R : Out) : Bool → Rho → Prop := fun k ρ1 => (k = true → t R ρ1) ∧ (k = false → u R ρ1)
theorem u_if (h : tt ρ (kIf t u (.mk nx rt bk ct))) : vIf tt t u (.mk nx rt bk ct) ρ := h
theorem k_ifT {R : Out} (h : t R ρ) : kIf t u R true ρ := ⟨fun _ => h, fun z => by cases z⟩
theorem k_ifF {R : Out} (h : u R ρ) : kIf t u R false ρ := ⟨fun z => (by cases z), fun _ => h⟩
theorem k_ifD {R : Out} {p : Prop} [Decidable p] (h : p → t R ρ) (h2 : ¬ p → u R ρ) : kIf t u R (decide p) ρ := ⟨fun z => h (of_decide_eq_true z), fun z => h2 (of_decide_eq_false z)⟩
theorem k_ifN {R : Out} {p : Prop} [Decidable p] (h : ¬ p → t R ρ) (h2 : p → u R ρ) : kIf t u R (!decide p) ρ := by
  by_cases hp : p
  · rw [decide_eq_true hp]; exact k_ifF (h2 hp)
  · rw [decide_eq_false hp]; exact k_ifT (h hp)
theorem k_if {R : Out} (h : b = true → t R ρ) (h2 : b = false → u R ρ) : kIf t u R b ρ := ⟨h, h2⟩
def kAug (i : Nat) (op : Prim) (d : D) (nx : Rho → Prop) : VK0 := fun s ρ1 => ∃ dy, slotD s = some dy ∧ (∃ d1, ρ1[i]? = some (.sh d1)) ∧ op [d, dy] fun ret => nx (ρ1.set i ret.slot)
theorem u_aug (e : ρ[i]? = some (.sh d)) (h : te ρ (kAug i op d nx)) : vAug i op te (.mk nx rt bk ct) ρ := ⟨d, e, h⟩
theorem k_aug {dy d1 : D} (e : slotD s = some dy) (e1 : ρ[i]? = some (.sh d1)) (h : op [d, dy] fun ret => nx (ρ.set i ret.slot)) : kAug i op d nx s ρ := ⟨dy, e, ⟨d1, e1⟩, h⟩
/-- two ints -/
theorem k_augAdd {x y : Int} {d1 : D} (e1 : ρ[i]? = some (.sh d1)) (h : nx ρ') (hs : ρ.set i (.sh (.int (x + y))) = ρ' := by dsimp only [List.set]) : kAug i iaddP (.int x) nx (.sh (.int y)) ρ := ⟨.int y, rfl, ⟨d1, e1⟩, by show nx (ρ.set i (.sh (.int (x + y)))); rw [hs]; exact h⟩
theorem k_augSub {x y : Int} {d1 : D} (e1 : ρ[i]? = some (.sh d1)) (h : nx ρ') (hs : ρ.set i (.sh (.int (x - y))) = ρ' := by dsimp only [List.set]) : kAug i subP (.int x) nx (.sh (.int y)) ρ := ⟨.int y, rfl, ⟨d1, e1⟩, by show nx (ρ.set i (.sh (.int (x - y)))); rw [hs]; exact h⟩
def kAsg (g : VG) (nx : Rho → Prop) : VK0 := fun s ρ1 => ∃ d, slotD s = some d ∧ g d ρ1 nx
theorem u_asg {g : VG} (h : te ρ (kAsg g nx)) : vAsg g te (.mk nx rt bk ct) ρ := h
theorem k_asg {g : VG} (e : slotD s = some d) (h : g d ρ nx) : kAsg g nx s ρ := ⟨d, e, h⟩

/-! ### expressions -/
theorem u_var (e : ρ[i]? = some (.sh d)) (h : Q (.sh d) ρ) : vVar i ρ Q := .inl ⟨d, e, h⟩
theorem u_varL (e : ρ[i]? = some (.ow false (.lst ds))) (h : Q (.sh (.lst ds)) ρ') (hs : ρ.set i (.sh (.lst ds)) = ρ' := by dsimp only [List.set]) : vVar i ρ Q := .inr ⟨.lst ds, e, by subst hs; exact h⟩
theorem u_varD {kvs : List (Key × D)} (e : ρ[i]? = some (.ow false (.dct kvs))) (h : Q (.sh (.dct kvs)) ρ') (hs : ρ.set i (.sh (.dct kvs)) = ρ' := by dsimp only [List.set]) : vVar i ρ Q := .inr ⟨.dct kvs, e, by subst hs; exact h⟩
theorem u_varE {kvs : List (List Key × D)} (e : ρ[i]? = some (.ow false (.dcT kvs))) (h : Q (.sh (.dcT kvs)) ρ') (hs : ρ.set i (.sh (.dcT kvs)) = ρ' := by dsimp only [List.set]) : vVar i ρ Q := .inr ⟨.dcT kvs, e, by subst hs; exact h⟩
theorem u_mv (e : ρ[i]? = some (.sh d)) (h : Q (.sh d) ρ) : vMv i ρ Q := .inl ⟨d, e, h⟩
theorem u_mvO {o : Own} (e : ρ[i]? = some (.ow false o)) (h : Q (.ow false o) ρ') (hs : ρ.set i .un = ρ' := by dsimp only [List.set]) : vMv i ρ Q := .inr ⟨o, e, by subst hs; exact h⟩
theorem u_c (h : Q (.sh d) ρ) : vC d ρ Q := h
def kVal (QO : Arg → Rho → Prop) : VK0 := fun s ρ' => QO (.val s) ρ'
theorem u_val (h : te ρ (kVal QO)) : vVal te ρ QO := h
theorem k_val (h : QO (.val s) ρ) : kVal QO s ρ := h
theorem u_pk (e : ρ[i]? = some s) (ed : slotD s = some d) (h : QO (.pk i) ρ) : vPk i ρ QO := ⟨s, d, e, ed, h⟩
def kSh (Q : VK0) : VK0 := fun s ρ1 => ∃ d, slotD s = some d ∧ Q (.sh d) ρ1
theorem u_sh (h : te ρ (kSh Q)) : vSh te ρ Q := h
theorem k_sh (h : Q (.sh d) ρ) : kSh Q (.sh d) ρ := ⟨d, rfl, h⟩
theorem k_shL (h : Q (.sh (.lst ds)) ρ) : kSh Q (.ow b (.lst ds)) ρ := ⟨.lst ds, rfl, h⟩
theorem k_shD {kvs : List (Key × D)} (h : Q (.sh (.dct kvs)) ρ) : kSh Q (.ow b (.dct kvs)) ρ := ⟨.dct kvs, rfl, h⟩
def kRet (Q : VK0) (ρ : Rho) : Ret → Prop := fun ret => Q ret.slot ρ
theorem k_retV (h : Q (.sh d) ρ) : kRet Q ρ (.val d) := h
theorem k_retL (h : Q (.ow false (.lst ds)) ρ) : kRet Q ρ (.newL ds) := h
theorem k_retT (h : Q (.sh (.tup ds)) ρ) : kRet Q ρ (.newT ds) := h
theorem k_retD {kvs : List (Key × D)} (h : Q (.ow false (.dct kvs)) ρ) : kRet Q ρ (.newD kvs) := h
def kBin2 (op : Prim) (a : Arg) (Q : VK0) : Arg → Rho → Prop := fun b ρ2 => ∃ da db, argD ρ2 a = some da ∧ argD ρ2 b = some db ∧ op [da, db] (kRet Q ρ2)
def kBin1 (op : Prim) (tb : VO) (Q : VK0) : Arg → Rho → Prop := fun a ρ1 => tb ρ1 (kBin2 op a Q)
theorem u_bin (h : to ρ (kBin1 op tu Q)) : vBin op to tu ρ Q := h
theorem k_bin1 {a : Arg} (h : tu ρ (kBin2 op a Q)) : kBin1 op tu Q a ρ := h
theorem k_bin2 {a b : Arg} {da db : D} (ha : argD ρ a = some da) (hb : argD ρ b = some db) (h : op [da, db] (kRet Q ρ)) : kBin2 op a Q b ρ := ⟨da, db, ha, hb, h⟩
def kUn (op : Prim) (Q : VK0) : Arg → Rho → Prop := fun a ρ1 => ∃ da, argD ρ1 a = some da ∧ op [da] (kRet Q ρ1)
theorem u_un (h : to ρ (kUn op Q)) : vUn op to ρ Q := h
theorem k_un {a : Arg} {da : D} (ha : argD ρ a = some da) (h : op [da] (kRet Q ρ)) : kUn op Q a ρ := ⟨da, ha, h⟩
theorem u_nil (h : QA [] ρ) : vNil ρ QA := h
def kCons2 (a : Arg) (QA : List Arg → Rho → Prop) : List Arg → Rho → Prop := fun as ρ2 => QA (a :: as) ρ2
def kCons1 (ta : VA) (QA : List Arg → Rho → Prop) : Arg → Rho → Prop := fun a ρ1 => ta ρ1 (kCons2 a QA)
theorem u_cons (h : to ρ (kCons1 tas QA)) : vCons to tas ρ QA := h
theorem k_cons1 {a : Arg} (h : tas ρ (kCons2 a QA)) : kCons1 tas QA a ρ := h
theorem k_cons2 {a : Arg} {as : List Arg} (h : QA (a :: as) ρ) : kCons2 a QA as ρ := h
def kPrim (op : Prim) (Q : VK0) : List Arg → Rho → Prop := fun as ρ1 => ∃ ds, argDs ρ1 as = some ds ∧ op ds (kRet Q ρ1)
theorem u_prim (h : tas ρ (kPrim op Q)) : vPrim op tas ρ Q := h
theorem k_prim1 {a : Arg} {da : D} (ha : argD ρ a = some da) (h : op [da] (kRet Q ρ)) : kPrim op Q [a] ρ := ⟨[da], by unfold argDs; rw [ha]; rfl, h⟩
theorem k_prim2 {a b : Arg} {da db : D} (ha : argD ρ a = some da) (hb : argD ρ b = some db) (h : op [da, db] (kRet Q ρ)) : kPrim op Q [a, b] ρ := ⟨[da, db], by unfold argDs argDs; rw [ha, hb]; rfl, h⟩
def kT (QB : Bool → Rho → Prop) : VK0 := fun s ρ' => ∃ k, s = .sh (.bl k) ∧ QB k ρ'
theorem u_t (h : te ρ (kT QB)) : vT te ρ QB := h
theorem k_t (h : QB b ρ) : kT QB (.sh (.bl b)) ρ := ⟨b, rfl, h⟩
def kTru (QB : Bool → Rho → Prop) : Arg → Rho → Prop := fun a ρ1 => ∃ d b, argD ρ1 a = some d ∧ truD d = some b ∧ QB b ρ1
theorem u_tru (h : to ρ (kTru QB)) : vTru to ρ QB := h
theorem k_tru {a : Arg} (ha : argD ρ a = some d) (hb : truD d = some b) (h : QB b ρ) : kTru QB a ρ := ⟨d, b, ha, hb, h⟩
def kAnd (t2 : VT) (QB : Bool → Rho → Prop) : Bool → Rho → Prop := fun k ρ1 => (k = true → t2 ρ1 QB) ∧ (k = false → QB false ρ1)
theorem u_and (h : t1 ρ (kAnd t2 QB)) : vAnd t1 t2 ρ QB := h
theorem k_and (h1 : b = true → t2 ρ QB) (h2 : b = false → QB false ρ) : kAnd t2 QB b ρ := ⟨h1, h2⟩
theorem k_andT (h : t2 ρ QB) : kAnd t2 QB true ρ := ⟨fun _ => h, fun z => by cases z⟩
theorem k_andF (h : QB false ρ) : kAnd t2 QB false ρ := ⟨fun z => (by cases z), fun _ => h⟩
def kOr (t2 : VT) (QB : Bool → Rho → Prop) : Bool → Rho → Prop := fun k ρ1 => (k = true → QB true ρ1) ∧ (k = false → t2 ρ1 QB)
theorem u_or (h : t1 ρ (kOr t2 QB)) : vOr t1 t2 ρ QB := h
theorem k_or (h1 : b = true → QB true ρ) (h2 : b = false → t2 ρ QB) : kOr t2 QB b ρ := ⟨h1, h2⟩
theorem k_orT (h : QB true ρ) : kOr t2 QB true ρ := ⟨fun _ => h, fun z => by cases z⟩
theorem k_orF (h : t2 ρ QB) : kOr t2 QB false ρ := ⟨fun z => (by cases z), fun _ => h⟩
def kNot (QB : Bool → Rho → Prop) : Bool → Rho → Prop := fun k ρ1 => QB (!k) ρ1
theorem u_not (h : t1 ρ (kNot QB)) : vNot t1 ρ QB := h
theorem k_not (h : QB (!b) ρ) : kNot QB b ρ := h
def kAndV (tb : VE) (Q : VK0) : VK0 := fun s ρ1 => ∃ k, s = .sh (.bl k) ∧ (k = true → tb ρ1 Q) ∧ (k = false → Q (.sh (.bl false)) ρ1)
theorem u_andV (h : ta ρ (kAndV tb Q)) : vAndV ta tb ρ Q := h
theorem k_andV (h1 : b = true → tb ρ Q) (h2 : b = false → Q (.sh (.bl false)) ρ) : kAndV tb Q (.sh (.bl b)) ρ := ⟨b, rfl, h1, h2⟩
theorem k_andVT (h : tb ρ Q) : kAndV tb Q (.sh (.bl true)) ρ := ⟨true, rfl, fun _ => h, fun z => by cases z⟩
def kOrV (tb : VE) (Q : VK0) : VK0 := fun s ρ1 => ∃ k, s = .sh (.bl k) ∧ (k = true → Q (.sh (.bl true)) ρ1) ∧ (k = false → tb ρ1 Q)
theorem u_orV (h : ta ρ (kOrV tb Q)) : vOrV ta tb ρ Q := h
theorem k_orV (h1 : b = true → Q (.sh (.bl true)) ρ) (h2 : b = false → tb ρ Q) : kOrV tb Q (.sh (.bl b)) ρ := ⟨b, rfl, h1, h2⟩
theorem k_orVT (h : Q (.sh (.bl true)) ρ) : kOrV tb Q (.sh (.bl true)) ρ := ⟨true, rfl, fun _ => h, fun z => by cases z⟩
theorem k_orVF (h : tb ρ Q) : kOrV tb Q (.sh (.bl false)) ρ := ⟨false, rfl, fun z => (by cases z), fun _ => h⟩
theorem k_andVF (h : Q (.sh (.bl false)) ρ) : kAndV tb Q (.sh (.bl false)) ρ := ⟨false, rfl, fun z => (by cases z), fun _ => h⟩
def kNotV (Q : VK0) : VK0 := fun s ρ1 => ∃ k, s = .sh (.bl k) ∧ Q (.sh (.bl (!k))) ρ1
theorem u_notV (h : ta ρ (kNotV Q)) : vNotV ta ρ Q := h
theorem k_notV (h : Q (.sh (.bl (!b))) ρ) : kNotV Q (.sh (.bl b)) ρ := ⟨b, rfl, h⟩
def kIfE (ta tb : VE) (Q : VK0) : Bool → Rho → Prop := fun k ρ1 => (k = true → ta ρ1 Q) ∧ (k = false → tb ρ1 Q)
theorem u_ifE (h : tt ρ (kIfE ta tb Q)) : vIfE tt ta tb ρ Q := h
theorem k_ifE (h1 : b = true → ta ρ Q) (h2 : b = false → tb ρ Q) : kIfE ta tb Q b ρ := ⟨h1, h2⟩
theorem k_ifEd {p : Prop} [Decidable p] (h : p → ta ρ Q) (h2 : ¬ p → tb ρ Q) : kIfE ta tb Q (decide p) ρ := ⟨fun z => h (of_decide_eq_true z), fun z => h2 (of_decide_eq_false z)⟩
theorem k_ifET (h : ta ρ Q) : kIfE ta tb Q true ρ := ⟨fun _ => h, fun z => by cases z⟩
theorem k_ifEF (h : tb ρ Q) : kIfE ta tb Q false ρ := ⟨fun z => (by cases z), fun _ => h⟩
/-- if both ways give an int -/
def kLst (Q : VK0) : List Arg → Rho → Prop := fun as ρ1 => ∃ ds, argVs as = some ds ∧ ds.length ≤ sizeLine ∧ Q (.ow false (.lst ds)) ρ1
theorem u_lst (h : tas ρ (kLst Q)) : vLst tas ρ Q := h
theorem k_lst {as : List Arg} (e : argVs as = some ds) (hz : ds.length ≤ sizeLine) (h : Q (.ow false (.lst ds)) ρ) : kLst Q as ρ := ⟨ds, e, hz, h⟩
def kTup (Q : VK0) : List Arg → Rho → Prop := fun as ρ1 => ∃ ds, argVs as = some ds ∧ ds.length ≤ sizeLine ∧ Q (.sh (.tup ds)) ρ1
theorem u_tup (h : tas ρ (kTup Q)) : vTup tas ρ Q := h
theorem k_tup {as : List Arg} (e : argVs as = some ds) (hz : ds.length ≤ sizeLine) (h : Q (.sh (.tup ds)) ρ) : kTup Q as ρ := ⟨ds, e, hz, h⟩
theorem u_newD (h : Q (.ow false (.dct [])) ρ) : vNewD ρ Q := h
/-! slices -/
def kSl3 (a : Arg) (lo hi : Option Int) (Q : VK0) (ρ3 : Rho) : Prop := ∃ d, argD ρ3 a = some d ∧ slP lo hi [d] (kRet Q ρ3)
def kSl2 (a : Arg) (lo : Option Int) (Q : VK0) : Option Int → Rho → Prop := fun hi ρ3 => kSl3 a lo hi Q ρ3
def kSl1 (a : Arg) (th : VPo) (Q : VK0) : Option Int → Rho → Prop := fun lo ρ2 => th ρ2 (kSl2 a lo Q)
def kSl0 (tl th : VPo) (Q : VK0) : Arg → Rho → Prop := fun a ρ1 => tl ρ1 (kSl1 a th Q)
variable {tl th : VPo} {lo hi : Option Int} {QP : Option Int → Rho → Prop}
theorem u_sl (h : to ρ (kSl0 tl th Q)) : vSl to tl th ρ Q := h
theorem k_sl0 {a : Arg} (h : tl ρ (kSl1 a th Q)) : kSl0 tl th Q a ρ := h
theorem k_sl1 {a : Arg} (h : th ρ (kSl2 a lo Q)) : kSl1 a th Q lo ρ := h
theorem k_sl2 {a : Arg} (e : argD ρ a = some d) (h : slP lo hi [d] (kRet Q ρ)) : kSl2 a lo Q hi ρ := ⟨d, e, h⟩
theorem u_noPart (h : QP none ρ) : vNoPart ρ QP := h
def kPart (QP : Option Int → Rho → Prop) : VK0 := fun s ρ1 => ∃ i, s = .sh (.int i) ∧ QP (some i) ρ1
theorem u_part (h : te ρ (kPart QP)) : vPart te ρ QP := h
theorem k_part {x : Int} (h : QP (some x) ρ) : kPart QP (.sh (.int x)) ρ := ⟨x, rfl, h⟩
/-! methods -/
def kApp (i : Nat) (Q : VK0) : VK0 := fun s ρ1 => ∃ b ds d, ρ1[i]? = some (.ow b (.lst ds)) ∧ slotD s = some d ∧ ds.length < sizeLine ∧ Q (.sh .non) (ρ1.set i (.ow b (.lst (ds ++ [d]))))
theorem u_app (e : ρ[i]? = some (.ow b (.lst ds))) (h : te ρ (kApp i Q)) : vApp i te ρ Q := ⟨⟨b, ds, e⟩, h⟩
theorem k_app (e : ρ[i]? = some (.ow b (.lst ds))) (ed : slotD s = some d) (hz : ds.length < sizeLine) (h : Q (.sh .non) ρ') (hs : ρ.set i (.ow b (.lst (ds ++ [d]))) = ρ' := by dsimp only [List.set]) : kApp i Q s ρ := ⟨b, ds, d, e, ed, hz, by rw [hs]; exact h⟩
theorem u_pop (e : ρ[i]? = some (.ow b (.lst ds))) (ed : ds[ds.length - 1]? = some d) (h : Q (.sh d) ρ') (hs : ρ.set i (.ow b (.lst ds.dropLast)) = ρ' := by dsimp only [List.set]) : vPop i ρ Q := ⟨b, ds, d, e, ed, by rw [hs]; exact h⟩
def kPopAt (i : Nat) (Q : VK0) : VK0 := fun s ρ1 => ∃ (k : Int) (j : Nat) (b : Bool) (ds : List D) (d : D), s = .sh (.int k) ∧ ρ1[i]? = some (.ow b (.lst ds)) ∧ (-(2 ^ 63) ≤ k ∧ k < 2 ^ 63) ∧ seqIndex? k ds.length = some j ∧ ds[j]? = some d ∧ Q (.sh d) (ρ1.set i (.ow b (.lst (ds.eraseIdx j))))
theorem u_popAt (e : ρ[i]? = some (.ow b (.lst ds))) (h : te ρ (kPopAt i Q)) : vPopAt i te ρ Q := ⟨⟨b, ds, e⟩, h⟩
theorem k_popAt {k : Int} (e : ρ[i]? = some (.ow b (.lst ds))) (h0 : 0 ≤ k) (hz : k < ds.length) (hb : ds.length < 2 ^ 62) (h : ∀ d ρ', ds[k.toNat]? = some d → ρ' = ρ.set i (.ow b (.lst (ds.eraseIdx k.toNat))) → Q (.sh d) ρ') : kPopAt i Q (.sh (.int k)) ρ := by
  have hk : k.toNat < ds.length := by omega
  refine ⟨k, k.toNat, b, ds, ds[k.toNat], rfl, e, ⟨by omega, by omega⟩, seqIndex_of h0 hz, List.getElem?_eq_getElem hk, h _ _ (List.getElem?_eq_getElem hk) rfl⟩
def kExt (i : Nat) (Q : VK0) : VK0 := fun s ρ1 => ∃ b ds es, ρ1[i]? = some (.ow b (.lst ds)) ∧ slotD s = some (.lst es) ∧ ds.length + es.length ≤ sizeLine ∧ Q (.sh .non) (ρ1.set i (.ow b (.lst (ds ++ es))))
theorem u_ext (e : ρ[i]? = some (.ow b (.lst ds))) (h : te ρ (kExt i Q)) : vExt i te ρ Q := ⟨⟨b, ds, e⟩, h⟩
theorem k_ext (e : ρ[i]? = some (.ow b (.lst ds))) (ed : slotD s = some (.lst es)) (hz : ds.length + es.length ≤ sizeLine) (h : Q (.sh .non) ρ') (hs : ρ.set i (.ow b (.lst (ds ++ es))) = ρ' := by dsimp only [List.set]) : kExt i Q s ρ := ⟨b, ds, es, e, ed, hz, by rw [hs]; exact h⟩
def kM1b (op : Prim) (a : Arg) (Q : VK0) : Arg → Rho → Prop := fun b ρ2 => ∃ da db, argD ρ2 a = some da ∧ argD ρ2 b = some db ∧ op [da, db] (kRet Q ρ2)
def kM1a (op : Prim) (tu : VO) (Q : VK0) : Arg → Rho → Prop := fun a ρ1 => (∃ z, argD ρ1 a = some (.str z)) ∧ tu ρ1 (kM1b op a Q)
theorem u_m1 (h : to ρ (kM1a op tu Q)) : vM1 op to tu ρ Q := h
theorem k_m1a {a : Arg} {z : Str} (e : argD ρ a = some (.str z)) (h : tu ρ (kM1b op a Q)) : kM1a op tu Q a ρ := ⟨⟨z, e⟩, h⟩
theorem k_m1b {a b : Arg} {da db : D} (ha : argD ρ a = some da) (hb : argD ρ b = some db) (h : op [da, db] (kRet Q ρ)) : kM1b op a Q b ρ := ⟨da, db, ha, hb, h⟩
def kGet3 (a : Arg) (sk : Slot) (Q : VK0) : VK0 := fun s ρ3 => ∃ kd key kvs, sk = .sh kd ∧ keyD kd = some key ∧ argD ρ3 a = some (.dct kvs) ∧ (∀ d, lookK kvs key = some d → Q (.sh d) ρ3) ∧ (lookK kvs key = none → Q s ρ3)
def kGet2 (a : Arg) (tx : VE) (Q : VK0) : VK0 := fun sk ρ2 => tx ρ2 (kGet3 a sk Q)
def kGet1 (tk tx : VE) (Q : VK0) : Arg → Rho → Prop := fun a ρ1 => (∃ kvs, argD ρ1 a = some (.dct kvs)) ∧ tk ρ1 (kGet2 a tx Q)
theorem u_get2 {tk tx : VE} (h : to ρ (kGet1 tk tx Q)) : vGet2 to tk tx ρ Q := h
theorem k_get1 {tk tx : VE} {a : Arg} {kvs : List (Key × D)} (e : argD ρ a = some (.dct kvs)) (h : tk ρ (kGet2 a tx Q)) : kGet1 tk tx Q a ρ := ⟨⟨kvs, e⟩, h⟩
theorem k_get2 {tx : VE} {a : Arg} (h : tx ρ (kGet3 a s Q)) : kGet2 a tx Q s ρ := h
theorem k_get3 {a : Arg} {kd : D} {key : Key} {kvs : List (Key × D)} (ek : keyD kd = some key) (e : argD ρ a = some (.dct kvs)) (h1 : ∀ d, lookK kvs key = some d → Q (.sh d) ρ) (h2 : lookK kvs key = none → Q s ρ) : kGet3 a (.sh kd) Q s ρ := ⟨kd, key, kvs, rfl, ek, e, h1, h2⟩
/-! stores into own lists, dicts -/
def kSetL2 (i : Nat) (s : Slot) (nx : Rho → Prop) : VK0 := fun sk ρ2 => ∃ (k : Int) (j : Nat) (b : Bool) (ds : List D) (d : D), sk = .sh (.int k) ∧ ρ2[i]? = some (.ow b (.lst ds)) ∧ ixN ds.length k = some j ∧ slotD s = some d ∧ nx (ρ2.set i (.ow b (.lst (ds.set j d))))
def kSetL1 (i : Nat) (tk : VE) (nx : Rho → Prop) : VK0 := fun s ρ1 => (∃ b ds, ρ1[i]? = some (.ow b (.lst ds))) ∧ tk ρ1 (kSetL2 i s nx)
theorem u_setL {tk : VE} (h : te ρ (kSetL1 i tk nx)) : vSetL i tk te (.mk nx rt bk ct) ρ := h
theorem k_setL1 {tk : VE} (e : ρ[i]? = some (.ow b (.lst ds))) (h : tk ρ (kSetL2 i s nx)) : kSetL1 i tk nx s ρ := ⟨⟨b, ds, e⟩, h⟩
theorem k_setL2 {k : Int} {j : Nat} (e : ρ[i]? = some (.ow b (.lst ds))) (hj : ixN ds.length k = some j) (ed : slotD s = some d) (h : nx ρ') (hs : ρ.set i (.ow b (.lst (ds.set j d))) = ρ' := by dsimp only [List.set]) : kSetL2 i s nx (.sh (.int k)) ρ := ⟨k, j, b, ds, d, rfl, e, hj, ed, by rw [hs]; exact h⟩
def kPutD2 (i : Nat) (s : Slot) (nx : Rho → Prop) : VK0 := fun sk ρ2 => ∃ (kd : D) (key : Key) (b : Bool) (ds : List (Key × D)) (d : D), sk = .sh kd ∧ keyD kd = some key ∧ ρ2[i]? = some (.ow b (.dct ds)) ∧ ds.length < sizeLine ∧ slotD s = some d ∧ nx (ρ2.set i (.ow b (.dct (putD ds key d))))
def kPutD1 (i : Nat) (tk : VE) (nx : Rho → Prop) : VK0 := fun s ρ1 => (∃ b ds, ρ1[i]? = some (.ow b (.dct ds))) ∧ tk ρ1 (kPutD2 i s nx)
theorem u_putD {tk : VE} (h : te ρ (kPutD1 i tk nx)) : vPutD i tk te (.mk nx rt bk ct) ρ := h
theorem k_putD1 {tk : VE} {kvs : List (Key × D)} (e : ρ[i]? = some (.ow b (.dct kvs))) (h : tk ρ (kPutD2 i s nx)) : kPutD1 i tk nx s ρ := ⟨⟨b, kvs, e⟩, h⟩
theorem k_putD2 {kd : D} {key : Key} {kvs : List (Key × D)} (e : ρ[i]? = some (.ow b (.dct kvs))) (ek : keyD kd = some key) (hz : kvs.length < sizeLine) (ed : slotD s = some d) (h : nx ρ') (hs : ρ.set i (.ow b (.dct (putD kvs key d))) = ρ' := by dsimp only [List.set]) : kPutD2 i s nx (.sh kd) ρ := ⟨kd, key, b, kvs, d, rfl, ek, e, hz, ed, by rw [hs]; exact h⟩
def kAugL2 (i : Nat) (op : Prim) (k : Int) (d : D) (nx : Rho → Prop) : VK0 := fun s ρ2 => ∃ (b' : Bool) (ds' : List D) (dy : D), slotD s = some dy ∧ ρ2[i]? = some (.ow b' (.lst ds')) ∧ k < ds'.length ∧ op [d, dy] fun ret => ∃ z, ret = .val z ∧ nx (ρ2.set i (.ow b' (.lst (ds'.set k.toNat z))))
def kAugL1 (i : Nat) (op : Prim) (te : VE) (nx : Rho → Prop) : VK0 := fun sk ρ1 => ∃ (k : Int) (b : Bool) (ds : List D) (d : D), sk = .sh (.int k) ∧ ρ1[i]? = some (.ow b (.lst ds)) ∧ 0 ≤ k ∧ ds[k.toNat]? = some d ∧ te ρ1 (kAugL2 i op k d nx)
theorem u_augL {tk : VE} (e : ρ[i]? = some (.ow b (.lst ds))) (h : tk ρ (kAugL1 i op te nx)) : vAugL i op tk te (.mk nx rt bk ct) ρ := ⟨⟨b, ds, e⟩, h⟩
theorem k_augL1 {k : Int} (e : ρ[i]? = some (.ow b (.lst ds))) (h0 : 0 ≤ k) (ed : ds[k.toNat]? = some d) (h : te ρ (kAugL2 i op k d nx)) : kAugL1 i op te nx (.sh (.int k)) ρ := ⟨k, b, ds, d, rfl, e, h0, ed, h⟩
theorem k_augL2 {k x y : Int} (e : ρ[i]? = some (.ow b (.lst ds))) (hk : k < ds.length) (h : nx ρ') (hs : ρ.set i (.ow b (.lst (ds.set k.toNat (.int (x + y))))) = ρ' := by dsimp only [List.set]) : kAugL2 i iaddP k (.int x) nx (.sh (.int y)) ρ := ⟨b, ds, .int y, rfl, e, hk, .int (x + y), rfl, by rw [hs]; exact h⟩
/-! calls -/
def kBack (ρ1 : Rho) (as : List Arg) (Q : VK0) : Slot → List Slot → Prop := fun r ss => Q r (takeBack ρ1 as ss)
def kCall (SS : VSp) (Q : VK0) : List Arg → Rho → Prop := fun as ρ1 => ∃ ρs, lendS ρ1 as = some ρs ∧ SS ρs (kBack ρ1 as Q) fun _ _ _ => False
theorem u_call {SS : VSp} (h : tas ρ (kCall SS Q)) : vCall SS tas ρ Q := h
theorem k_call {SS : VSp} {as : List Arg} {ρs : List Slot} (e : lendS ρ as = some ρs) (h : SS ρs (kBack ρ as Q) fun _ _ _ => False) : kCall SS Q as ρ := ⟨ρs, e, h⟩
abbrev XP := Value → List (Str × D) → Rho → Prop
def kBackX (ρ1 : Rho) (as : List Arg) (EX : XP) : Value → List (Str × D) → List Slot → Prop := fun cls fs ss => EX cls fs (takeBack ρ1 as ss)
def kCallX (EX : XP) (SS : VSp) (Q : VK0) : List Arg → Rho → Prop := fun as ρ1 => ∃ ρs, lendS ρ1 as = some ρs ∧ SS ρs (kBack ρ1 as Q) (kBackX ρ1 as EX)
theorem u_callX {EX : XP} {SS : VSp} (h : tas ρ (kCallX EX SS Q)) : vCallX EX SS tas ρ Q := h
theorem k_callX {EX : XP} {SS : VSp} {as : List Arg} {ρs : List Slot} (e : lendS ρ as = some ρs) (h : SS ρs (kBack ρ as Q) (kBackX ρ as EX)) : kCallX EX SS Q as ρ := ⟨ρs, e, h⟩
theorem k_backX {EX : XP} {as : List Arg} {ss : List Slot} {cls : Value} {fs : List (Str × D)} (h : EX cls fs ρ') (e : takeBack ρ as ss = ρ') : kBackX ρ as EX cls fs ss := by show EX cls fs (takeBack ρ as ss); rw [e]; exact h
theorem k_back {as : List Arg} {ss : List Slot} (h : Q s ρ') (e : takeBack ρ as ss = ρ') : kBack ρ as Q s ss := by show Q s (takeBack ρ as ss); rw [e]; exact h
/-! targets -/
theorem u_gN {P : Rho → Prop} (e : ρ[i]? = some s) (hf : s.free = true) (h : P ρ') (hs : ρ.set i (.sh d) = ρ' := by dsimp only [List.set]) : gN i d ρ P := ⟨s, e, hf, by rw [hs]; exact h⟩
theorem u_gT {P : Rho → Prop} {is : List Nat} (hl : ds.length = is.length) (h : gTs is ds ρ P) : gT is (.tup ds) ρ P := ⟨ds, rfl, hl, h⟩
theorem u_gL {P : Rho → Prop} {is : List Nat} (hd : seqLD d = some ds) (hl : ds.length = is.length) (h : gTs is ds ρ P) : gL is d ρ P := ⟨ds, hd, hl, h⟩
theorem u_gTs0 {P : Rho → Prop} (h : P ρ) : gTs [] [] ρ P := h
theorem u_gTs {P : Rho → Prop} {is : List Nat} (h : gN i d ρ fun ρ' => gTs is ds ρ' P) : gTs (i :: is) (d :: ds) ρ P := h
/-! walks -/
variable {QI : List D → Rho → Prop}
def kItL (QI : List D → Rho → Prop) : VK0 := fun s ρ1 => ∃ d ds, slotD s = some d ∧ seqLD d = some ds ∧ QI ds ρ1
theorem u_itL (h : te ρ (kItL QI)) : vItL te ρ QI := h
theorem k_itL (e : slotD s = some d) (e2 : seqLD d = some ds) (h : QI ds ρ) : kItL QI s ρ := ⟨d, ds, e, e2, h⟩
def kItT (QI : List D → Rho → Prop) : VK0 := fun s ρ1 => ∃ d ds, slotD s = some d ∧ seqTD d = some ds ∧ QI ds ρ1
theorem u_itT (h : te ρ (kItT QI)) : vItT te ρ QI := h
theorem k_itT (e : slotD s = some d) (e2 : seqTD d = some ds) (h : QI ds ρ) : kItT QI s ρ := ⟨d, ds, e, e2, h⟩
def kItR1 (QI : List D → Rho → Prop) : List Arg → Rho → Prop := fun as ρ1 => ∃ n, argDs ρ1 as = some [.int n] ∧ (-(2 ^ 62) ≤ n ∧ n < 2 ^ 62) ∧ QI (rangeD 0 n.toNat) ρ1
theorem u_itR1 (h : tas ρ (kItR1 QI)) : vItR1 tas ρ QI := h
theorem k_itR1 {a : Arg} {n : Int} (ha : argD ρ a = some (.int n)) (hb : -(2 ^ 62) ≤ n ∧ n < 2 ^ 62) (h : QI (rangeD 0 n.toNat) ρ) : kItR1 QI [a] ρ := ⟨n, by unfold argDs; rw [ha]; rfl, hb, h⟩
def kItR2 (QI : List D → Rho → Prop) : List Arg → Rho → Prop := fun as ρ1 => ∃ m n, argDs ρ1 as = some [.int m, .int n] ∧ (-(2 ^ 62) ≤ m ∧ m < 2 ^ 62 ∧ -(2 ^ 62) ≤ n ∧ n < 2 ^ 62) ∧ QI (rangeD m (n - m).toNat) ρ1
theorem u_itR2 (h : tas ρ (kItR2 QI)) : vItR2 tas ρ QI := h
theorem k_itR2 {a b : Arg} {m n : Int} (ha : argD ρ a = some (.int m)) (hb : argD ρ b = some (.int n)) (hbd : -(2 ^ 62) ≤ m ∧ m < 2 ^ 62 ∧ -(2 ^ 62) ≤ n ∧ n < 2 ^ 62) (h : QI (rangeD m (n - m).toNat) ρ) : kItR2 QI [a, b] ρ := ⟨m, n, by unfold argDs argDs; rw [ha, hb]; rfl, hbd, h⟩
/-! loops -/
def kFor (g : VG) (tb : VS) (R : Out) : List D → Rho → Prop := fun ds ρ1 => ∃ I : Nat → Rho → Prop, I 0 ρ1 ∧ (∀ j d ρ', ds[j]? = some d → I j ρ' → g d ρ' fun ρ2 => tb { R with nx := I (j + 1), ct := I (j + 1), bk := R.nx } ρ2) ∧ ∀ ρ', I ds.length ρ' → R.nx ρ'
theorem u_for {it : VI} {g : VG} (h : it ρ (kFor g t (.mk nx rt bk ct))) : vFor it g t (.mk nx rt bk ct) ρ := h
theorem k_for {g : VG} (I : Nat → Rho → Prop) (h0 : I 0 ρ) (hs : ∀ j d ρ', ds[j]? = some d → I j ρ' → g d ρ' fun ρ2 => t (.mk (I (j + 1)) rt nx (I (j + 1))) ρ2) (hd : ∀ ρ', I ds.length ρ' → nx ρ') : kFor g t (.mk nx rt bk ct) ds ρ := ⟨I, h0, hs, hd⟩
theorem u_forK {g : VG} {kvs : List (Key × D)} (e : ρ[i]? = some (.sh (.dct kvs))) (I : Nat → Rho → Prop) (h0 : I 0 ρ) (hs : ∀ j k v ρ', kvs[j]? = some (k, v) → I j ρ' → g (dK k) ρ' fun ρ2 => t (.mk (I (j + 1)) rt nx (I (j + 1))) ρ2) (hd : ∀ ρ', I kvs.length ρ' → nx ρ') : vForK i g t (.mk nx rt bk ct) ρ := by
  refine ⟨kvs, e, I, h0, fun j d ρ' hj hI => ?_, fun ρ' hI => hd ρ' (by simpa using hI)⟩
  rw [List.getElem?_map] at hj
  obtain ⟨⟨k, v⟩, h1, h2⟩ := Option.map_eq_some_iff.mp hj
  subst h2
  exact hs j k v ρ' h1 hI
def kWhile (t : VS) (m : Nat) (I : Nat → Rho → Prop) (nx : Rho → Prop) (rt : Slot → Rho → Prop) : Bool → Rho → Prop := fun k ρ1 => (k = true → t (.mk (fun ρ2 => ∃ m', m' < m ∧ I m' ρ2) rt nx (fun ρ2 => ∃ m', m' < m ∧ I m' ρ2)) ρ1) ∧ (k = false → nx ρ1)
theorem u_while1 (I : Nat → Rho → Prop) (m : Nat) (h0 : I m ρ) (hs : ∀ m ρ', I m ρ' → tt ρ' (kWhile t m I nx rt)) : vWhile tt t (.mk nx rt bk ct) ρ := ⟨I, ⟨m, h0⟩, fun m ρ' h => hs m ρ' h⟩
theorem k_while {m : Nat} {I : Nat → Rho → Prop} (h1 : b = true → t (.mk (fun ρ2 => ∃ m', m' < m ∧ I m' ρ2) rt nx (fun ρ2 => ∃ m', m' < m ∧ I m' ρ2)) ρ) (h2 : b = false → nx ρ) : kWhile t m I nx rt b ρ := ⟨h1, h2⟩
/-! comprehensions -/
def kLcE (vs : List Nat) (acc : List D) (I : List D → Rho → Prop) : VK0 := fun s ρ4 => ∃ dy, slotD s = some dy ∧ acc.length < sizeLine ∧ I (acc ++ [dy]) (wipeR ρ4 vs)
def kLcT (te : VE) (vs : List Nat) (acc : List D) (I : List D → Rho → Prop) : Bool → Rho → Prop := fun b ρ3 => (b = true → te ρ3 (kLcE vs acc I)) ∧ (b = false → I acc (wipeR ρ3 vs))
def kLc (g : VG) (tt : VT) (te : VE) (vs : List Nat) (Q : VK0) : List D → Rho → Prop := fun ds ρ1 => (∀ v ∈ vs, ∃ s, ρ1[v]? = some s ∧ s.free = true) ∧ ∃ I : Nat → List D → Rho → Prop, I 0 [] (wipeR ρ1 vs) ∧
  (∀ j acc d ρ', ds[j]? = some d → I j acc ρ' → g d ρ' fun ρ2 => tt ρ2 (kLcT te vs acc (I (j + 1)))) ∧ ∀ acc ρ', I ds.length acc ρ' → Q (.ow false (.lst acc)) ρ'
theorem u_lc {it : VI} {g : VG} {vs : List Nat} (h : it ρ (kLc g tt te vs Q)) : vLc it g tt te vs ρ Q := h
/-- the general word -/
theorem k_lc {g : VG} {vs : List Nat} (hf : ∀ v ∈ vs, ∃ s, ρ[v]? = some s ∧ s.free = true) (I : Nat → List D → Rho → Prop) (h0 : I 0 [] (wipeR ρ vs)) (hs : ∀ j acc d ρ', ds[j]? = some d → I j acc ρ' → g d ρ' fun ρ2 => tt ρ2 (kLcT te vs acc (I (j + 1)))) (hd : ∀ acc ρ', I ds.length acc ρ' → Q (.ow false (.lst acc)) ρ') :
    kLc g tt te vs Q ds ρ := ⟨hf, I, h0, hs, hd⟩
theorem k_lcT {vs : List Nat} {acc : List D} {I : List D → Rho → Prop} (h1 : b = true → te ρ (kLcE vs acc I)) (h2 : b = false → I acc (wipeR ρ vs)) : kLcT te vs acc I b ρ := ⟨h1, h2⟩
theorem k_lcTT {vs : List Nat} {acc : List D} {I : List D → Rho → Prop} (h1 : te ρ (kLcE vs acc I)) : kLcT te vs acc I true ρ := ⟨fun _ => h1, fun z => by cases z⟩
theorem k_lcE {vs : List Nat} {acc : List D} {I : List D → Rho → Prop} (e : slotD s = some d) (hz : acc.length < sizeLine) (h : I (acc ++ [d]) ρ') (hs : wipeR ρ vs = ρ' := by dsimp only [wipeR, List.set]) : kLcE vs acc I s ρ := ⟨d, e, hz, by rw [hs]; exact h⟩
theorem u_yes (h : QB true ρ) : vYes ρ QB := h
/-- a pure one, over a list of encoded things -/
theorem k_lcM {α : Type} {g : VG} {vs : List Nat} (xs : List α) (f : α → D) (p : α → Bool) (y : α → D) (ρw : Rho) (hx : ds = xs.map f) (hz : xs.length < sizeLine) (hf : ∀ v ∈ vs, ∃ s, ρ[v]? = some s ∧ s.free = true)
    (hw : wipeR ρ vs = ρw) (hs : ∀ x acc (I : List D → Rho → Prop), x ∈ xs → acc.length < sizeLine → (p x = true → I (acc ++ [y x]) ρw) → (p x = false → I acc ρw) → g (f x) ρw fun ρ2 => tt ρ2 (kLcT te vs acc I))
    (h : Q (.ow false (.lst ((xs.filter p).map y))) ρw) : kLc g tt te vs Q ds ρ := by
  subst hx
  refine ⟨hf, fun j acc ρ' => ρ' = ρw ∧ acc = ((xs.take j).filter p).map y, ⟨hw, by simp⟩, fun j acc d ρ' hj ⟨e1, e2⟩ => ?_, fun acc ρ' ⟨e1, e2⟩ => ?_⟩
  · subst e1
    rw [List.getElem?_map] at hj
    obtain ⟨x, hx, ex⟩ := Option.map_eq_some_iff.mp hj
    subst ex
    have hl : j < xs.length := (List.getElem?_eq_some_iff.mp hx).1
    have hm : x ∈ xs := List.mem_of_getElem? hx
    have ht : xs.take (j + 1) = xs.take j ++ [x] := by rw [List.take_add_one, hx]; rfl
    refine hs x acc _ hm ?_ (fun hp => ⟨rfl, ?_⟩) (fun hp => ⟨rfl, ?_⟩)
    · subst e2
      have h1 := List.length_filter_le p (xs.take j)
      have h2 : (xs.take j).length ≤ xs.length := by rw [List.length_take]; omega
      rw [List.length_map]; omega
    · rw [ht, e2, List.filter_append, List.map_append]
      simp [hp]
    · rw [ht, e2, List.filter_append, List.map_append]
      simp [hp]
  · subst e1; subst e2
    rw [List.length_map, List.take_length]
    exact h
theorem u_lcK {g : VG} {vs : List Nat} {kvs : List (Key × D)} (e : ρ[i]? = some (.sh (.dct kvs))) (h : kLc g tt te vs Q (kvs.map fun kv => dK kv.1) ρ) : vLcK i g tt te vs ρ Q := ⟨kvs, e, h⟩

/-! ### primitives -/
variable {x y : Int} {a z : Str}
theorem p_addI (h : R (.val (.int (x + y)))) : addP [.int x, .int y] R := h
theorem p_addS (hz : a.length + z.length ≤ sizeLine) (h : R (.val (.str (a ++ z)))) : addP [.str a, .str z] R := ⟨hz, h⟩
theorem p_addL (hz : ds.length + es.length ≤ sizeLine) (h : R (.newL (ds ++ es))) : addP [.lst ds, .lst es] R := ⟨hz, h⟩
theorem p_addT (hz : ds.length + es.length ≤ sizeLine) (h : R (.newT (ds ++ es))) (h2 : R (.val (.tup (ds ++ es)))) : addP [.tup ds, .tup es] R := ⟨hz, h, h2⟩
theorem p_subI (h : R (.val (.int (x - y)))) : subP [.int x, .int y] R := h
theorem p_mulI (hc : CMul x y ∨ CMulW x y) (h : R (.val (.int (x * y)))) : mulP [.int x, .int y] R := ⟨hc, h⟩
theorem p_modI (hc : 0 < y) (h : R (.val (.int (x % y)))) : modP [.int x, .int y] R := ⟨hc, h⟩
theorem p_divI (hc : CDiv x y ∨ CDivW x y) (h : R (.val (.int (x / y)))) : divP [.int x, .int y] R := ⟨hc, h⟩
theorem p_powI (hc : CPow x y) (h : R (.val (.int (x ^ y.toNat)))) : powP [.int x, .int y] R := ⟨hc, h⟩
theorem p_negI (h : R (.val (.int (-x)))) : negP [.int x] R := h
theorem p_ltI (h : R (.val (.bl (decide (x < y))))) : ltP [.int x, .int y] R := h
theorem p_leI (h : R (.val (.bl (decide (x ≤ y))))) : leP [.int x, .int y] R := h
theorem p_gtI (h : R (.val (.bl (decide (y < x))))) : gtP [.int x, .int y] R := h
theorem p_geI (h : R (.val (.bl (decide (y ≤ x))))) : geP [.int x, .int y] R := h
theorem p_eqI (h : R (.val (.bl (decide (x = y))))) : eqP [.int x, .int y] R := h
theorem p_eqS (h : R (.val (.bl (decide (a = z))))) : eqP [.str a, .str z] R := h
theorem p_neI (h : R (.val (.bl (!decide (x = y))))) : neP [.int x, .int y] R := h
theorem p_neS (h : R (.val (.bl (!decide (a = z))))) : neP [.str a, .str z] R := h
theorem p_eqB {x y : Bool} (h : R (.val (.bl (decide (x = y))))) : eqP [.bl x, .bl y] R := h
theorem p_eqN (h : R (.val (.bl true))) : eqP [.non, .non] R := h
theorem p_neB {x y : Bool} (h : R (.val (.bl (!decide (x = y))))) : neP [.bl x, .bl y] R := h
theorem p_isNn (h : R (.val (.bl true))) : isNP [.non, .non] R := h
theorem p_isNi (h : R (.val (.bl false))) : isNP [.int x, .non] R := h
theorem p_isNs (h : R (.val (.bl false))) : isNP [.str a, .non] R := h
theorem p_isNb {x : Bool} (h : R (.val (.bl false))) : isNP [.bl x, .non] R := h
theorem p_isNl (h : R (.val (.bl false))) : isNP [.lst ds, .non] R := h
theorem p_isNt (h : R (.val (.bl false))) : isNP [.tup ds, .non] R := h
theorem p_isNd {kvs : List (Key × D)} (h : R (.val (.bl false))) : isNP [.dct kvs, .non] R := h
theorem p_notNn (h : R (.val (.bl false))) : notNP [.non, .non] R := h
theorem p_notNi (h : R (.val (.bl true))) : notNP [.int x, .non] R := h
theorem p_notNs (h : R (.val (.bl true))) : notNP [.str a, .non] R := h
theorem p_notNb {x : Bool} (h : R (.val (.bl true))) : notNP [.bl x, .non] R := h
theorem p_notNl (h : R (.val (.bl true))) : notNP [.lst ds, .non] R := h
theorem p_notNt (h : R (.val (.bl true))) : notNP [.tup ds, .non] R := h
theorem p_notNd {kvs : List (Key × D)} (h : R (.val (.bl true))) : notNP [.dct kvs, .non] R := h
theorem p_isi {T t : String} {b' : Bool} (ht : tyD d = some t) (hk : kitB t T = some b') (h : R (.val (.bl b'))) : isiP [d, .opq (.ty T)] R := ⟨d, T, t, b', rfl, ht, hk, h⟩
theorem p_isiT {T1 T2 t : String} {b' : Bool} (ht : tyD d = some t) (hk : kitAnyB t [T1, T2] = some b') (h : R (.val (.bl b'))) : isiTP [d, .tup [.opq (.ty T1), .opq (.ty T2)]] R := ⟨d, [T1, T2], t, b', rfl, ht, hk, h⟩
theorem p_reprI (hz : x.natAbs.log2 < 1920) (h : R (.val (.str (toString x)))) : reprP [.int x] R := ⟨hz, h⟩
theorem p_reprS (hz : (reprText a).length ≤ sizeLine) (h : R (.val (.str (reprText a)))) : reprP [.str a] R := ⟨hz, h⟩
theorem p_reprB {x : Bool} (h : R (.val (.str (if x then "True" else "False")))) : reprP [.bl x] R := h
theorem p_reprN (h : R (.val (.str "None"))) : reprP [.non] R := h
theorem p_lenL (h : R (.val (.int ds.length))) : lenP [.lst ds] R := h
theorem p_lenF (h : R (.val (.int ds.length))) : lenP [.fls ds] R := h
theorem p_lenT (h : R (.val (.int ds.length))) : lenP [.tup ds] R := h
theorem p_lenD {kvs : List (Key × D)} (h : R (.val (.int kvs.length))) : lenP [.dct kvs] R := h
theorem p_lenS (hz : a.length ≤ sizeLine) (h : R (.val (.int a.length))) : lenP [.str a] R := ⟨hz, h⟩
theorem p_absI (h : R (.val (.int (if x < 0 then -x else x)))) : absP [.int x] R := h
theorem p_intI (h : R (.val (.int x))) : intP [.int x] R := h
theorem p_strI (hz : x.natAbs.log2 < 1920) (h : R (.val (.str (toString x)))) : strP [.int x] R := ⟨hz, h⟩
theorem p_listL (h : R (.newL ds)) : listP [.lst ds] R := ⟨ds, .inl rfl, h⟩
theorem p_listF (h : R (.newL ds)) : listP [.fls ds] R := ⟨ds, .inl rfl, h⟩
theorem p_listD {kvs : List (Key × D)} (h : R (.newL (kvs.map fun kv => dK kv.1))) : listP [.dct kvs] R := h
theorem p_ixL (e : L2.atI ds x = some d) (h : R (.val d)) : ixP [.lst ds, .int x] R := ⟨ds, d, .inl rfl, e, h⟩
theorem p_ixF (e : L2.atI ds x = some d) (h : R (.val d)) : ixP [.fls ds, .int x] R := ⟨ds, d, .inl rfl, e, h⟩
theorem p_ixT (e : L2.atI ds x = some d) (h : R (.val d)) : ixP [.tup ds, .int x] R := ⟨ds, d, .inr rfl, e, h⟩
theorem p_ixLj (j : Nat) (hj : x = (j : Int)) (e : ds[j]? = some d) (h : R (.val d)) : ixP [.lst ds, .int x] R := p_ixL (by rw [hj]; exact atI_nat e) h
theorem p_ixTj (j : Nat) (hj : x = (j : Int)) (e : ds[j]? = some d) (h : R (.val d)) : ixP [.tup ds, .int x] R := p_ixT (by rw [hj]; exact atI_nat e) h
theorem p_ixFj (j : Nat) (hj : x = (j : Int)) (e : ds[j]? = some d) (h : R (.val d)) : ixP [.fls ds, .int x] R := p_ixF (by rw [hj]; exact atI_nat e) h
theorem p_ixLn (h0 : 0 ≤ x) (e : ds[x.toNat]? = some d) (h : R (.val d)) : ixP [.lst ds, .int x] R := p_ixLj x.toNat (by omega) e h
theorem p_ixFn (h0 : 0 ≤ x) (e : ds[x.toNat]? = some d) (h : R (.val d)) : ixP [.fls ds, .int x] R := p_ixFj x.toNat (by omega) e h
theorem p_ixTn (h0 : 0 ≤ x) (e : ds[x.toNat]? = some d) (h : R (.val d)) : ixP [.tup ds, .int x] R := p_ixTj x.toNat (by omega) e h
theorem k_setL2j (j : Nat) {k : Int} (hk : k = (j : Int)) (e : ρ[i]? = some (.ow b (.lst ds))) (hj : j < ds.length) (ed : slotD s = some d) (h : nx ρ') (hs : ρ.set i (.ow b (.lst (ds.set j d))) = ρ' := by dsimp only [List.set]) : kSetL2 i s nx (.sh (.int k)) ρ :=
  k_setL2 e (by subst hk; unfold ixN; rw [if_pos (by omega), if_pos (by omega)]; simp) ed h hs
theorem k_augL1j (j : Nat) {k : Int} (hk : k = (j : Int)) (e : ρ[i]? = some (.ow b (.lst ds))) (ed : ds[j]? = some d) (h : te ρ (kAugL2 i op (j : Int) d nx)) : kAugL1 i op te nx (.sh (.int k)) ρ := by
  subst hk
  exact k_augL1 e (by omega) (by simpa using ed) h
theorem k_augL2j {j : Nat} (e : ρ[i]? = some (.ow b (.lst ds))) (hk : j < ds.length) (h : nx ρ') (hs : ρ.set i (.ow b (.lst (ds.set j (.int (x + y))))) = ρ' := by dsimp only [List.set]) : kAugL2 i iaddP (j : Int) (.int x) nx (.sh (.int y)) ρ :=
  k_augL2 e (by omega) h (by simpa using hs)
theorem p_ixD {kvs : List (Key × D)} {kd : D} {key : Key} (ek : keyD kd = some key) (e : lookK kvs key = some d) (h : R (.val d)) : ixP [.dct kvs, kd] R := by
  cases kd <;> first | exact ⟨key, d, ek, e, h⟩ | cases ek
theorem p_ixS {c : Nat} (hz : a.length ≤ sizeLine) (e : L2.atI a.cps.toList x = some c) (h : R (.val (.str ⟨#[c]⟩))) : ixP [.str a, .int x] R := ⟨hz, c, e, h⟩
theorem p_ixSn {c : Nat} (hz : a.length ≤ sizeLine) (h0 : 0 ≤ x) (e : a.cps.toList[x.toNat]? = some c) (h : R (.val (.str ⟨#[c]⟩))) : ixP [.str a, .int x] R := p_ixS hz (by
  have hx : x = (x.toNat : Int) := by omega
  rw [hx]; exact atI_nat e) h
theorem p_inD {kvs : List (Key × D)} {kd : D} {key : Key} (ek : keyD kd = some key) (h : R (.val (.bl (ifN b (lookK kvs key).isSome)))) : inP b [kd, .dct kvs] R := ⟨key, ek, h⟩
theorem flatL_ints : ∀ ns : List Int, flatL (ns.map D.int) = some (ns.map V.int)
  | [] => rfl
  | n :: r => by rw [List.map_cons]; unfold flatL; rw [flatL_ints r]; rfl
theorem flatL_strs : ∀ ns : List Str, flatL (ns.map D.str) = some (ns.map V.str)
  | [] => rfl
  | n :: r => by rw [List.map_cons]; unfold flatL; rw [flatL_strs r]; rfl
theorem inV_str (x : Str) : ∀ ss : List Str, inV (.str x) (ss.map V.str) = decide (x ∈ ss)
  | [] => rfl
  | s :: r => by
    have ih := inV_str x r
    unfold inV at ih ⊢
    rw [List.map_cons, List.any_cons, ih]
    show ((s == x) || decide (x ∈ r)) = decide (x ∈ s :: r)
    by_cases e : x = s
    · subst e; simp
    · have e2 : ¬ s = x := fun z => e z.symm
      simp [e, e2]
theorem inV_int (x : Int) : ∀ ss : List Int, inV (.int x) (ss.map V.int) = decide (x ∈ ss)
  | [] => rfl
  | s :: r => by
    have ih := inV_int x r
    unfold inV at ih ⊢
    rw [List.map_cons, List.any_cons, ih]
    show ((s == x) || decide (x ∈ r)) = decide (x ∈ s :: r)
    by_cases e : x = s
    · subst e; simp
    · have e2 : ¬ s = x := fun z => e z.symm
      simp [e, e2]
theorem p_inS {ss : List Str} (h : R (.val (.bl (ifN b (decide (a ∈ ss)))))) : inP b [.str a, .lst (ss.map D.str)] R := ⟨_, _, _, .inl rfl, rfl, flatL_strs ss, by rw [inV_str]; exact h⟩
theorem p_inI {ss : List Int} (h : R (.val (.bl (ifN b (decide (x ∈ ss)))))) : inP b [.int x, .lst (ss.map D.int)] R := ⟨_, _, _, .inl rfl, rfl, flatL_ints ss, by rw [inV_int]; exact h⟩
theorem p_inS0 {ss : List Str} (h : R (.val (.bl (decide (a ∈ ss))))) : inP false [.str a, .lst (ss.map D.str)] R := p_inS h
theorem p_inS1 {ss : List Str} (h : R (.val (.bl (!decide (a ∈ ss))))) : inP true [.str a, .lst (ss.map D.str)] R := p_inS h
theorem p_inI0 {ss : List Int} (h : R (.val (.bl (decide (x ∈ ss))))) : inP false [.int x, .lst (ss.map D.int)] R := p_inI h
theorem p_inI1 {ss : List Int} (h : R (.val (.bl (!decide (x ∈ ss))))) : inP true [.int x, .lst (ss.map D.int)] R := p_inI h
theorem p_inD0 {kvs : List (Key × D)} {kd : D} {key : Key} (ek : keyD kd = some key) (h : R (.val (.bl (lookK kvs key).isSome))) : inP false [kd, .dct kvs] R := p_inD ek h
theorem p_inD1 {kvs : List (Key × D)} {kd : D} {key : Key} (ek : keyD kd = some key) (h : R (.val (.bl (!(lookK kvs key).isSome)))) : inP true [kd, .dct kvs] R := p_inD ek h
theorem p_slL {lo hi : Option Int} (h : R (.newL (cutL ds lo hi))) : slP lo hi [.lst ds] R := h
theorem p_slF {lo hi : Option Int} (h : R (.newL (cutL ds lo hi))) : slP lo hi [.fls ds] R := h
theorem p_slS {lo hi : Option Int} (hz : a.length ≤ sizeLine) (h : R (.val (.str (cutS a lo hi)))) : slP lo hi [.str a] R := ⟨hz, h⟩
theorem p_sum {ns : List Int} (h : R (.val (.int ns.sum))) : sumP [.lst (ns.map D.int)] R := ⟨_, _, ns, rfl, rfl, rfl, h⟩
theorem p_join {ys : List Str} (hz : (ys.map (·.length)).sum + ys.length * a.length ≤ 16777216) (h : R (.val (.str (Txt.join a ys)))) : joinP [.str a, .lst (ys.map D.str)] R := ⟨a, _, _, ys, rfl, rfl, rfl, hz, h⟩
theorem p_max2 (h : R (.val (.int (if y > x then y else x)))) : maxP [.int x, .int y] R := h
theorem p_min2 (h : R (.val (.int (if y < x then y else x)))) : minP [.int x, .int y] R := h
theorem p_maxL {ns : List Int} (hn : ns ≠ []) (h : ∀ m, m ∈ ns → (∀ y ∈ ns, y ≤ m) → R (.val (.int m))) : maxP [.lst (ns.map D.int)] R := ⟨_, ns, rfl, rfl, hn, h⟩
theorem p_minL {ns : List Int} (hn : ns ≠ []) (h : ∀ m, m ∈ ns → (∀ y ∈ ns, m ≤ y) → R (.val (.int m))) : minP [.lst (ns.map D.int)] R := ⟨_, ns, rfl, rfl, hn, h⟩
theorem p_all {bs : List Bool} (h : R (.val (.bl (bs.all id)))) : allP [.lst (bs.map D.bl)] R := ⟨_, _, bs, rfl, rfl, rfl, h⟩
theorem p_any {bs : List Bool} (h : R (.val (.bl (bs.any id)))) : anyP [.lst (bs.map D.bl)] R := ⟨_, _, bs, rfl, rfl, rfl, h⟩
theorem p_sortS {xs : List Str} (hz : xs.length < 64) (h : ∀ ys : List Str, ys.Perm xs → sortedS ys = true → R (.newL (ys.map D.str))) : sortedP [.lst (xs.map D.str)] R := ⟨_, _, rfl, rfl, .inr ⟨xs, rfl, hz, h⟩⟩
theorem p_sortI {xs : List Int} (h : ∀ ys : List Int, ys.Perm xs → ys.Pairwise (· ≤ ·) → R (.newL (ys.map D.int))) : sortedP [.lst (xs.map D.int)] R := ⟨_, _, rfl, rfl, .inl ⟨xs, rfl, h⟩⟩
theorem p_dict {kvs : List (Key × D)} (e : pairsD ds = some kvs) (h : R (.newD (mergeD [] kvs))) : dictP [.lst ds] R := ⟨_, ds, kvs, rfl, rfl, e, h⟩
end
end WL

set_option Elab.async false
set_option linter.all false
set_option maxRecDepth 100000
set_option maxHeartbeats 4000000
/-! WX: exceptions of the program's own classes: made, raised, caught. -/
namespace WL
open PySem PySem.Spec PyProof.Rows L2

/-- what __init__ of such a class does: its arguments become fields -/
def spI (K : PySem.W.Frag) (fl : List Str) : Sp := fun vs H Q _ => ∃ (a C : Addr) (ys : List V), vs = .ref a :: ys ∧ ys.length = fl.length ∧ OexC K C ∧ (∀ f ∈ fl, PySem.W.findIn K (.ref C) f = some none) ∧ H a = some (exo a C none) ∧
  ∀ dx, H dx = none → dx ≠ a → Q .non (upd (upd H dx (exd dx (fl.zip ys).reverse)) a (exo a C (some dx)))
/-- the field list as it stands -/
def mkF (fl : List Str) (ds : List D) : List (Str × D) := (fl.zip ds).reverse
theorem RepX.append {K : PySem.W.Frag} {H : Hp} : ∀ {vs ws : List (Str × V)} {ds es : List (Str × D)}, RepX K H vs ds → RepX K H ws es → RepX K H (vs ++ ws) (ds ++ es)
  | _, _, _, _, .nil, s => s
  | _, _, _, _, .cons r t, s => .cons r (RepX.append t s)
theorem repX_mk {K : PySem.W.Frag} {H : Hp} : ∀ {fl : List Str} {vs : List V} {ds : List D}, Reps K H vs ds → RepX K H (fl.zip vs).reverse (mkF fl ds)
  | [], _, _, _ => by unfold mkF; simp; exact .nil
  | f :: fl, _, _, .nil => by unfold mkF; simp; exact .nil
  | f :: fl, _, _, .cons r t => by
    unfold mkF
    simp only [List.zip_cons_cons, List.reverse_cons]
    exact RepX.append (repX_mk t) (.cons r .nil)
/-- an own exception class, as raises want it -/
structure XCls (P : Program) (w : World) (K : PySem.W.Frag) (mg : Str → Option Value) (base : Heap) (x : Str) (C : Addr) (fl : List Str) (k : Nat) : Prop where
  oex : OexC K C
  ini : ∃ fI fd ps, PySem.W.findIn K (.ref C) "__init__" = some (some (.ref fI)) ∧ PySem.W.typeIn K (.ref fI) = some (.type "function") ∧ FnOk P w K mg base (L2.CX P w) k fI fd ps (spI K fl) ∧ Binds K fd ps []
  fld : ∀ f ∈ fl, PySem.W.findIn K (.ref C) f = some none
  mg : mg x = some (.ref C)
section
variable {X : Cx} {Φ : Fr} {x : Str} {C : Addr} {fl : List Str} {k : Nat} {e : Expr} {es : List Expr} {tas : VA} {p pos pos' : Pos}
/-- raise C(e, ..) -/
def vRaise (EX : XP) (C : Addr) (fl : List Str) (ta : VA) : VS := fun _ ρ => ta ρ fun as ρ1 => ∃ ds, argVs as = some ds ∧ ds.length = fl.length ∧ ds.length ≤ 1000 ∧ EX (.ref C) (mkF fl ds) ρ1
theorem pws_raise (hc : X.calm = true) (tk : Tk X Φ) (T : XCls X.prog X.w X.K X.mg X.base x C fl k) (hr : Room (k + 1) X.A) (hg : Gl X x) (ha : PWA X Φ (e :: es) tas) (hd : (x == ("__debug__" : Str)) = false := by decide)
    (h1 : starEach (e :: es) X.env = (false, eval e X.env) :: starEach es X.env := by rfl) (h2 : (backTo pos (starEach es X.env)).any (·.1) = false := by rfl) :
    PWS X Φ (.Raise (some (.Call (.Name x p) (e :: es) [] pos)) none pos') (vRaise Φ.EX C fl tas) := by
  obtain ⟨fI, fd, ps, iC, tI, F1, hb⟩ := T.ini
  refine ⟨fun ρ R Hk T' σ H Dn q hh o => tSemS_of (ps_raise hc tk (pmk_oex T.oex iC tI F1 hr hb .nil passL hg T.mg pa_sem hd h1 h2)) ?_⟩
  refine ha.run ρ _ Hk T' σ H _ q hh fun vs H1 Hk1 ρ1 as ts e1 has h1 k1 ⟨ds, ed, hl, hz, q1⟩ => ?_
  obtain ⟨Hk2, e2, rs, h2⟩ := has.known ed h1
  refine ⟨by rw [rs.length]; exact hz, fun a ha' => ?_⟩
  refine ⟨a, C, vs ++ [], rfl, by rw [List.append_nil, rs.length]; exact hl, T.oex, T.fld, upd_same, fun dx hdx hne => ⟨rfl, dx, _, upd_same, by rw [upd_ne hne, upd_same], by rw [upd_ne hne] at hdx; exact hdx, ?_⟩⟩
  have hdx1 : H1 dx = none := by rw [upd_ne hne] at hdx; exact hdx
  have eH : upd (del (upd (upd (upd H1 a (exo a C none)) dx (exd dx (fl.zip (vs ++ [])).reverse)) a (exo a C (some dx))) a) dx (.xd (fl.zip (vs ++ [])).reverse) = upd H1 dx (.xd (fl.zip (vs ++ [])).reverse) := by
    funext b
    by_cases hb1 : b = dx
    · subst hb1; rw [upd_same, upd_same]
    · rw [upd_ne hb1, upd_ne hb1]
      by_cases hb2 : b = a
      · subst hb2; rw [del_same, ha']
      · rw [del_ne hb2, upd_ne hb2, upd_ne hb1, upd_ne hb2]
  rw [eH]
  have h3 := h2.know (u := .xd (fl.zip (vs ++ [])).reverse) hdx1
  refine ⟨_, ρ1, mkF fl ds, Holds.drop (ts := T') (T := []) (by rw [List.append_nil]; exact h3), .inr ⟨dx, _, rfl, upd_same, ?_⟩, q1⟩
  rw [List.append_nil]
  exact repX_mk (rs.mono (h2.know_same hdx1))
end

/-! ### try .. except C as e -/
/-- a run inside a run: its frame -/
def Fr.sub (Φ : Fr) (T : List Cell) (Hk : Hp) (σ : L2.St) (ρ : Rho) (EX : XP) : Fr := ⟨T ++ Φ.T0, Hk, σ, ρ, EX⟩
section
variable {K : PySem.W.Frag} {Φ : Fr} {Hk Hk' H H' : Hp} {ρ ρ' : Rho} {T T' : List Cell} {σ σ' : L2.St} {EX : XP}
theorem Holds.into (h : Holds K Φ Hk ρ T σ H) : Holds K (Φ.sub T Hk σ ρ EX) Hk ρ [] σ H := ⟨h.len, by simpa [Fr.sub] using h.hl, .refl _, .refl _ _⟩
theorem Holds.out (hh : Holds K Φ Hk ρ T σ H) (h : Holds K (Φ.sub T Hk σ ρ EX) Hk' ρ' T' σ' H') : Holds K Φ Hk' ρ' (T' ++ T) σ' H' := ⟨h.len, by have := h.hl; simpa [Fr.sub, List.append_assoc] using this, hh.ex0.trans h.ex0, hh.kp0.trans h.kp0⟩
theorem Holds.sub_of {ρ2 : Rho} {σ2 : L2.St} {Hk2 : Hp} {EX2 : XP} (h : Holds K (Φ.sub T Hk2 σ2 ρ2 EX2) Hk' ρ' T' σ' H') (e : Same Hk Hk') (k : Kp σ ρ σ' ρ') : Holds K (Φ.sub T Hk σ ρ EX) Hk' ρ' T' σ' H' := ⟨h.len, h.hl, e, k⟩
theorem OutOk.into {R : Out} {D : Ends} (hh : Holds K Φ Hk ρ T σ H) (o : OutOk K Φ Hk T σ ρ R D) : OutOk K (Φ.sub T Hk σ ρ EX) Hk [] σ ρ R D :=
  ⟨fun σ' H' Hk' ρ' e h k q => o.nx σ' H' Hk' ρ' e (hh.out h) k q, fun v σ' H' Hk' ρ' r e h k q => o.rt v σ' H' Hk' ρ' r e (hh.out h) k q,
    fun σ' H' Hk' ρ' e h k q => o.bk σ' H' Hk' ρ' e (hh.out h) k q, fun σ' H' Hk' ρ' e h k q => o.ct σ' H' Hk' ρ' e (hh.out h) k q⟩
end
/-- what the clause makes of an exception -/
def kTry (M : Value → Value → Option Bool) (EX : XP) (c : Value) (i : Nat) (u : Addr → Value → List (Str × D) → VS) (R : Out) : XP := fun cls fs ρ' => ∃ s b, ρ'[i]? = some s ∧ s.free = true ∧ M cls c = some b ∧
  (b = true → ∀ a, u a cls fs { nx := fun ρ2 => R.nx (ρ2.set i .un), rt := R.rt, bk := fun ρ2 => R.bk (ρ2.set i .un), ct := fun ρ2 => R.ct (ρ2.set i .un) } (ρ'.set i (.sh (.opq (.ref a))))) ∧ (b = false → EX cls fs ρ')
def vTryAs (M : Value → Value → Option Bool) (EX : XP) (c : Value) (i : Nat) (t : XP → VS) (u : Addr → Value → List (Str × D) → VS) : VS := fun R ρ => (∃ s, ρ[i]? = some s ∧ s.free = true) ∧ t (kTry M EX c i u R) R ρ
section
variable {X : Cx} {Φ : Fr} {x n : Str} {c : Value} {i : Nat} {body suite : List Stmt} {b₀ : Stmt} {np pos pos' : Pos} {t : XP → VS} {u : Addr → Value → List (Str × D) → VS}
theorem pws_tryAs (hs : X.stack = X.env :: X.outer) (hf : X.env.frame = some X.env.locals) (hN : X.N.Nodup) (hi : X.N[i]? = some n) (hln : X.env.kindOf n = some .local) (hc : Names X x c) (tk : Tk X Φ)
    (hb : ∀ (Φ' : Fr) (pn : List (Addr × Obj)) (xe : Value → Shared → Prop), Tk (X.tr pn xe) Φ' → PassesOwn (model X.prog X.w) X.A X.env xe → PWSs (X.tr pn xe) Φ' body (t Φ'.EX))
    (hsu : ∀ (Φ' : Fr) (a : Addr) (oe : Obj) (cls : Value) (d : Option Addr) (fs : List (Str × D)) (pn : List (Addr × Obj)), Zc cls d oe → (∃ vs, oe.data = .fields vs) → ExAt X.K Φ'.Hk0 d fs → PWSs (X.suite a ((a, oe) :: pn)) Φ' (b₀ :: suite) (u a cls fs)) :
    PWS X Φ (.Try body [.ExceptHandler (some (.Name x np)) (some n) (b₀ :: suite) pos'] [] [] pos) (vTryAs (PySem.W.exmOne X.K) Φ.EX c i t u) := ⟨fun ρ R Hk T σ H D ⟨⟨s0, e0, f0⟩, q⟩ hh o => by
  refine tSemS_of (ps_try_as (tb := fun W => fun D σ H => ∀ pn xe, Takes (X.tr pn xe) W → PassesOwn (model X.prog X.w) X.A X.env xe → tSemSs (X.tr pn xe) body D σ H)
    (ts := fun a cls d => fun D σ H => ∀ oe pn, Zc cls d oe → (∃ vs, oe.data = .fields vs) → tSemSs (X.suite a ((a, oe) :: pn)) (b₀ :: suite) D σ H) (Wout := WΦ X.K Φ) hs hf hN hi hln hc tk
    (fun W pn xe tkW po => ⟨fun pins s σ H D I h => (h pn xe tkW po) pins s I⟩) (fun a oe cls d pn hz hfl => ⟨fun pins s σ H D I h => (h oe pn hz hfl) pins s I⟩)) ?_
  intro pn xe tkW po
  refine (hb (Φ.sub T Hk σ ρ (kTry (PySem.W.exmOne X.K) Φ.EX c i u R)) pn xe (tkW.imp ?_) po).run ρ R Hk [] σ H D q hh.into (o.into hh)
  rintro cls d σ' H' ⟨Hk', ρ', fs, h2, xa, s, b, es, fr, hm, hT, hF⟩
  refine ⟨b, hm, fun hb1 a ha oe pn' hz hfl => ?_, fun hb1 => ⟨Hk', ρ', fs, Holds.drop (ts := T) (T := []) (by rw [List.append_nil]; exact hh.out h2), xa, hF hb1⟩⟩
  have h3 : Holds X.K (Φ.sub T Hk' σ' ρ' fun _ _ _ => False) Hk' (ρ'.set i (.sh (.opq (.ref a)))) [] (σ'.set i (some (.ref a))) H' :=
    (Holds.store (Holds.sh (h2.sub_of (.refl _) (.refl _ _)) (.opq (v := .ref a))) es fr)
  have off : Off (Φ.sub T Hk σ ρ fun _ _ _ => False) [i] := Off.of (K := X.K) (Hk := Hk) (T := []) (H := H) hh.into fun v hv => by rw [List.mem_singleton.mp hv]; exact ⟨s0, e0, f0⟩
  have fin : ∀ {σ'' : L2.St} {H'' Hk'' : Hp} {ρ'' : Rho}, Same Hk' Hk'' → Holds X.K (Φ.sub T Hk' σ' ρ' fun _ _ _ => False) Hk'' ρ'' [] σ'' H'' → Kp (σ'.set i (some (.ref a))) (ρ'.set i (.sh (.opq (.ref a)))) σ'' ρ'' →
      Holds X.K (Φ.sub T Hk σ ρ fun _ _ _ => False) Hk'' (ρ''.set i .un) [] (σ''.set i none) H'' := fun e h k => Holds.set_un (h.sub_of (h2.ex0.trans e) (h2.kp0.trans ((kp_store es fr).trans k))) off
  refine (hsu (Φ.sub T Hk' σ' ρ' fun _ _ _ => False) a oe cls d fs pn' hz hfl xa).run _ _ Hk' [] _ H' _ (hT hb1 a) h3 ⟨fun σ'' H'' Hk'' ρ'' e h k q' => ?_, fun v σ'' H'' Hk'' ρ'' r e h k q' => ?_, fun σ'' H'' Hk'' ρ'' e h k q' => ?_, fun σ'' H'' Hk'' ρ'' e h k q' => ?_⟩
  · have h4 := fin e h k
    exact o.nx _ H'' Hk'' _ h4.ex0 (hh.out h4) h4.kp0 q'
  · have h4 : Holds X.K (Φ.sub T Hk σ ρ fun _ _ _ => False) Hk'' ρ'' [(some v, r)] σ'' H'' := h.sub_of (h2.ex0.trans e) (h2.kp0.trans ((kp_store es fr).trans k))
    exact o.rt v _ H'' Hk'' ρ'' r h4.ex0 (hh.out h4) h4.kp0 q'
  · have h4 := fin e h k
    exact o.bk _ H'' Hk'' _ h4.ex0 (hh.out h4) h4.kp0 q'
  · have h4 := fin e h k
    exact o.ct _ H'' Hk'' _ h4.ex0 (hh.out h4) h4.kp0 q'⟩
end
/-! ### a caught exception's field -/
def vXf (Xf : Value → Str → Prop) (i : Nat) (a : Addr) (cls : Value) (fs : List (Str × D)) (f : Str) : VE := fun ρ Q => ρ[i]? = some (.sh (.opq (.ref a))) ∧ Xf cls f ∧ ∃ d, fs.lookup f = some d ∧ Q (.sh d) ρ
def XfOk (K : PySem.W.Frag) (cls : Value) (f : Str) : Prop := ∃ C, cls = .ref C ∧ XfC K C ∧ PySem.W.findIn K (.ref C) f = some none
theorem RepX.look {K : PySem.W.Frag} {H : Hp} {f : Str} {d : D} : ∀ {vs : List (Str × V)} {fs : List (Str × D)}, RepX K H vs fs → fs.lookup f = some d → ∃ v, vs.lookup f = some v ∧ Rep K H v d
  | _, _, .nil, e => by cases e
  | _, _, .cons (k := k) (v := v) (d := d') r t, e => by
    rw [List.lookup_cons] at e ⊢
    cases h : (f == k) with
    | true => rw [h] at e; cases e; exact ⟨v, rfl, r⟩
    | false => rw [h] at e; exact RepX.look t e
theorem pwe_xf {X : Cx} {Φ : Fr} {a : Addr} {oe : Obj} {cls : Value} {d : Option Addr} {fs : List (Str × D)} {pn : List (Addr × Obj)} {x f : Str} {p pos : Pos} (i : Nat) (hz : Zc cls d oe) (hf : ∃ vs, oe.data = .fields vs) (xa : ExAt X.K Φ.Hk0 d fs)
    (hp : PE (X.suite a ((a, oe) :: pn)) (.Name x p) (tVar i)) (hb : attributeBase (.Name x p) f X.env (eval (.Name x p) X.env) = eval (.Name x p) X.env := by rfl) :
    PWE (X.suite a ((a, oe) :: pn)) Φ (.Attribute (.Name x p) f pos) (vXf (XfOk X.K) i a cls fs f) := ⟨fun ρ Q Hk T σ H P ⟨er, ⟨C, ec, T1, hno⟩, dv, el, q⟩ hh po => by
  obtain ⟨v, ev, r⟩ := hh.get_sh er
  have evr : v = .ref a := by cases r; rfl
  subst evr
  rcases xa.mono hh.ex0 with z | ⟨dd, vs, ed, hd, rx⟩
  · subst z; cases el
  · obtain ⟨y, ly, ry⟩ := rx.look el
    exact tSem_of (pe_xf T1 hno hz hf hp hb) ⟨.ref a, ev, rfl, ec, dd, vs, y, ed, hh.ex _ _ hd, ly, po y H Hk ρ _ (.refl _) (hh.sh ry) (.refl _ _) q⟩⟩
/-- __init__ with one field -/
theorem init1 {K : PySem.W.Frag} {f : Str} {vs : List V} {H : Hp} {Q : VK} {E : XK} {D : Ends} (h : spI K [f] vs H Q E) (hD : ∀ σ H, Q .non H → D.nx σ H) : ∃ a y, vs = [.ref a, y] ∧ tOst K f (tVar 0) (tVar 1) D [some (.ref a), some y] H := by
  obtain ⟨a, C, ys, rfl, hl, ox, hf, hH, q⟩ := h
  match ys, hl with
  | [y], _ => exact ⟨a, y, rfl, y, rfl, .ref a, rfl, a, C, rfl, ox, hf f (by simp), .inl ⟨hH, fun dx h1 h2 => hD _ _ (q dx h1 h2)⟩⟩
/-! ### try .. except C -/
def kTryO (M : Value → Value → Option Bool) (EX : XP) (c : Value) (u : VS) (R : Out) : XP := fun cls fs ρ' => ∃ b, M cls c = some b ∧ (b = true → u R ρ') ∧ (b = false → EX cls fs ρ')
def vTryO (M : Value → Value → Option Bool) (EX : XP) (c : Value) (t : XP → VS) (u : VS) : VS := fun R ρ => t (kTryO M EX c u R) R ρ
section
variable {X : Cx} {Φ : Fr} {x : Str} {c : Value} {body suite : List Stmt} {b₀ : Stmt} {np pos pos' : Pos} {t : XP → VS} {u : VS}
theorem pws_tryO (hs : X.stack = X.env :: X.outer) (hf : X.env.frame = some X.env.locals) (hc : Names X x c) (tk : Tk X Φ)
    (hb : ∀ (Φ' : Fr) (pn : List (Addr × Obj)) (xe : Value → Shared → Prop), Tk (X.tr pn xe) Φ' → PassesOwn (model X.prog X.w) X.A X.env xe → PWSs (X.tr pn xe) Φ' body (t Φ'.EX))
    (hsu : ∀ (Φ' : Fr) (a : Addr) (oe : Obj) (cls : Value) (d : Option Addr) (pn : List (Addr × Obj)), Zc cls d oe → (∃ vs, oe.data = .fields vs) → PWSs (X.suite a ((a, oe) :: pn)) Φ' (b₀ :: suite) u) :
    PWS X Φ (.Try body [.ExceptHandler (some (.Name x np)) none (b₀ :: suite) pos'] [] [] pos) (vTryO (PySem.W.exmOne X.K) Φ.EX c t u) := ⟨fun ρ R Hk T σ H D q hh o => by
  refine tSemS_of (ps_try_only (tb := fun W => fun D σ H => ∀ pn xe, Takes (X.tr pn xe) W → PassesOwn (model X.prog X.w) X.A X.env xe → tSemSs (X.tr pn xe) body D σ H)
    (ts := fun a cls d => fun D σ H => ∀ oe pn, Zc cls d oe → (∃ vs, oe.data = .fields vs) → tSemSs (X.suite a ((a, oe) :: pn)) (b₀ :: suite) D σ H) (Wout := WΦ X.K Φ) hs hf hc tk
    (fun W pn xe tkW po => ⟨fun pins s σ H D I h => (h pn xe tkW po) pins s I⟩) (fun a oe cls d pn hz hfl => ⟨fun pins s σ H D I h => (h oe pn hz hfl) pins s I⟩)) ?_
  intro pn xe tkW po
  refine (hb (Φ.sub T Hk σ ρ (kTryO (PySem.W.exmOne X.K) Φ.EX c u R)) pn xe (tkW.imp ?_) po).run ρ R Hk [] σ H D q hh.into (o.into hh)
  rintro cls d σ' H' ⟨Hk', ρ', fs, h2, xa, b, hm, hT, hF⟩
  refine ⟨b, hm, fun hb1 a ha oe pn' hz hfl => ?_, fun hb1 => ⟨Hk', ρ', fs, Holds.drop (ts := T) (T := []) (by rw [List.append_nil]; exact hh.out h2), xa, hF hb1⟩⟩
  have h3 : Holds X.K (Φ.sub T Hk σ ρ fun _ _ _ => False) Hk' ρ' [] σ' H' := h2.sub_of h2.ex0 h2.kp0
  exact (hsu (Φ.sub T Hk σ ρ fun _ _ _ => False) a oe cls d pn' hz hfl).run _ _ Hk' [] _ H' _ (hT hb1) h3
    ((OutOk.into (EX := fun _ _ _ => False) hh o).step h2.ex0 h2.kp0)⟩
end
end WL

set_option Elab.async false
set_option linter.all false
set_option maxRecDepth 100000
set_option maxHeartbeats 4000000
/-! HV: the helpers that the laws share: what they promise, and that they keep it. -/
namespace WL
open PySem PySem.Spec PyProof.Rows L2
local macro_rules | `(tactic| walk_at "s") => `(tactic| first
  | ((with_reducible show vSeq _ _ _ _); refine u_seq ?_)
  | ((with_reducible show vSet _ _ _ _); refine u_set ?_)
  | ((with_reducible show kSet _ _ _ _); refine k_set rfl rfl ?_)
  | ((with_reducible show vRet _ _ _); refine u_ret ?_)
  | ((with_reducible show vIf _ _ _ _ _); refine u_if ?_)
  | ((with_reducible show vExpr _ _ _); refine u_expr ?_)
  | ((with_reducible show kExpr _ _ _); refine k_expr ?_)
  | ((with_reducible show vRetN _ _); refine u_retN ?_)
  | ((with_reducible show vAsg _ _ _ _); refine u_asg ?_)
  | ((with_reducible show kAsg _ _ _ _); refine k_asg rfl ?_)
  | ((with_reducible show vNext _ _); refine u_next ?_)
  | ((with_reducible show vBreak _ _); refine u_break ?_)
  | ((with_reducible show vCont _ _); refine u_cont ?_)
  | ((with_reducible show kIf _ _ _ _ _); (first | refine k_ifT ?_ | refine k_ifF ?_))
  | ((with_reducible show vVal _ _ _); refine u_val ?_)
  | ((with_reducible show kVal _ _ _); refine k_val ?_)
  | ((with_reducible show vPk _ _ _); refine u_pk rfl rfl ?_)
  | ((with_reducible show vC _ _ _); refine u_c ?_)
  | ((with_reducible show vVar _ _ _); (first | refine u_var rfl ?_ | refine u_varL rfl ?_ | refine u_varD rfl ?_ | refine u_varE rfl ?_))
  | ((with_reducible show vMv _ _ _); (first | refine u_mv rfl ?_ | refine u_mvO rfl ?_))
  | ((with_reducible show vBin _ _ _ _ _); refine u_bin ?_)
  | ((with_reducible show kBin1 _ _ _ _ _); refine k_bin1 ?_)
  | ((with_reducible show kBin2 _ _ _ _ _); refine k_bin2 rfl rfl ?_)
  | ((with_reducible show vUn _ _ _ _); refine u_un ?_)
  | ((with_reducible show kUn _ _ _ _); refine k_un rfl ?_)
  | ((with_reducible show vCons _ _ _ _); refine u_cons ?_)
  | ((with_reducible show kCons1 _ _ _ _); refine k_cons1 ?_)
  | ((with_reducible show vNil _ _); refine u_nil ?_)
  | ((with_reducible show kCons2 _ _ _ _); refine k_cons2 ?_)
  | ((with_reducible show vPrim _ _ _ _); refine u_prim ?_)
  | ((with_reducible show kPrim _ _ _ _); (first | refine k_prim1 rfl ?_ | refine k_prim2 rfl rfl ?_))
  | ((with_reducible show kRet _ _ _); (first | refine k_retV ?_ | refine k_retL ?_ | refine k_retT ?_ | refine k_retD ?_))
  | ((with_reducible show vSh _ _ _); refine u_sh ?_)
  | ((with_reducible show kSh _ _ _); (first | refine k_sh ?_ | refine k_shL ?_ | refine k_shD ?_))
  | ((with_reducible show vT _ _ _); refine u_t ?_)
  | ((with_reducible show kT _ _ _); refine k_t ?_)
  | ((with_reducible show vTru _ _ _); refine u_tru ?_)
  | ((with_reducible show kTru _ _ _); refine k_tru rfl rfl ?_)
  | ((with_reducible show vAnd _ _ _ _); refine u_and ?_)
  | ((with_reducible show kAnd _ _ _ _); (first | refine k_andT ?_ | refine k_andF ?_))
  | ((with_reducible show vOr _ _ _ _); refine u_or ?_)
  | ((with_reducible show kOr _ _ _ _); (first | refine k_orT ?_ | refine k_orF ?_))
  | ((with_reducible show vNot _ _ _); refine u_not ?_)
  | ((with_reducible show kNot _ _ _); refine k_not ?_)
  | ((with_reducible show vAndV _ _ _ _); refine u_andV ?_)
  | ((with_reducible show kAndV _ _ _ _); (first | refine k_andVT ?_ | refine k_andVF ?_))
  | ((with_reducible show kOrV _ _ _ _); (first | refine k_orVT ?_ | refine k_orVF ?_))
  | ((with_reducible show vOrV _ _ _ _); refine u_orV ?_)
  | ((with_reducible show vNotV _ _ _); refine u_notV ?_)
  | ((with_reducible show kNotV _ _ _); refine k_notV ?_)
  | ((with_reducible show vIfE _ _ _ _ _); refine u_ifE ?_)
  | ((with_reducible show kIfE _ _ _ _ _); (first | refine k_ifET ?_ | refine k_ifEF ?_))
  | ((with_reducible show vLst _ _ _); refine u_lst ?_)
  | ((with_reducible show kLst _ _ _); refine k_lst rfl (by simp only [List.length_cons, List.length_nil]; decide) ?_)
  | ((with_reducible show vTup _ _ _); refine u_tup ?_)
  | ((with_reducible show kTup _ _ _); refine k_tup rfl (by simp only [List.length_cons, List.length_nil]; decide) ?_)
  | ((with_reducible show vNewD _ _); refine u_newD ?_)
  | ((with_reducible show vSl _ _ _ _ _); refine u_sl ?_)
  | ((with_reducible show kSl0 _ _ _ _ _); refine k_sl0 ?_)
  | ((with_reducible show kSl1 _ _ _ _ _); refine k_sl1 ?_)
  | ((with_reducible show kSl2 _ _ _ _ _); refine k_sl2 rfl ?_)
  | ((with_reducible show vNoPart _ _); refine u_noPart ?_)
  | ((with_reducible show vPart _ _ _); refine u_part ?_)
  | ((with_reducible show kPart _ _ _); refine k_part ?_)
  | ((with_reducible show vApp _ _ _ _); refine u_app rfl ?_)
  | ((with_reducible show vPopAt _ _ _ _); refine u_popAt rfl ?_)
  | ((with_reducible show vExt _ _ _ _); refine u_ext rfl ?_)
  | ((with_reducible show vM1 _ _ _ _ _); refine u_m1 ?_)
  | ((with_reducible show kM1a _ _ _ _ _); refine k_m1a rfl ?_)
  | ((with_reducible show kM1b _ _ _ _ _); refine k_m1b rfl rfl ?_)
  | ((with_reducible show vGet2 _ _ _ _ _); refine u_get2 ?_)
  | ((with_reducible show kGet1 _ _ _ _ _); refine k_get1 rfl ?_)
  | ((with_reducible show kGet2 _ _ _ _ _); refine k_get2 ?_)
  | ((with_reducible show vSetL _ _ _ _ _); refine u_setL ?_)
  | ((with_reducible show kSetL1 _ _ _ _ _); refine k_setL1 rfl ?_)
  | ((with_reducible show kSetL2 _ _ _ _ _); (first | refine k_setL2j 0 rfl rfl (by simp) rfl ?_ | refine k_setL2j 1 rfl rfl (by simp) rfl ?_ | refine k_setL2j 2 rfl rfl (by simp) rfl ?_))
  | ((with_reducible show vPutD _ _ _ _ _); refine u_putD ?_)
  | ((with_reducible show kPutD1 _ _ _ _ _); refine k_putD1 rfl ?_)
  | ((with_reducible show vAugL _ _ _ _ _ _); refine u_augL rfl ?_)
  | ((with_reducible show kAugL1 _ _ _ _ _ _); (first | refine k_augL1j 0 rfl rfl rfl ?_ | refine k_augL1j 1 rfl rfl rfl ?_ | refine k_augL1j 2 rfl rfl rfl ?_))
  | ((with_reducible show kAugL2 _ _ _ _ _ _ _); refine k_augL2j rfl (by simp) ?_)
  | ((with_reducible show vAug _ _ _ _ _); refine u_aug rfl ?_)
  | ((with_reducible show kAug _ _ _ _ _ _); (first | refine k_augAdd rfl ?_ | refine k_augSub rfl ?_))
  | ((with_reducible show vCall _ _ _ _); refine u_call ?_)
  | ((with_reducible show gN _ _ _ _); refine u_gN rfl rfl ?_)
  | ((with_reducible show gT _ _ _ _); refine u_gT rfl ?_)
  | ((with_reducible show gL _ _ _ _); refine u_gL rfl rfl ?_)
  | ((with_reducible show gTs _ _ _ _); (first | refine u_gTs0 ?_ | refine u_gTs ?_))
  | ((with_reducible show vItL _ _ _); refine u_itL ?_)
  | ((with_reducible show kItL _ _ _); refine k_itL rfl rfl ?_)
  | ((with_reducible show vItT _ _ _); refine u_itT ?_)
  | ((with_reducible show kItT _ _ _); refine k_itT rfl rfl ?_)
  | ((with_reducible show vItR1 _ _ _); refine u_itR1 ?_)
  | ((with_reducible show vItR2 _ _ _); refine u_itR2 ?_)
  | ((with_reducible show vFor _ _ _ _ _); refine u_for ?_)
  | ((with_reducible show vLc _ _ _ _ _ _ _); refine u_lc ?_)
  | ((with_reducible show vLcK _ _ _ _ _ _ _); refine u_lcK rfl ?_)
  | ((with_reducible show vYes _ _); refine u_yes ?_)
  | ((with_reducible show kLcT _ _ _ _ _ _); refine k_lcTT ?_)
  | ((with_reducible show addP _ _); refine p_addI ?_)
  | ((with_reducible show subP _ _); refine p_subI ?_)
  | ((with_reducible show mulP _ _); (first | refine p_mulI (.inl (.inl (by omega))) ?_ | refine p_mulI (.inl (.inr (by omega))) ?_))
  | ((with_reducible show modP _ _); refine p_modI (by omega) ?_)
  | ((with_reducible show divP _ _); refine p_divI (.inl (by constructor <;> omega)) ?_)
  | ((with_reducible show negP _ _); refine p_negI ?_)
  | ((with_reducible show ltP _ _); refine p_ltI ?_)
  | ((with_reducible show leP _ _); refine p_leI ?_)
  | ((with_reducible show gtP _ _); refine p_gtI ?_)
  | ((with_reducible show geP _ _); refine p_geI ?_)
  | ((with_reducible show eqP _ _); (first | refine p_eqI ?_ | refine p_eqS ?_ | refine p_eqB ?_ | refine p_eqN ?_))
  | ((with_reducible show neP _ _); (first | refine p_neI ?_ | refine p_neS ?_ | refine p_neB ?_))
  | ((with_reducible show isNP _ _); (first | refine p_isNn ?_ | refine p_isNi ?_ | refine p_isNs ?_ | refine p_isNb ?_ | refine p_isNl ?_ | refine p_isNt ?_ | refine p_isNd ?_))
  | ((with_reducible show notNP _ _); (first | refine p_notNn ?_ | refine p_notNi ?_ | refine p_notNs ?_ | refine p_notNb ?_ | refine p_notNl ?_ | refine p_notNt ?_ | refine p_notNd ?_))
  | ((with_reducible show isiP _ _); refine p_isi rfl rfl ?_)
  | ((with_reducible show isiTP _ _); refine p_isiT rfl rfl ?_)
  | ((with_reducible show reprP _ _); (first | refine p_reprB ?_ | refine p_reprN ?_))
  | ((with_reducible show lenP _ _); (first | refine p_lenL ?_ | refine p_lenF ?_ | refine p_lenT ?_ | refine p_lenD ?_))
  | ((with_reducible show absP _ _); refine p_absI ?_)
  | ((with_reducible show intP _ _); refine p_intI ?_)
  | ((with_reducible show listP _ _); (first | refine p_listL ?_ | refine p_listF ?_ | refine p_listD ?_))
  | ((with_reducible show ixP _ _); (first | refine p_ixLj 0 rfl rfl ?_ | refine p_ixLj 1 rfl rfl ?_ | refine p_ixLj 2 rfl rfl ?_ | refine p_ixLj 3 rfl rfl ?_ | refine p_ixTj 0 rfl rfl ?_ | refine p_ixTj 1 rfl rfl ?_ | refine p_ixTj 2 rfl rfl ?_ | refine p_ixTj 3 rfl rfl ?_))
  | ((with_reducible show inP _ _ _); (first | refine p_inS0 ?_ | refine p_inS1 ?_ | refine p_inI0 ?_ | refine p_inI1 ?_ | refine p_inD0 rfl ?_ | refine p_inD1 rfl ?_))
  | ((with_reducible show slP _ _ _ _); (first | refine p_slL ?_ | refine p_slF ?_))
  | ((with_reducible show sumP _ _); refine p_sum ?_)
  | ((with_reducible show maxP _ _); refine p_max2 ?_)
  | ((with_reducible show minP _ _); refine p_min2 ?_)
  | ((with_reducible show allP _ _); refine p_all ?_)
  | ((with_reducible show anyP _ _); refine p_any ?_))
local macro_rules | `(tactic| walk_at "ss") => `(tactic| repeat walk_at "s")
/-! joins: what is behind a choice is read once -/
theorem cutE {te : VE} {ρ : Rho} {Q : VK0} (P : Slot → Rho → Prop) (h : ∀ K : VK0, (∀ s ρ', P s ρ' → K s ρ') → te ρ K) (h2 : ∀ s ρ', P s ρ' → Q s ρ') : te ρ Q := h Q h2
theorem cutT {tt : VT} {ρ : Rho} {Q : Bool → Rho → Prop} (P : Bool → Rho → Prop) (h : ∀ K : Bool → Rho → Prop, (∀ s ρ', P s ρ' → K s ρ') → tt ρ K) (h2 : ∀ s ρ', P s ρ' → Q s ρ') : tt ρ Q := h Q h2
theorem cutS' {t : VS} {ρ : Rho} {nx bk ct : Rho → Prop} {rt : Slot → Rho → Prop} (P : Rho → Prop) (h : ∀ K : Rho → Prop, (∀ ρ', P ρ' → K ρ') → t (.mk K rt bk ct) ρ) (h2 : ∀ ρ', P ρ' → nx ρ') : t (.mk nx rt bk ct) ρ := h nx h2
theorem k_ifEJ {ta tb : VE} {ρ : Rho} {Q : VK0} {p : Prop} [Decidable p] (P : Slot → Rho → Prop) (h1 : p → ∀ K : VK0, (∀ s ρ', P s ρ' → K s ρ') → ta ρ K) (h2 : ¬ p → ∀ K : VK0, (∀ s ρ', P s ρ' → K s ρ') → tb ρ K) (h : ∀ s ρ', P s ρ' → Q s ρ') : kIfE ta tb Q (decide p) ρ :=
  k_ifEd (fun z => h1 z Q h) (fun z => h2 z Q h)
theorem k_ifEI {ta tb : VE} {ρ : Rho} {Q : VK0} {p : Prop} [Decidable p] (P : Slot → Prop) (h1 : p → ∀ K : VK0, (∀ s, P s → K s ρ) → ta ρ K) (h2 : ¬ p → ∀ K : VK0, (∀ s, P s → K s ρ) → tb ρ K) (h : ∀ s, P s → Q s ρ) : kIfE ta tb Q (decide p) ρ :=
  k_ifEd (fun z => h1 z Q h) (fun z => h2 z Q h)
local macro_rules | `(tactic| walk_at "back") => `(tactic| refine k_back ?_ (by dsimp only [takeBack, backS, List.set, List.getElem?_cons_zero, List.getElem?_cons_succ]))
theorem perm_eraseIdx {α : Type} {d : α} : ∀ {l : List α} {i : Nat}, l[i]? = some d → (d :: l.eraseIdx i).Perm l
  | [], i, h => by simp at h
  | x :: l, 0, h => by simp at h; subst h; exact .refl _
  | x :: l, i + 1, h => by
    have h' : l[i]? = some d := by simpa using h
    exact (List.Perm.swap x d _).trans ((perm_eraseIdx h').cons x)
abbrev srcD (a b c : Int) : Slot := .ow true (.lst [.int a, .int b, .int c])
/-- the promise of a def, read in its text -/
abbrev Reads (SS : VSp) (v : XP → VS) (n : Nat) : Prop := ∀ ρs R RX, SS ρs R RX → v (fun cls fs ρ' => RX cls fs (fin ρs ρ')) { nx := fun ρ' => R (.sh .non) (fin ρs ρ'), rt := fun r ρ' => R r (fin ρs ρ') } (ρs ++ uns n)
def S_pick : VSp := fun ρs R _ => ∃ a b c many, ρs = [srcD a b c, .sh (.int many)] ∧ 0 < many ∧ many < 1073741824 ∧ ∀ a' b' c' r, 0 ≤ r → r < many → R (.sh (.int r)) [srcD a' b' c', .sh (.int many)]
def v_pick : VS :=
  vSeq (vIf (vT (vBin gtP (vVal (vBin ixP (vPk 0) (vVal (vC (.int 0))))) (vVal (vC (.int 0))))) (vSeq (vSet 2 (vBin modP (vVal (vPrim intP (vCons (vVal (vBin ixP (vPk 0) (vVal (vC (.int 0))))) (vNil)))) (vPk 1)))
    (vSeq (vSetL 0 (vC (.int 0)) (vBin divP (vVal (vBin ixP (vPk 0) (vVal (vC (.int 0))))) (vPk 1)))
    (vRet (vMv 2)))) (vNext))
    (vSeq (vAugL 0 iaddP (vC (.int 2)) (vC (.int 1)))
    (vSeq (vSetL 0 (vC (.int 1)) (vBin modP (vVal (vPrim intP (vCons (vVal (vBin addP (vVal (vBin mulP (vVal (vBin ixP (vPk 0) (vVal (vC (.int 1))))) (vVal (vC (.int 48271))))) (vVal (vBin mulP (vVal (vBin ixP (vPk 0) (vVal (vC (.int 2))))) (vVal (vC (.int 60013))))))) (vNil)))) (vVal (vC (.int 2147483647)))))
    (vRet (vBin modP (vVal (vBin divP (vVal (vBin modP (vVal (vPrim intP (vCons (vVal (vBin addP (vVal (vBin mulP (vVal (vBin ixP (vPk 0) (vVal (vC (.int 1))))) (vVal (vC (.int 16807))))) (vVal (vBin mulP (vVal (vBin ixP (vPk 0) (vVal (vC (.int 2))))) (vVal (vC (.int 7411))))))) (vNil)))) (vVal (vC (.int 2147483629))))) (vVal (vC (.int 8))))) (vPk 1)))))
theorem rd_pick : Reads S_pick (fun _ => v_pick) 1 := fun ρs R _ h => by
  obtain ⟨a, b, c, many, rfl, h0, h1, q⟩ := h
  unfold v_pick
  show vSeq _ _ _ [srcD a b c, .sh (.int many), .un]
  walk_at "ss"
  refine k_ifD (fun h => ?_) (fun h => ?_)
  · walk_at "ss"
    exact q _ _ _ _ (Int.emod_nonneg _ (by omega)) (Int.emod_lt_of_pos _ h0)
  · walk_at "ss"
    exact q _ _ _ _ (Int.emod_nonneg _ (by omega)) (Int.emod_lt_of_pos _ h0)
def S_choice : VSp := fun ρs R _ => ∃ a b c ds, ρs = [srcD a b c, .sh (.lst ds)] ∧ ds ≠ [] ∧ ds.length < 1073741824 ∧ ∀ a' b' c' d, d ∈ ds → R (.sh d) [srcD a' b' c', .sh (.lst ds)]
def v_choice : VS :=
  vRet (vBin ixP (vPk 1) (vVal (vCall S_pick (vCons (vPk 0) (vCons (vVal (vSh (vPrim lenP (vCons (vPk 1) (vNil))))) (vNil))))))
theorem rd_choice : Reads S_choice (fun _ => v_choice) 0 := fun ρs R _ h => by
  obtain ⟨a, b, c, ds, rfl, h0, h1, q⟩ := h
  unfold v_choice
  have hl : 0 < ds.length := List.length_pos_iff.mpr h0
  show vRet _ _ [srcD a b c, .sh (.lst ds)]
  walk_at "ss"
  refine k_call rfl ⟨a, b, c, (ds.length : Int), rfl, by omega, by omega, fun a' b' c' r r0 r1 => ?_⟩
  walk_at "back"
  walk_at "ss"
  have hr : r.toNat < ds.length := by omega
  refine p_ixLn r0 (List.getElem?_eq_getElem hr) ?_
  walk_at "ss"
  exact q _ _ _ _ (List.getElem_mem hr)
def S_shuffled : VSp := fun ρs R _ => ∃ a b c ds, ρs = [srcD a b c, .sh (.lst ds)] ∧ ds.length < 1000000 ∧ ∀ a' b' c' es, es.Perm ds → R (.ow false (.lst es)) [srcD a' b' c', .sh (.lst ds)]
def v_shuffled : VS :=
  vSeq (vSet 2 (vPrim listP (vCons (vPk 1) (vNil))))
    (vSeq (vSet 3 (vLst (vNil)))
    (vSeq (vWhile (vT (vBin gtP (vVal (vPrim lenP (vCons (vPk 2) (vNil)))) (vVal (vC (.int 0))))) (vExpr (vApp 3 (vPopAt 2 (vCall S_pick (vCons (vPk 0) (vCons (vVal (vSh (vPrim lenP (vCons (vPk 2) (vNil))))) (vNil))))))))
    (vRet (vMv 3))))
theorem rd_shuffled : Reads S_shuffled (fun _ => v_shuffled) 2 := fun ρs R _ h => by
  obtain ⟨a, b, c, ds, rfl, h1, q⟩ := h
  unfold v_shuffled
  show vSeq _ _ _ [srcD a b c, .sh (.lst ds), .un, .un]
  walk_at "ss"
  refine u_while1 (fun m ρ' => ∃ a b c left found, ρ' = [srcD a b c, .sh (.lst ds), .ow false (.lst left), .ow false (.lst found)] ∧ m = left.length ∧ (found ++ left).Perm ds) ds.length ⟨a, b, c, ds, [], rfl, rfl, .refl _⟩ ?_
  rintro m ρ' ⟨a, b, c, left, found, rfl, rfl, hp⟩
  have hlen := hp.length_eq
  rw [List.length_append] at hlen
  walk_at "ss"
  refine k_while (fun h => ?_) (fun h => ?_)
  · have hl : 0 < left.length := by simpa using h
    walk_at "ss"
    refine k_call rfl ⟨a, b, c, (left.length : Int), rfl, by omega, by omega, fun a' b' c' r r0 r1 => ?_⟩
    walk_at "back"
    refine k_popAt rfl r0 r1 (by omega) (fun d ρ2 hd hρ => ?_)
    subst hρ
    refine k_app rfl rfl (by show found.length < 16777216; omega) ?_
    walk_at "ss"
    have hr : r.toNat < left.length := by omega
    refine ⟨(left.eraseIdx r.toNat).length, by rw [List.length_eraseIdx, if_pos hr]; omega, a', b', c', _, _, rfl, rfl, ?_⟩
    refine List.Perm.trans ?_ hp
    rw [List.append_assoc]
    refine List.Perm.append_left _ ?_
    exact perm_eraseIdx hd
  · have hl : left = [] := by
      have : ¬ 0 < left.length := by simpa using h
      exact List.length_eq_zero_iff.mp (by omega)
    subst hl
    walk_at "ss"
    exact q _ _ _ _ (by simpa using hp)
/-! texts by their signs -/
theorem cut_to {a : List Nat} {i : Int} (h : 0 ≤ i) : cutS (SX.S a) none (some i) = SX.S (a.take i.toNat) := by
  have e : i = ((i.toNat : Nat) : Int) := by omega
  rw [e]
  unfold cutS
  rw [HT.sIx_none, HT.sIx_nat, SX.S_len]
  show SX.S ((a.drop 0).take (min i.toNat a.length - 0)) = SX.S (a.take i.toNat)
  rw [List.drop_zero, Nat.sub_zero]
  congr 1
  rw [Nat.min_comm, List.take_eq_take_iff]
  omega
theorem cut_from {a : List Nat} {i : Int} (h : 0 ≤ i) : cutS (SX.S a) (some i) none = SX.S (a.drop i.toNat) := by
  have e : i = ((i.toNat : Nat) : Int) := by omega
  rw [e]
  unfold cutS
  rw [HT.sIx_none, HT.sIx_nat, SX.S_len]
  show SX.S ((a.drop (min i.toNat a.length)).take (a.length - min i.toNat a.length)) = SX.S (a.drop i.toNat)
  congr 1
  by_cases hi : i.toNat ≤ a.length
  · rw [Nat.min_eq_left hi, List.take_of_length_le (by rw [List.length_drop]; omega)]
  · rw [Nat.min_eq_right (by omega), Nat.sub_self, List.take_zero, List.drop_of_length_le (by omega)]
theorem joinL_signs : ∀ cs : List Nat, TL.joinL [] (cs.map fun c => [c]) = cs
  | [] => rfl
  | [c] => rfl
  | c :: d :: r => by
    show [c] ++ [] ++ TL.joinL [] ((d :: r).map fun c => [c]) = c :: d :: r
    rw [joinL_signs (d :: r)]; rfl
theorem join_signs (cs : List Nat) : Txt.join ("" : Str) (cs.map fun c => SX.S [c]) = SX.S cs := by
  have e : (("" : Str)) = SX.S [] := by decide +kernel
  have e2 : (cs.map fun c => SX.S [c]) = (cs.map fun c => [c]).map SX.S := by rw [List.map_map]; rfl
  rw [e, e2, SX.join_S, joinL_signs]
theorem num_S (n : Nat) : ((toString ((n : Nat) : Int) : String) : Str) = SX.S (TL.numL n) := TL.ext_tl (TL.tl_num n)
abbrev abcS : Str := "abcdefghijklmnopqrstuvwxyz"
theorem abc_at : ∀ r : Nat, r < 26 → abcS.cps.toList[r]? = some (97 + r) := by decide +kernel
theorem abc_len : abcS.length ≤ sizeLine := by decide +kernel
def Letters (st : List Nat) : Prop := ∀ c ∈ st, 97 ≤ c ∧ c < 123
theorem Letters.nil : Letters [] := fun _ h => by cases h
theorem Letters.snoc {st : List Nat} {c : Nat} (h : Letters st) (h1 : 97 ≤ c) (h2 : c < 123) : Letters (st ++ [c]) := fun x hx => by
  rcases List.mem_append.mp hx with hx | hx
  · exact h x hx
  · rw [List.mem_singleton.mp hx]; exact ⟨h1, h2⟩
/-- the texts that the helpers make -/
def wordL (st : List Nat) (at' n : Nat) : List Nat := st.take at' ++ TL.numL n ++ st.drop at'
def nameL (st m tl : List Nat) (n : Nat) : List Nat := st ++ m ++ TL.numL n ++ tl
def S_words : VSp := fun ρs R _ => ∃ a b c many before, ρs = [srcD a b c, .sh (.int many), .sh (.int before)] ∧ 0 ≤ many ∧ many ≤ 500000 ∧ 0 ≤ before ∧ before ≤ 1000 ∧
  ∀ a' b' c' (st : List Nat) (at' : Nat) (ws : List (List Nat)), Letters st → 0 < at' → at' ≤ st.length → st.length ≤ 3 → ws.Perm ((List.range many.toNat).map fun k => wordL st at' (1000 + before.toNat * 100 + k)) →
    R (.ow false (.lst ((ws.map SX.S).map D.str))) [srcD a' b' c', .sh (.int many), .sh (.int before)]
def v_words : VS :=
  vSeq (vSet 3 (vC (.str "abcdefghijklmnopqrstuvwxyz")))
    (vSeq (vSet 4 (vM1 joinP (vVal (vC (.str ""))) (vVal (vLc (vItR1 (vCons (vVal (vBin addP (vVal (vC (.int 1))) (vVal (vCall S_pick (vCons (vPk 0) (vCons (vVal (vC (.int 3))) (vNil))))))) (vNil))) (gN 6) (vYes) (vBin ixP (vPk 3) (vVal (vCall S_pick (vCons (vPk 0) (vCons (vVal (vC (.int 26))) (vNil)))))) [6]))))
    (vSeq (vSet 5 (vBin addP (vVal (vC (.int 1))) (vVal (vCall S_pick (vCons (vPk 0) (vCons (vVal (vSh (vPrim lenP (vCons (vPk 4) (vNil))))) (vNil)))))))
    (vRet (vCall S_shuffled (vCons (vPk 0) (vCons (vVal (vSh (vLc (vItR1 (vCons (vPk 1) (vNil))) (gN 6) (vYes) (vBin addP (vVal (vBin addP (vVal (vSl (vPk 4) (vNoPart) (vPart (vVar 5)))) (vVal (vPrim strP (vCons (vVal (vBin addP (vVal (vBin addP (vVal (vC (.int 1000))) (vVal (vBin mulP (vPk 2) (vVal (vC (.int 100))))))) (vPk 6))) (vNil)))))) (vVal (vSl (vPk 4) (vPart (vVar 5)) (vNoPart)))) [6]))) (vNil)))))))
theorem perm_map_inv {α β : Type} (f : α → β) : ∀ {xs : List α} {ys : List β}, ys.Perm (xs.map f) → ∃ zs : List α, zs.Perm xs ∧ ys = zs.map f := by
  intro xs ys h
  generalize hz : xs.map f = zs at h
  induction h generalizing xs with
  | nil => exact ⟨[], by cases xs with | nil => exact .refl _ | cons _ _ => simp at hz, rfl⟩
  | cons x h ih =>
    cases xs with
    | nil => simp at hz
    | cons y xs =>
      rw [List.map_cons] at hz
      injection hz with h1 h2
      obtain ⟨zs, p, e⟩ := ih h2
      exact ⟨y :: zs, p.cons y, by rw [List.map_cons, h1, e]⟩
  | swap x y l =>
    cases xs with
    | nil => simp at hz
    | cons a xs => cases xs with
      | nil => simp at hz
      | cons b xs =>
        simp only [List.map_cons, List.cons.injEq] at hz
        exact ⟨b :: a :: xs, .swap _ _ _, by simp [hz]⟩
  | trans h1 h2 ih1 ih2 =>
    obtain ⟨zs, p, e⟩ := ih2 hz
    obtain ⟨ws, p2, e2⟩ := ih1 e.symm
    exact ⟨ws, p2.trans p, e2⟩
theorem small24 {n : Nat} (h : n ≤ 16777216) : n ≤ sizeLine := h
theorem log2_lt {x : Int} (h : x.natAbs < 2 ^ 62) : x.natAbs.log2 < 1920 := by
  by_cases h0 : x.natAbs = 0
  · rw [h0]; decide
  · exact Nat.lt_of_lt_of_le ((Nat.log2_lt h0).mpr h) (by decide)
theorem sum_ones (cs : List Nat) : ((cs.map fun c => SX.S [c]).map (·.length)).sum = cs.length := by
  induction cs with
  | nil => rfl
  | cons c r ih => simp only [List.map_cons, List.sum_cons, List.length_cons, ih]; show 1 + r.length = _; omega
theorem rd_words : Reads S_words (fun _ => v_words) 4 := fun ρs R _ h => by
  obtain ⟨a, b, c, many, before, rfl, h0, h1, h2, h3, q⟩ := h
  unfold v_words
  show vSeq _ _ _ [srcD a b c, .sh (.int many), .sh (.int before), .un, .un, .un, .un]
  walk_at "ss"
  refine k_call rfl ⟨a, b, c, 3, rfl, by decide, by decide, fun a b c r r0 r1 => ?_⟩
  walk_at "back"
  walk_at "ss"
  refine k_itR1 rfl (by omega) ?_
  refine k_lc (by simp [Slot.free]) (fun j acc ρ' => ∃ a b c cs, ρ' = [srcD a b c, .sh (.int many), .sh (.int before), .sh (.str abcS), .un, .un, .un] ∧ cs.length = j ∧ Letters cs ∧ acc = (cs.map fun c => SX.S [c]).map D.str) ⟨a, b, c, [], rfl, rfl, .nil, rfl⟩ ?_ ?_
  · rintro j acc d ρ' hj ⟨a, b, c, cs, rfl, rfl, hl, rfl⟩
    have hj' : cs.length < (1 + r).toNat := by
      have := (List.getElem?_eq_some_iff.mp hj).1
      rwa [rangeD_len] at this
    walk_at "ss"
    refine k_call rfl ⟨a, b, c, 26, rfl, by decide, by decide, fun a b c r2 r0 r1 => ?_⟩
    walk_at "back"
    walk_at "ss"
    refine p_ixSn abc_len r0 (abc_at r2.toNat (by omega)) ?_
    walk_at "ss"
    refine k_lcE rfl (by simp; show cs.length < 16777216; omega) ?_
    exact ⟨a, b, c, cs ++ [97 + r2.toNat], rfl, by simp, hl.snoc (by omega) (by omega), by simp⟩
  · rintro acc ρ' ⟨a, b, c, cs, rfl, hj, hl, rfl⟩
    rw [rangeD_len] at hj
    walk_at "ss"
    refine p_join (by rw [sum_ones, List.length_map]; show cs.length + cs.length * 0 ≤ _; omega) ?_
    rw [join_signs]
    walk_at "ss"
    refine p_lenS (by rw [SX.S_len]; exact small24 (by omega)) ?_
    rw [SX.S_len]
    walk_at "ss"
    refine k_call rfl ⟨a, b, c, cs.length, rfl, by omega, by omega, fun a b c r2 r20 r21 => ?_⟩
    walk_at "back"
    walk_at "ss"
    refine k_itR1 rfl (by omega) ?_
    refine k_lcM (List.range many.toNat) (fun (i : Nat) => D.int (0 + (i : Int))) (fun _ => true) (fun k => .str (SX.S (wordL cs (1 + r2).toNat (1000 + before.toNat * 100 + k)))) _ rfl (by rw [List.length_range]; show many.toNat < 16777216; omega) (by simp [Slot.free]) (by dsimp only [wipeR, List.set]) ?_ ?_
    · intro x acc I hx hz t1 _
      have hx' : x < many.toNat := List.mem_range.mp hx
      walk_at "ss"
      refine p_slS (by rw [SX.S_len]; exact small24 (by omega)) ?_
      rw [cut_to (by omega)]
      walk_at "ss"
      have en : (1000 + before * 100 + (0 + (x : Int)) : Int) = ((1000 + before.toNat * 100 + x : Nat) : Int) := by omega
      rw [en]
      have ln : (TL.numL (1000 + before.toNat * 100 + x)).length ≤ 7 := TL.numL_len (by decide) (by omega)
      refine p_strI (log2_lt (by omega)) ?_
      rw [num_S]
      walk_at "ss"
      refine p_addS (by rw [SX.S_len, SX.S_len, List.length_take]; exact small24 (by omega)) ?_
      rw [SX.S_cat]
      walk_at "ss"
      refine p_slS (by rw [SX.S_len]; exact small24 (by omega)) ?_
      rw [cut_from (by omega)]
      walk_at "ss"
      refine p_addS (by rw [SX.S_len, SX.S_len, List.length_append, List.length_take, List.length_drop]; exact small24 (by omega)) ?_
      rw [SX.S_cat]
      walk_at "ss"
      refine k_lcE rfl hz ?_
      exact t1 rfl
    · walk_at "ss"
      refine k_call rfl ⟨a, b, c, _, rfl, by rw [List.length_map, List.filter_eq_self.mpr (fun _ _ => rfl), List.length_range]; omega, fun a b c es hp => ?_⟩
      walk_at "back"
      have hp2 := (perm_map_inv _ hp)
      obtain ⟨zs, hz, rfl⟩ := hp2
      rw [List.filter_eq_self.mpr (fun _ _ => rfl)] at hz
      have e : (zs.map fun k => D.str (SX.S (wordL cs (1 + r2).toNat (1000 + before.toNat * 100 + k)))) = (((zs.map fun k => wordL cs (1 + r2).toNat (1000 + before.toNat * 100 + k)).map SX.S).map D.str) := by rw [List.map_map, List.map_map]; rfl
      rw [e]
      exact q _ _ _ cs (1 + r2).toNat _ hl (by omega) (by omega) (by omega) (hz.map _)
def markL : List (List Nat) := [[46], [47], [45], [95]]
def tailL : List (List Nat) := [[], [120], [46, 99], [47, 113]]
def S_names : VSp := fun ρs R _ => ∃ a b c many before, ρs = [srcD a b c, .sh (.int many), .sh (.int before)] ∧ 0 ≤ many ∧ many ≤ 500000 ∧ 0 ≤ before ∧ before ≤ 1000 ∧
  ∀ (a' b' c' : Int) (st m tl : List Nat) (ws : List (List Nat)), Letters st → 0 < st.length → st.length ≤ 2 → m ∈ markL → tl ∈ tailL → ws.Perm ((List.range many.toNat).map fun k => nameL st m tl (1000 + before.toNat * 100 + k)) →
    R (.ow false (.lst ((ws.map SX.S).map D.str))) [srcD a' b' c', .sh (.int many), .sh (.int before)]
theorem mark_D : [D.str ".", D.str "/", D.str "-", D.str "_"] = (markL.map SX.S).map D.str := by
  have h : (("." : Str) = SX.S [46]) ∧ (("/" : Str) = SX.S [47]) ∧ (("-" : Str) = SX.S [45]) ∧ (("_" : Str) = SX.S [95]) := by decide +kernel
  rw [h.1, h.2.1, h.2.2.1, h.2.2.2]; rfl
theorem tail_D : [D.str "", D.str "x", D.str ".c", D.str "/q"] = (tailL.map SX.S).map D.str := by
  have h : (("" : Str) = SX.S []) ∧ (("x" : Str) = SX.S [120]) ∧ ((".c" : Str) = SX.S [46, 99]) ∧ (("/q" : Str) = SX.S [47, 113]) := by decide +kernel
  rw [h.1, h.2.1, h.2.2.1, h.2.2.2]; rfl
theorem mem_texts {d : D} {ls : List (List Nat)} (h : d ∈ (ls.map SX.S).map D.str) : ∃ l ∈ ls, d = .str (SX.S l) := by
  rw [List.map_map] at h
  obtain ⟨l, hl, e⟩ := List.mem_map.mp h
  exact ⟨l, hl, e.symm⟩
theorem markL_len {m : List Nat} (h : m ∈ markL) : m.length = 1 := by
  revert m; decide
theorem tailL_len {m : List Nat} (h : m ∈ tailL) : m.length ≤ 2 := by
  revert m; decide
def v_names : VS :=
  vSeq (vSet 3 (vC (.str "abcdefghijklmnopqrstuvwxyz")))
    (vSeq (vSet 4 (vM1 joinP (vVal (vC (.str ""))) (vVal (vLc (vItR1 (vCons (vVal (vBin addP (vVal (vC (.int 1))) (vVal (vCall S_pick (vCons (vPk 0) (vCons (vVal (vC (.int 2))) (vNil))))))) (vNil))) (gN 7) (vYes) (vBin ixP (vPk 3) (vVal (vCall S_pick (vCons (vPk 0) (vCons (vVal (vC (.int 26))) (vNil)))))) [7]))))
    (vSeq (vSet 5 (vCall S_choice (vCons (vPk 0) (vCons (vVal (vSh (vLst (vCons (vVal (vC (.str "."))) (vCons (vVal (vC (.str "/"))) (vCons (vVal (vC (.str "-"))) (vCons (vVal (vC (.str "_"))) (vNil)))))))) (vNil)))))
    (vSeq (vSet 6 (vCall S_choice (vCons (vPk 0) (vCons (vVal (vSh (vLst (vCons (vVal (vC (.str ""))) (vCons (vVal (vC (.str "x"))) (vCons (vVal (vC (.str ".c"))) (vCons (vVal (vC (.str "/q"))) (vNil)))))))) (vNil)))))
    (vRet (vCall S_shuffled (vCons (vPk 0) (vCons (vVal (vSh (vLc (vItR1 (vCons (vPk 1) (vNil))) (gN 7) (vYes) (vBin addP (vVal (vBin addP (vVal (vBin addP (vPk 4) (vPk 5))) (vVal (vPrim strP (vCons (vVal (vBin addP (vVal (vBin addP (vVal (vC (.int 1000))) (vVal (vBin mulP (vPk 2) (vVal (vC (.int 100))))))) (vPk 7))) (vNil)))))) (vPk 6)) [7]))) (vNil))))))))
theorem rd_names : Reads S_names (fun _ => v_names) 5 := fun ρs R _ h => by
  obtain ⟨a, b, c, many, before, rfl, h0, h1, h2, h3, q⟩ := h
  unfold v_names
  show vSeq _ _ _ [srcD a b c, .sh (.int many), .sh (.int before), .un, .un, .un, .un, .un]
  walk_at "ss"
  refine k_call rfl ⟨a, b, c, 2, rfl, by decide, by decide, fun a b c r r0 r1 => ?_⟩
  walk_at "back"
  walk_at "ss"
  refine k_itR1 rfl (by omega) ?_
  refine k_lc (by simp [Slot.free]) (fun j acc ρ' => ∃ a b c cs, ρ' = [srcD a b c, .sh (.int many), .sh (.int before), .sh (.str abcS), .un, .un, .un, .un] ∧ cs.length = j ∧ Letters cs ∧ acc = (cs.map fun c => SX.S [c]).map D.str) ⟨a, b, c, [], rfl, rfl, .nil, rfl⟩ ?_ ?_
  · rintro j acc d ρ' hj ⟨a, b, c, cs, rfl, rfl, hl, rfl⟩
    have hj' : cs.length < (1 + r).toNat := by
      have := (List.getElem?_eq_some_iff.mp hj).1
      rwa [rangeD_len] at this
    walk_at "ss"
    refine k_call rfl ⟨a, b, c, 26, rfl, by decide, by decide, fun a b c r2 r0 r1 => ?_⟩
    walk_at "back"
    walk_at "ss"
    refine p_ixSn abc_len r0 (abc_at r2.toNat (by omega)) ?_
    walk_at "ss"
    refine k_lcE rfl (by simp; show cs.length < 16777216; omega) ?_
    exact ⟨a, b, c, cs ++ [97 + r2.toNat], rfl, by simp, hl.snoc (by omega) (by omega), by simp⟩
  · rintro acc ρ' ⟨a, b, c, cs, rfl, hj, hl, rfl⟩
    rw [rangeD_len] at hj
    walk_at "ss"
    refine p_join (by rw [sum_ones, List.length_map]; show cs.length + cs.length * 0 ≤ _; omega) ?_
    rw [join_signs]
    walk_at "ss"
    rw [mark_D]
    refine k_call rfl ⟨a, b, c, _, rfl, by decide, by decide, fun a b c d hd => ?_⟩
    obtain ⟨m, hm, rfl⟩ := mem_texts hd
    walk_at "back"
    walk_at "ss"
    rw [tail_D]
    refine k_call rfl ⟨a, b, c, _, rfl, by decide, by decide, fun a b c d hd => ?_⟩
    obtain ⟨tl, ht, rfl⟩ := mem_texts hd
    walk_at "back"
    walk_at "ss"
    have lm := markL_len hm
    have lt := tailL_len ht
    refine k_itR1 rfl (by omega) ?_
    refine k_lcM (List.range many.toNat) (fun (i : Nat) => D.int (0 + (i : Int))) (fun _ => true) (fun k => .str (SX.S (nameL cs m tl (1000 + before.toNat * 100 + k)))) _ rfl (by rw [List.length_range]; show many.toNat < 16777216; omega) (by simp [Slot.free]) (by dsimp only [wipeR, List.set]) ?_ ?_
    · intro x acc I hx hz t1 _
      have hx' : x < many.toNat := List.mem_range.mp hx
      walk_at "ss"
      refine p_addS (by rw [SX.S_len, SX.S_len]; exact small24 (by omega)) ?_
      rw [SX.S_cat]
      walk_at "ss"
      have en : (1000 + before * 100 + (0 + (x : Int)) : Int) = ((1000 + before.toNat * 100 + x : Nat) : Int) := by omega
      rw [en]
      have ln : (TL.numL (1000 + before.toNat * 100 + x)).length ≤ 7 := TL.numL_len (by decide) (by omega)
      refine p_strI (log2_lt (by omega)) ?_
      rw [num_S]
      walk_at "ss"
      refine p_addS (by rw [SX.S_len, SX.S_len, List.length_append]; exact small24 (by omega)) ?_
      rw [SX.S_cat]
      walk_at "ss"
      refine p_addS (by rw [SX.S_len, SX.S_len, List.length_append, List.length_append]; exact small24 (by omega)) ?_
      rw [SX.S_cat]
      walk_at "ss"
      refine k_lcE rfl hz ?_
      exact t1 rfl
    · walk_at "ss"
      refine k_call rfl ⟨a, b, c, _, rfl, by rw [List.length_map, List.filter_eq_self.mpr (fun _ _ => rfl), List.length_range]; omega, fun a b c es hp => ?_⟩
      walk_at "back"
      have hp2 := (perm_map_inv _ hp)
      obtain ⟨zs, hz, rfl⟩ := hp2
      rw [List.filter_eq_self.mpr (fun _ _ => rfl)] at hz
      have e : (zs.map fun k => D.str (SX.S (nameL cs m tl (1000 + before.toNat * 100 + k)))) = (((zs.map fun k => nameL cs m tl (1000 + before.toNat * 100 + k)).map SX.S).map D.str) := by rw [List.map_map, List.map_map]; rfl
      rw [e]
      exact q _ _ _ cs m tl _ hl (by omega) (by omega) hm ht (hz.map _)
end WL


set_option Elab.async false
set_option linter.all false
set_option maxRecDepth 100000
set_option maxHeartbeats 4000000
/-! HV: the helpers that the laws share: what they promise, and that they keep it. -/
namespace WL
open PySem PySem.Spec PyProof.Rows L2
local macro_rules | `(tactic| walk_at "s") => `(tactic| first
  | ((with_reducible show vSeq _ _ _ _); refine u_seq ?_)
  | ((with_reducible show vSet _ _ _ _); refine u_set ?_)
  | ((with_reducible show kSet _ _ _ _); refine k_set rfl rfl ?_)
  | ((with_reducible show vRet _ _ _); refine u_ret ?_)
  | ((with_reducible show vIf _ _ _ _ _); refine u_if ?_)
  | ((with_reducible show vExpr _ _ _); refine u_expr ?_)
  | ((with_reducible show kExpr _ _ _); refine k_expr ?_)
  | ((with_reducible show vRetN _ _); refine u_retN ?_)
  | ((with_reducible show vAsg _ _ _ _); refine u_asg ?_)
  | ((with_reducible show kAsg _ _ _ _); refine k_asg rfl ?_)
  | ((with_reducible show vNext _ _); refine u_next ?_)
  | ((with_reducible show vBreak _ _); refine u_break ?_)
  | ((with_reducible show vCont _ _); refine u_cont ?_)
  | ((with_reducible show kIf _ _ _ _ _); (first | refine k_ifT ?_ | refine k_ifF ?_))
  | ((with_reducible show vVal _ _ _); refine u_val ?_)
  | ((with_reducible show kVal _ _ _); refine k_val ?_)
  | ((with_reducible show vPk _ _ _); refine u_pk rfl rfl ?_)
  | ((with_reducible show vC _ _ _); refine u_c ?_)
  | ((with_reducible show vVar _ _ _); (first | refine u_var rfl ?_ | refine u_varL rfl ?_ | refine u_varD rfl ?_ | refine u_varE rfl ?_))
  | ((with_reducible show vMv _ _ _); (first | refine u_mv rfl ?_ | refine u_mvO rfl ?_))
  | ((with_reducible show vBin _ _ _ _ _); refine u_bin ?_)
  | ((with_reducible show kBin1 _ _ _ _ _); refine k_bin1 ?_)
  | ((with_reducible show kBin2 _ _ _ _ _); refine k_bin2 rfl rfl ?_)
  | ((with_reducible show vUn _ _ _ _); refine u_un ?_)
  | ((with_reducible show kUn _ _ _ _); refine k_un rfl ?_)
  | ((with_reducible show vCons _ _ _ _); refine u_cons ?_)
  | ((with_reducible show kCons1 _ _ _ _); refine k_cons1 ?_)
  | ((with_reducible show vNil _ _); refine u_nil ?_)
  | ((with_reducible show kCons2 _ _ _ _); refine k_cons2 ?_)
  | ((with_reducible show vPrim _ _ _ _); refine u_prim ?_)
  | ((with_reducible show kPrim _ _ _ _); (first | refine k_prim1 rfl ?_ | refine k_prim2 rfl rfl ?_))
  | ((with_reducible show kRet _ _ _); (first | refine k_retV ?_ | refine k_retL ?_ | refine k_retT ?_ | refine k_retD ?_))
  | ((with_reducible show vSh _ _ _); refine u_sh ?_)
  | ((with_reducible show kSh _ _ _); (first | refine k_sh ?_ | refine k_shL ?_ | refine k_shD ?_))
  | ((with_reducible show vT _ _ _); refine u_t ?_)
  | ((with_reducible show kT _ _ _); refine k_t ?_)
  | ((with_reducible show vTru _ _ _); refine u_tru ?_)
  | ((with_reducible show kTru _ _ _); refine k_tru rfl rfl ?_)
  | ((with_reducible show vAnd _ _ _ _); refine u_and ?_)
  | ((with_reducible show kAnd _ _ _ _); (first | refine k_andT ?_ | refine k_andF ?_))
  | ((with_reducible show vOr _ _ _ _); refine u_or ?_)
  | ((with_reducible show kOr _ _ _ _); (first | refine k_orT ?_ | refine k_orF ?_))
  | ((with_reducible show vNot _ _ _); refine u_not ?_)
  | ((with_reducible show kNot _ _ _); refine k_not ?_)
  | ((with_reducible show vAndV _ _ _ _); refine u_andV ?_)
  | ((with_reducible show kAndV _ _ _ _); (first | refine k_andVT ?_ | refine k_andVF ?_))
  | ((with_reducible show kOrV _ _ _ _); (first | refine k_orVT ?_ | refine k_orVF ?_))
  | ((with_reducible show vOrV _ _ _ _); refine u_orV ?_)
  | ((with_reducible show vNotV _ _ _); refine u_notV ?_)
  | ((with_reducible show kNotV _ _ _); refine k_notV ?_)
  | ((with_reducible show vIfE _ _ _ _ _); refine u_ifE ?_)
  | ((with_reducible show kIfE _ _ _ _ _); (first | refine k_ifET ?_ | refine k_ifEF ?_))
  | ((with_reducible show vLst _ _ _); refine u_lst ?_)
  | ((with_reducible show kLst _ _ _); refine k_lst rfl (by simp only [List.length_cons, List.length_nil]; decide) ?_)
  | ((with_reducible show vTup _ _ _); refine u_tup ?_)
  | ((with_reducible show kTup _ _ _); refine k_tup rfl (by simp only [List.length_cons, List.length_nil]; decide) ?_)
  | ((with_reducible show vNewD _ _); refine u_newD ?_)
  | ((with_reducible show vSl _ _ _ _ _); refine u_sl ?_)
  | ((with_reducible show kSl0 _ _ _ _ _); refine k_sl0 ?_)
  | ((with_reducible show kSl1 _ _ _ _ _); refine k_sl1 ?_)
  | ((with_reducible show kSl2 _ _ _ _ _); refine k_sl2 rfl ?_)
  | ((with_reducible show vNoPart _ _); refine u_noPart ?_)
  | ((with_reducible show vPart _ _ _); refine u_part ?_)
  | ((with_reducible show kPart _ _ _); refine k_part ?_)
  | ((with_reducible show vApp _ _ _ _); refine u_app rfl ?_)
  | ((with_reducible show vPopAt _ _ _ _); refine u_popAt rfl ?_)
  | ((with_reducible show vExt _ _ _ _); refine u_ext rfl ?_)
  | ((with_reducible show vM1 _ _ _ _ _); refine u_m1 ?_)
  | ((with_reducible show kM1a _ _ _ _ _); refine k_m1a rfl ?_)
  | ((with_reducible show kM1b _ _ _ _ _); refine k_m1b rfl rfl ?_)
  | ((with_reducible show vGet2 _ _ _ _ _); refine u_get2 ?_)
  | ((with_reducible show kGet1 _ _ _ _ _); refine k_get1 rfl ?_)
  | ((with_reducible show kGet2 _ _ _ _ _); refine k_get2 ?_)
  | ((with_reducible show vSetL _ _ _ _ _); refine u_setL ?_)
  | ((with_reducible show kSetL1 _ _ _ _ _); refine k_setL1 rfl ?_)
  | ((with_reducible show kSetL2 _ _ _ _ _); (first | refine k_setL2j 0 rfl rfl (by simp) rfl ?_ | refine k_setL2j 1 rfl rfl (by simp) rfl ?_ | refine k_setL2j 2 rfl rfl (by simp) rfl ?_))
  | ((with_reducible show vPutD _ _ _ _ _); refine u_putD ?_)
  | ((with_reducible show kPutD1 _ _ _ _ _); refine k_putD1 rfl ?_)
  | ((with_reducible show vAugL _ _ _ _ _ _); refine u_augL rfl ?_)
  | ((with_reducible show kAugL1 _ _ _ _ _ _); (first | refine k_augL1j 0 rfl rfl rfl ?_ | refine k_augL1j 1 rfl rfl rfl ?_ | refine k_augL1j 2 rfl rfl rfl ?_))
  | ((with_reducible show kAugL2 _ _ _ _ _ _ _); refine k_augL2j rfl (by simp) ?_)
  | ((with_reducible show vAug _ _ _ _ _); refine u_aug rfl ?_)
  | ((with_reducible show kAug _ _ _ _ _ _); (first | refine k_augAdd rfl ?_ | refine k_augSub rfl ?_))
  | ((with_reducible show vCall _ _ _ _); refine u_call ?_)
  | ((with_reducible show gN _ _ _ _); refine u_gN rfl rfl ?_)
  | ((with_reducible show gT _ _ _ _); refine u_gT rfl ?_)
  | ((with_reducible show gL _ _ _ _); refine u_gL rfl rfl ?_)
  | ((with_reducible show gTs _ _ _ _); (first | refine u_gTs0 ?_ | refine u_gTs ?_))
  | ((with_reducible show vItL _ _ _); refine u_itL ?_)
  | ((with_reducible show kItL _ _ _); refine k_itL rfl rfl ?_)
  | ((with_reducible show vItT _ _ _); refine u_itT ?_)
  | ((with_reducible show kItT _ _ _); refine k_itT rfl rfl ?_)
  | ((with_reducible show vItR1 _ _ _); refine u_itR1 ?_)
  | ((with_reducible show vItR2 _ _ _); refine u_itR2 ?_)
  | ((with_reducible show vFor _ _ _ _ _); refine u_for ?_)
  | ((with_reducible show vLc _ _ _ _ _ _ _); refine u_lc ?_)
  | ((with_reducible show vLcK _ _ _ _ _ _ _); refine u_lcK rfl ?_)
  | ((with_reducible show vYes _ _); refine u_yes ?_)
  | ((with_reducible show kLcT _ _ _ _ _ _); refine k_lcTT ?_)
  | ((with_reducible show addP _ _); refine p_addI ?_)
  | ((with_reducible show subP _ _); refine p_subI ?_)
  | ((with_reducible show mulP _ _); (first | refine p_mulI (.inl (.inl (by omega))) ?_ | refine p_mulI (.inl (.inr (by omega))) ?_))
  | ((with_reducible show modP _ _); refine p_modI (by omega) ?_)
  | ((with_reducible show divP _ _); refine p_divI (.inl (by constructor <;> omega)) ?_)
  | ((with_reducible show negP _ _); refine p_negI ?_)
  | ((with_reducible show ltP _ _); refine p_ltI ?_)
  | ((with_reducible show leP _ _); refine p_leI ?_)
  | ((with_reducible show gtP _ _); refine p_gtI ?_)
  | ((with_reducible show geP _ _); refine p_geI ?_)
  | ((with_reducible show eqP _ _); (first | refine p_eqI ?_ | refine p_eqS ?_ | refine p_eqB ?_ | refine p_eqN ?_))
  | ((with_reducible show neP _ _); (first | refine p_neI ?_ | refine p_neS ?_ | refine p_neB ?_))
  | ((with_reducible show isNP _ _); (first | refine p_isNn ?_ | refine p_isNi ?_ | refine p_isNs ?_ | refine p_isNb ?_ | refine p_isNl ?_ | refine p_isNt ?_ | refine p_isNd ?_))
  | ((with_reducible show notNP _ _); (first | refine p_notNn ?_ | refine p_notNi ?_ | refine p_notNs ?_ | refine p_notNb ?_ | refine p_notNl ?_ | refine p_notNt ?_ | refine p_notNd ?_))
  | ((with_reducible show isiP _ _); refine p_isi rfl rfl ?_)
  | ((with_reducible show isiTP _ _); refine p_isiT rfl rfl ?_)
  | ((with_reducible show reprP _ _); (first | refine p_reprB ?_ | refine p_reprN ?_))
  | ((with_reducible show lenP _ _); (first | refine p_lenL ?_ | refine p_lenF ?_ | refine p_lenT ?_ | refine p_lenD ?_))
  | ((with_reducible show absP _ _); refine p_absI ?_)
  | ((with_reducible show intP _ _); refine p_intI ?_)
  | ((with_reducible show listP _ _); (first | refine p_listL ?_ | refine p_listF ?_ | refine p_listD ?_))
  | ((with_reducible show ixP _ _); (first | refine p_ixLj 0 rfl rfl ?_ | refine p_ixLj 1 rfl rfl ?_ | refine p_ixLj 2 rfl rfl ?_ | refine p_ixLj 3 rfl rfl ?_ | refine p_ixTj 0 rfl rfl ?_ | refine p_ixTj 1 rfl rfl ?_ | refine p_ixTj 2 rfl rfl ?_ | refine p_ixTj 3 rfl rfl ?_))
  | ((with_reducible show inP _ _ _); (first | refine p_inS0 ?_ | refine p_inS1 ?_ | refine p_inI0 ?_ | refine p_inI1 ?_ | refine p_inD0 rfl ?_ | refine p_inD1 rfl ?_))
  | ((with_reducible show slP _ _ _ _); (first | refine p_slL ?_ | refine p_slF ?_))
  | ((with_reducible show sumP _ _); refine p_sum ?_)
  | ((with_reducible show maxP _ _); refine p_max2 ?_)
  | ((with_reducible show minP _ _); refine p_min2 ?_)
  | ((with_reducible show allP _ _); refine p_all ?_)
  | ((with_reducible show anyP _ _); refine p_any ?_))
local macro_rules | `(tactic| walk_at "ss") => `(tactic| repeat walk_at "s")
local macro_rules | `(tactic| walk_at "back") => `(tactic| refine k_back ?_ (by dsimp only [takeBack, backS, List.set, List.getElem?_cons_zero, List.getElem?_cons_succ]))
def v_source : VS :=
  vSeq (vSet 2 (vIfE (vT (vBin ltP (vPk 1) (vVal (vPrim lenP (vCons (vPk 0) (vNil)))))) (vPrim intP (vCons (vVal (vBin ixP (vPk 0) (vPk 1))) (vNil))) (vBin addP (vVal (vBin mulP (vVal (vC (.int 31))) (vVal (vPrim sumP (vCons (vVal (vLc (vItL (vSl (vPk 0) (vNoPart) (vPart (vC (.int 6))))) (gN 5) (vYes) (vBin modP (vVal (vPrim intP (vCons (vPk 5) (vNil)))) (vVal (vC (.int 999979)))) [5])) (vNil)))))) (vVal (vC (.int 17))))))
    (vSeq (vSet 3 (vBin modP (vVal (vPrim absP (vCons (vPk 2) (vNil)))) (vVal (vBin mulP (vVal (vBin powP (vVal (vC (.int 10))) (vVal (vC (.int 60))))) (vVal (vBin powP (vVal (vC (.int 10))) (vVal (vC (.int 60)))))))))
    (vSeq (vSet 4 (vBin modP (vVal (vPrim intP (vCons (vVal (vBin addP (vVal (vBin addP (vVal (vBin addP (vVal (vBin mulP (vVal (vC (.int 2))) (vPk 3))) (vVal (vIfE (vT (vBin ltP (vPk 2) (vVal (vC (.int 0))))) (vC (.int 1)) (vC (.int 0)))))) (vVal (vBin mulP (vPk 1) (vVal (vC (.int 130363))))))) (vVal (vC (.int 65539))))) (vNil)))) (vVal (vC (.int 2147483629)))))
    (vRet (vLst (vCons (vVal (vIfE (vT (vBin geP (vPk 3) (vVal (vBin powP (vVal (vC (.int 10))) (vVal (vC (.int 18))))))) (vVar 3) (vC (.int 0)))) (vCons (vVal (vBin modP (vVal (vPrim intP (vCons (vVal (vBin mulP (vVal (vBin addP (vPk 4) (vVal (vC (.int 7919))))) (vVal (vBin addP (vPk 4) (vVal (vC (.int 104729))))))) (vNil)))) (vVal (vC (.int 2147483629))))) (vCons (vVal (vVar 1)) (vNil))))))))
def S_source : VSp := fun ρs R _ => ∃ (ns : List Int) (at' : Int), ρs = [.sh (.fls (ns.map D.int)), .sh (.int at')] ∧ ns.length ≤ 1000 ∧ 0 ≤ at' ∧ at' ≤ 1000000 ∧
  ∀ a b : Int, R (.ow false (.lst [.int a, .int b, .int at'])) [.sh (.fls (ns.map D.int)), .sh (.int at')]
theorem cutL_map {α : Type} (f : α → D) (xs : List α) (lo hi : Option Int) : cutL (xs.map f) lo hi = (cutL xs lo hi).map f := by
  unfold cutL
  rw [List.length_map, ← List.map_drop, ← List.map_take]
theorem cutL_len {α : Type} (xs : List α) (lo hi : Option Int) : (cutL xs lo hi).length ≤ xs.length := by
  unfold cutL
  rw [List.length_take, List.length_drop]; omega
theorem rd_source : Reads S_source (fun _ => v_source) 4 := fun ρs R _ h => by
  obtain ⟨ns, at', rfl, h0, h1, h2, q⟩ := h
  unfold v_source
  show vSeq _ _ _ [.sh (.fls (ns.map D.int)), .sh (.int at'), .un, .un, .un, .un]
  walk_at "ss"
  refine k_ifEJ (fun s ρ' => ∃ n : Int, s = .sh (.int n) ∧ ρ' = [.sh (.fls (ns.map D.int)), .sh (.int at'), .un, .un, .un, .un]) (fun h K hK => ?_) (fun h K hK => ?_) (fun s ρ' hs => ?_)
  · rw [List.length_map] at h
    walk_at "ss"
    have hx : at'.toNat < ns.length := by omega
    refine p_ixFn h1 (by rw [List.getElem?_map, List.getElem?_eq_getElem hx]; rfl) ?_
    walk_at "ss"
    exact hK _ _ ⟨_, rfl, rfl⟩
  · walk_at "ss"
    rw [cutL_map]
    refine k_lcM (cutL ns none (some 6)) D.int (fun _ => true) (fun n => .int (n % 999979)) _ rfl (Nat.lt_of_le_of_lt (cutL_len _ _ _) (by show ns.length < 16777216; omega)) (by simp [Slot.free]) (by dsimp only [wipeR, List.set]) ?_ ?_
    · intro x acc I hx hz t1 _
      walk_at "ss"
      exact k_lcE rfl hz (t1 rfl)
    · rw [List.filter_eq_self.mpr (fun _ _ => rfl), show (fun n : Int => D.int (n % 999979)) = D.int ∘ (fun n : Int => n % 999979) from rfl, ← List.map_map]
      walk_at "ss"
      exact hK _ _ ⟨_, rfl, rfl⟩
  · obtain ⟨cell, rfl, rfl⟩ := hs
    walk_at "ss"
    refine p_powI (by unfold CPow; decide) ?_
    walk_at "ss"
    refine p_powI (by unfold CPow; decide) ?_
    walk_at "ss"
    refine p_mulI (.inr (by unfold CMulW; decide +kernel)) ?_
    walk_at "ss"
    refine p_modI (by decide +kernel) ?_
    walk_at "ss"
    refine k_ifEI (fun s => ∃ n : Int, s = .sh (.int n)) (fun h K hK => ?_) (fun h K hK => ?_) (fun s hs => ?_)
    · walk_at "ss"
      exact hK _ ⟨_, rfl⟩
    · walk_at "ss"
      exact hK _ ⟨_, rfl⟩
    · obtain ⟨n, rfl⟩ := hs
      walk_at "ss"
      refine p_powI (by unfold CPow; decide) ?_
      walk_at "ss"
      refine k_ifEI (fun s => ∃ n : Int, s = .sh (.int n)) (fun h K hK => ?_) (fun h K hK => ?_) (fun s hs => ?_)
      · walk_at "ss"
        exact hK _ ⟨_, rfl⟩
      · walk_at "ss"
        exact hK _ ⟨_, rfl⟩
      · obtain ⟨n, rfl⟩ := hs
        walk_at "ss"
        exact q _ _
end WL


set_option Elab.async false
set_option linter.all false
set_option maxRecDepth 100000
set_option maxHeartbeats 4000000
/-! HV: the helpers that the laws share: what they promise, and that they keep it. -/
namespace WL
open PySem PySem.Spec PyProof.Rows L2
local macro_rules | `(tactic| walk_at "s") => `(tactic| first
  | ((with_reducible show vSeq _ _ _ _); refine u_seq ?_)
  | ((with_reducible show vSet _ _ _ _); refine u_set ?_)
  | ((with_reducible show kSet _ _ _ _); refine k_set rfl rfl ?_)
  | ((with_reducible show vRet _ _ _); refine u_ret ?_)
  | ((with_reducible show vIf _ _ _ _ _); refine u_if ?_)
  | ((with_reducible show vExpr _ _ _); refine u_expr ?_)
  | ((with_reducible show kExpr _ _ _); refine k_expr ?_)
  | ((with_reducible show vRetN _ _); refine u_retN ?_)
  | ((with_reducible show vAsg _ _ _ _); refine u_asg ?_)
  | ((with_reducible show kAsg _ _ _ _); refine k_asg rfl ?_)
  | ((with_reducible show vNext _ _); refine u_next ?_)
  | ((with_reducible show vBreak _ _); refine u_break ?_)
  | ((with_reducible show vCont _ _); refine u_cont ?_)
  | ((with_reducible show kIf _ _ _ _ _); (first | refine k_ifT ?_ | refine k_ifF ?_))
  | ((with_reducible show vVal _ _ _); refine u_val ?_)
  | ((with_reducible show kVal _ _ _); refine k_val ?_)
  | ((with_reducible show vPk _ _ _); refine u_pk rfl rfl ?_)
  | ((with_reducible show vC _ _ _); refine u_c ?_)
  | ((with_reducible show vVar _ _ _); (first | refine u_var rfl ?_ | refine u_varL rfl ?_ | refine u_varD rfl ?_ | refine u_varE rfl ?_))
  | ((with_reducible show vMv _ _ _); (first | refine u_mv rfl ?_ | refine u_mvO rfl ?_))
  | ((with_reducible show vBin _ _ _ _ _); refine u_bin ?_)
  | ((with_reducible show kBin1 _ _ _ _ _); refine k_bin1 ?_)
  | ((with_reducible show kBin2 _ _ _ _ _); refine k_bin2 rfl rfl ?_)
  | ((with_reducible show vUn _ _ _ _); refine u_un ?_)
  | ((with_reducible show kUn _ _ _ _); refine k_un rfl ?_)
  | ((with_reducible show vCons _ _ _ _); refine u_cons ?_)
  | ((with_reducible show kCons1 _ _ _ _); refine k_cons1 ?_)
  | ((with_reducible show vNil _ _); refine u_nil ?_)
  | ((with_reducible show kCons2 _ _ _ _); refine k_cons2 ?_)
  | ((with_reducible show vPrim _ _ _ _); refine u_prim ?_)
  | ((with_reducible show kPrim _ _ _ _); (first | refine k_prim1 rfl ?_ | refine k_prim2 rfl rfl ?_))
  | ((with_reducible show kRet _ _ _); (first | refine k_retV ?_ | refine k_retL ?_ | refine k_retT ?_ | refine k_retD ?_))
  | ((with_reducible show vSh _ _ _); refine u_sh ?_)
  | ((with_reducible show kSh _ _ _); (first | refine k_sh ?_ | refine k_shL ?_ | refine k_shD ?_))
  | ((with_reducible show vT _ _ _); refine u_t ?_)
  | ((with_reducible show kT _ _ _); refine k_t ?_)
  | ((with_reducible show vTru _ _ _); refine u_tru ?_)
  | ((with_reducible show kTru _ _ _); refine k_tru rfl rfl ?_)
  | ((with_reducible show vAnd _ _ _ _); refine u_and ?_)
  | ((with_reducible show kAnd _ _ _ _); (first | refine k_andT ?_ | refine k_andF ?_))
  | ((with_reducible show vOr _ _ _ _); refine u_or ?_)
  | ((with_reducible show kOr _ _ _ _); (first | refine k_orT ?_ | refine k_orF ?_))
  | ((with_reducible show vNot _ _ _); refine u_not ?_)
  | ((with_reducible show kNot _ _ _); refine k_not ?_)
  | ((with_reducible show vAndV _ _ _ _); refine u_andV ?_)
  | ((with_reducible show kAndV _ _ _ _); (first | refine k_andVT ?_ | refine k_andVF ?_))
  | ((with_reducible show kOrV _ _ _ _); (first | refine k_orVT ?_ | refine k_orVF ?_))
  | ((with_reducible show vOrV _ _ _ _); refine u_orV ?_)
  | ((with_reducible show vNotV _ _ _); refine u_notV ?_)
  | ((with_reducible show kNotV _ _ _); refine k_notV ?_)
  | ((with_reducible show vIfE _ _ _ _ _); refine u_ifE ?_)
  | ((with_reducible show kIfE _ _ _ _ _); (first | refine k_ifET ?_ | refine k_ifEF ?_))
  | ((with_reducible show vLst _ _ _); refine u_lst ?_)
  | ((with_reducible show kLst _ _ _); refine k_lst rfl (by simp only [List.length_cons, List.length_nil]; decide) ?_)
  | ((with_reducible show vTup _ _ _); refine u_tup ?_)
  | ((with_reducible show kTup _ _ _); refine k_tup rfl (by simp only [List.length_cons, List.length_nil]; decide) ?_)
  | ((with_reducible show vNewD _ _); refine u_newD ?_)
  | ((with_reducible show vSl _ _ _ _ _); refine u_sl ?_)
  | ((with_reducible show kSl0 _ _ _ _ _); refine k_sl0 ?_)
  | ((with_reducible show kSl1 _ _ _ _ _); refine k_sl1 ?_)
  | ((with_reducible show kSl2 _ _ _ _ _); refine k_sl2 rfl ?_)
  | ((with_reducible show vNoPart _ _); refine u_noPart ?_)
  | ((with_reducible show vPart _ _ _); refine u_part ?_)
  | ((with_reducible show kPart _ _ _); refine k_part ?_)
  | ((with_reducible show vApp _ _ _ _); refine u_app rfl ?_)
  | ((with_reducible show vPopAt _ _ _ _); refine u_popAt rfl ?_)
  | ((with_reducible show vExt _ _ _ _); refine u_ext rfl ?_)
  | ((with_reducible show vM1 _ _ _ _ _); refine u_m1 ?_)
  | ((with_reducible show kM1a _ _ _ _ _); refine k_m1a rfl ?_)
  | ((with_reducible show kM1b _ _ _ _ _); refine k_m1b rfl rfl ?_)
  | ((with_reducible show vGet2 _ _ _ _ _); refine u_get2 ?_)
  | ((with_reducible show kGet1 _ _ _ _ _); refine k_get1 rfl ?_)
  | ((with_reducible show kGet2 _ _ _ _ _); refine k_get2 ?_)
  | ((with_reducible show vSetL _ _ _ _ _); refine u_setL ?_)
  | ((with_reducible show kSetL1 _ _ _ _ _); refine k_setL1 rfl ?_)
  | ((with_reducible show kSetL2 _ _ _ _ _); (first | refine k_setL2j 0 rfl rfl (by simp) rfl ?_ | refine k_setL2j 1 rfl rfl (by simp) rfl ?_ | refine k_setL2j 2 rfl rfl (by simp) rfl ?_))
  | ((with_reducible show vPutD _ _ _ _ _); refine u_putD ?_)
  | ((with_reducible show kPutD1 _ _ _ _ _); refine k_putD1 rfl ?_)
  | ((with_reducible show vAugL _ _ _ _ _ _); refine u_augL rfl ?_)
  | ((with_reducible show kAugL1 _ _ _ _ _ _); (first | refine k_augL1j 0 rfl rfl rfl ?_ | refine k_augL1j 1 rfl rfl rfl ?_ | refine k_augL1j 2 rfl rfl rfl ?_))
  | ((with_reducible show kAugL2 _ _ _ _ _ _ _); refine k_augL2j rfl (by simp) ?_)
  | ((with_reducible show vAug _ _ _ _ _); refine u_aug rfl ?_)
  | ((with_reducible show kAug _ _ _ _ _ _); (first | refine k_augAdd rfl ?_ | refine k_augSub rfl ?_))
  | ((with_reducible show vCall _ _ _ _); refine u_call ?_)
  | ((with_reducible show gN _ _ _ _); refine u_gN rfl rfl ?_)
  | ((with_reducible show gT _ _ _ _); refine u_gT rfl ?_)
  | ((with_reducible show gL _ _ _ _); refine u_gL rfl rfl ?_)
  | ((with_reducible show gTs _ _ _ _); (first | refine u_gTs0 ?_ | refine u_gTs ?_))
  | ((with_reducible show vItL _ _ _); refine u_itL ?_)
  | ((with_reducible show kItL _ _ _); refine k_itL rfl rfl ?_)
  | ((with_reducible show vItT _ _ _); refine u_itT ?_)
  | ((with_reducible show kItT _ _ _); refine k_itT rfl rfl ?_)
  | ((with_reducible show vItR1 _ _ _); refine u_itR1 ?_)
  | ((with_reducible show vItR2 _ _ _); refine u_itR2 ?_)
  | ((with_reducible show vFor _ _ _ _ _); refine u_for ?_)
  | ((with_reducible show vLc _ _ _ _ _ _ _); refine u_lc ?_)
  | ((with_reducible show vLcK _ _ _ _ _ _ _); refine u_lcK rfl ?_)
  | ((with_reducible show vYes _ _); refine u_yes ?_)
  | ((with_reducible show kLcT _ _ _ _ _ _); refine k_lcTT ?_)
  | ((with_reducible show addP _ _); refine p_addI ?_)
  | ((with_reducible show subP _ _); refine p_subI ?_)
  | ((with_reducible show mulP _ _); (first | refine p_mulI (.inl (.inl (by omega))) ?_ | refine p_mulI (.inl (.inr (by omega))) ?_))
  | ((with_reducible show modP _ _); refine p_modI (by omega) ?_)
  | ((with_reducible show divP _ _); refine p_divI (.inl (by constructor <;> omega)) ?_)
  | ((with_reducible show negP _ _); refine p_negI ?_)
  | ((with_reducible show ltP _ _); refine p_ltI ?_)
  | ((with_reducible show leP _ _); refine p_leI ?_)
  | ((with_reducible show gtP _ _); refine p_gtI ?_)
  | ((with_reducible show geP _ _); refine p_geI ?_)
  | ((with_reducible show eqP _ _); (first | refine p_eqI ?_ | refine p_eqS ?_ | refine p_eqB ?_ | refine p_eqN ?_))
  | ((with_reducible show neP _ _); (first | refine p_neI ?_ | refine p_neS ?_ | refine p_neB ?_))
  | ((with_reducible show isNP _ _); (first | refine p_isNn ?_ | refine p_isNi ?_ | refine p_isNs ?_ | refine p_isNb ?_ | refine p_isNl ?_ | refine p_isNt ?_ | refine p_isNd ?_))
  | ((with_reducible show notNP _ _); (first | refine p_notNn ?_ | refine p_notNi ?_ | refine p_notNs ?_ | refine p_notNb ?_ | refine p_notNl ?_ | refine p_notNt ?_ | refine p_notNd ?_))
  | ((with_reducible show isiP _ _); refine p_isi rfl rfl ?_)
  | ((with_reducible show isiTP _ _); refine p_isiT rfl rfl ?_)
  | ((with_reducible show reprP _ _); (first | refine p_reprB ?_ | refine p_reprN ?_))
  | ((with_reducible show lenP _ _); (first | refine p_lenL ?_ | refine p_lenF ?_ | refine p_lenT ?_ | refine p_lenD ?_))
  | ((with_reducible show absP _ _); refine p_absI ?_)
  | ((with_reducible show intP _ _); refine p_intI ?_)
  | ((with_reducible show listP _ _); (first | refine p_listL ?_ | refine p_listF ?_ | refine p_listD ?_))
  | ((with_reducible show ixP _ _); (first | refine p_ixLj 0 rfl rfl ?_ | refine p_ixLj 1 rfl rfl ?_ | refine p_ixLj 2 rfl rfl ?_ | refine p_ixLj 3 rfl rfl ?_ | refine p_ixTj 0 rfl rfl ?_ | refine p_ixTj 1 rfl rfl ?_ | refine p_ixTj 2 rfl rfl ?_ | refine p_ixTj 3 rfl rfl ?_))
  | ((with_reducible show inP _ _ _); (first | refine p_inS0 ?_ | refine p_inS1 ?_ | refine p_inI0 ?_ | refine p_inI1 ?_ | refine p_inD0 rfl ?_ | refine p_inD1 rfl ?_))
  | ((with_reducible show slP _ _ _ _); (first | refine p_slL ?_ | refine p_slF ?_))
  | ((with_reducible show sumP _ _); refine p_sum ?_)
  | ((with_reducible show maxP _ _); refine p_max2 ?_)
  | ((with_reducible show minP _ _); refine p_min2 ?_)
  | ((with_reducible show allP _ _); refine p_all ?_)
  | ((with_reducible show anyP _ _); refine p_any ?_))
local macro_rules | `(tactic| walk_at "ss") => `(tactic| repeat walk_at "s")
local macro_rules | `(tactic| walk_at "back") => `(tactic| refine k_back ?_ (by dsimp only [takeBack, backS, List.set, List.getElem?_cons_zero, List.getElem?_cons_succ]))
/-- data that a comparison tells equal to itself -/
inductive Sm : Nat → D → Prop
  | non {k} : Sm k .non
  | bl {k b} : Sm k (.bl b)
  | int {k i} (h : i.natAbs.log2 < 1920) : Sm k (.int i)
  | str {k x} (h : (reprText x).length ≤ sizeLine) : Sm k (.str x)
  | lst {k ds} (h : ∀ d ∈ ds, Sm k d) (hz : ds.length < 1000000) : Sm (k + 1) (.lst ds)
  | tup {k ds} (h : ∀ d ∈ ds, Sm k d) (hz : ds.length < 1000000) : Sm (k + 1) (.tup ds)
  | dct {k kvs} (h : ∀ kv ∈ kvs, Sm k kv.2) (hz : kvs.length < 1000000) : Sm (k + 1) (.dct kvs)
def Sn_same : Nat → VSp
  | 0 => fun _ _ _ => False
  | k + 1 => fun ρs R _ => ∃ d, ρs = [.sh d, .sh d] ∧ Sm k d ∧ R (.sh (.bl true)) [.sh d, .sh d]
theorem look_mem {κ α : Type} [DecidableEq κ] {k : κ} {v : α} : ∀ {kvs : List (κ × α)}, (k, v) ∈ kvs → ∃ v', lookK kvs k = some v' ∧ (k, v') ∈ kvs
  | [], h => by cases h
  | (j, u) :: r, h => by
    by_cases e : j = k
    · subst e
      exact ⟨u, by unfold lookK; simp, by simp⟩
    · rcases List.mem_cons.mp h with h | h
      · cases h; exact absurd rfl e
      · obtain ⟨v', h1, h2⟩ := look_mem h
        exact ⟨v', by unfold lookK at h1 ⊢; rw [List.find?_cons_of_neg (by simp [e])]; exact h1, by simp [h2]⟩
theorem keyD_dK (k : Key) : keyD (dK k) = some k := by cases k <;> rfl
theorem all_true {α : Type} : ∀ xs : List α, (xs.map fun _ => true).all id = true
  | [] => rfl
  | _ :: r => by rw [List.map_cons, List.all_cons, all_true r]; rfl
abbrev S_same : VSp := Sn_same 4
def v_same (S_same : VSp) : VS :=
  vSeq (vIf (vTru (vVal (vPrim isiP (vCons (vPk 1) (vCons (vVal (vC (.opq (.ty "dict")))) (vNil)))))) (vSeq (vSet 2 (vLcK 1 (gN 3) (vYes) (vLst (vCons (vVal (vVar 3)) (vCons (vVal (vBin ixP (vPk 1) (vPk 3))) (vNil)))) [3]))
    (vSeq (vIf (vOr (vNot (vTru (vVal (vPrim isiP (vCons (vPk 0) (vCons (vVal (vC (.opq (.ty "dict")))) (vNil))))))) (vT (vBin neP (vVal (vPrim lenP (vCons (vPk 0) (vNil)))) (vVal (vPrim lenP (vCons (vPk 1) (vNil))))))) (vRet (vC (.bl false))) (vNext))
    (vRet (vPrim allP (vCons (vVal (vLc (vItL (vVar 2)) (gL [3, 4]) (vYes) (vAndV (vBin (inP false) (vPk 3) (vPk 0)) (vCall S_same (vCons (vVal (vSh (vBin ixP (vPk 0) (vPk 3)))) (vCons (vVal (vVar 4)) (vNil))))) [3, 4])) (vNil)))))) (vNext))
    (vSeq (vIf (vTru (vVal (vPrim isiTP (vCons (vPk 1) (vCons (vVal (vTup (vCons (vVal (vC (.opq (.ty "list")))) (vCons (vVal (vC (.opq (.ty "tuple")))) (vNil))))) (vNil)))))) (vSeq (vIf (vOr (vT (vBin neP (vVal (vPrim isiP (vCons (vPk 1) (vCons (vVal (vC (.opq (.ty "list")))) (vNil))))) (vVal (vPrim isiP (vCons (vPk 0) (vCons (vVal (vC (.opq (.ty "list")))) (vNil))))))) (vT (vBin neP (vVal (vPrim isiP (vCons (vPk 1) (vCons (vVal (vC (.opq (.ty "tuple")))) (vNil))))) (vVal (vPrim isiP (vCons (vPk 0) (vCons (vVal (vC (.opq (.ty "tuple")))) (vNil)))))))) (vRet (vC (.bl false))) (vNext))
    (vRet (vAndV (vBin eqP (vVal (vPrim lenP (vCons (vPk 0) (vNil)))) (vVal (vPrim lenP (vCons (vPk 1) (vNil))))) (vPrim allP (vCons (vVal (vLc (vItR1 (vCons (vVal (vPrim lenP (vCons (vPk 1) (vNil)))) (vNil))) (gN 5) (vYes) (vCall S_same (vCons (vVal (vSh (vBin ixP (vPk 0) (vPk 5)))) (vCons (vVal (vSh (vBin ixP (vPk 1) (vPk 5)))) (vNil)))) [5])) (vNil)))))) (vNext))
    (vRet (vAndV (vOrV (vBin isNP (vPk 0) (vVal (vC .non))) (vPrim isiTP (vCons (vPk 0) (vCons (vVal (vTup (vCons (vVal (vC (.opq (.ty "int")))) (vCons (vVal (vC (.opq (.ty "str")))) (vNil))))) (vNil))))) (vBin eqP (vVal (vPrim reprP (vCons (vPk 0) (vNil)))) (vVal (vPrim reprP (vCons (vPk 1) (vNil))))))))
theorem rd_same (k : Nat) : Reads (Sn_same (k + 1)) (fun _ => v_same (Sn_same k)) 4 := fun ρs R _ h => by
  obtain ⟨d, rfl, sm, q⟩ := h
  unfold v_same
  show vSeq _ _ _ [.sh d, .sh d, .un, .un, .un, .un]
  cases sm with
  | non =>
    walk_at "ss"
    simp only [decide_true]
    exact q
  | bl =>
    walk_at "ss"
    simp only [decide_true]
    exact q
  | int h =>
    walk_at "ss"
    refine p_reprI h ?_
    walk_at "ss"
    refine p_reprI h ?_
    walk_at "ss"
    simp only [decide_true]
    exact q
  | str h =>
    walk_at "ss"
    refine p_reprS h ?_
    walk_at "ss"
    refine p_reprS h ?_
    walk_at "ss"
    simp only [decide_true]
    exact q
  | lst h hz =>
    rename_i k ds
    walk_at "ss"
    refine k_andV (fun _ => ?_) (fun z => absurd rfl (of_decide_eq_false z))
    walk_at "ss"
    refine k_itR1 rfl (by omega) ?_
    refine k_lcM (List.range ds.length) (fun (i : Nat) => D.int (0 + (i : Int))) (fun _ => true) (fun _ => .bl true) _ rfl (by rw [List.length_range]; show ds.length < 16777216; omega) (by simp [Slot.free]) (by dsimp only [wipeR, List.set]) ?_ ?_
    · intro x acc I hx hz t1 _
      have hx' : x < ds.length := List.mem_range.mp hx
      walk_at "ss"
      refine p_ixLj x (by omega) (List.getElem?_eq_getElem hx') ?_
      walk_at "ss"
      refine p_ixLj x (by omega) (List.getElem?_eq_getElem hx') ?_
      walk_at "ss"
      refine k_call rfl ⟨_, rfl, h _ (List.getElem_mem hx'), ?_⟩
      walk_at "back"
      exact k_lcE rfl hz (t1 rfl)
    · rw [List.filter_eq_self.mpr (fun _ _ => rfl), show (fun _ : Nat => D.bl true) = D.bl ∘ (fun _ : Nat => true) from rfl, ← List.map_map]
      walk_at "ss"
      rw [all_true]
      exact q
  | tup h hz =>
    rename_i k ds
    walk_at "ss"
    refine k_andV (fun _ => ?_) (fun z => absurd rfl (of_decide_eq_false z))
    walk_at "ss"
    refine k_itR1 rfl (by omega) ?_
    refine k_lcM (List.range ds.length) (fun (i : Nat) => D.int (0 + (i : Int))) (fun _ => true) (fun _ => .bl true) _ rfl (by rw [List.length_range]; show ds.length < 16777216; omega) (by simp [Slot.free]) (by dsimp only [wipeR, List.set]) ?_ ?_
    · intro x acc I hx hz t1 _
      have hx' : x < ds.length := List.mem_range.mp hx
      walk_at "ss"
      refine p_ixTj x (by omega) (List.getElem?_eq_getElem hx') ?_
      walk_at "ss"
      refine p_ixTj x (by omega) (List.getElem?_eq_getElem hx') ?_
      walk_at "ss"
      refine k_call rfl ⟨_, rfl, h _ (List.getElem_mem hx'), ?_⟩
      walk_at "back"
      exact k_lcE rfl hz (t1 rfl)
    · rw [List.filter_eq_self.mpr (fun _ _ => rfl), show (fun _ : Nat => D.bl true) = D.bl ∘ (fun _ : Nat => true) from rfl, ← List.map_map]
      walk_at "ss"
      rw [all_true]
      exact q
  | dct h hz =>
    rename_i k kvs
    walk_at "ss"
    refine k_lcM kvs (fun kv => dK kv.1) (fun _ => true) (fun kv => .lst [dK kv.1, (lookK kvs kv.1).getD .non]) _ rfl (by show kvs.length < 16777216; omega) (by simp [Slot.free]) (by dsimp only [wipeR, List.set]) ?_ ?_
    · intro kv acc I hx hz t1 _
      obtain ⟨v', h1, h2⟩ := look_mem (k := kv.1) (v := kv.2) hx
      walk_at "ss"
      refine p_ixD (keyD_dK _) h1 ?_
      walk_at "ss"
      refine k_lcE rfl hz ?_
      have t2 := t1 rfl
      rw [h1] at t2
      exact t2
    · rw [List.filter_eq_self.mpr (fun _ _ => rfl)]
      walk_at "ss"
      refine k_ifN (fun z => absurd rfl z) (fun _ => ?_)
      walk_at "ss"
      refine k_lcM kvs (fun kv => .lst [dK kv.1, (lookK kvs kv.1).getD .non]) (fun _ => true) (fun _ => .bl true) _ rfl (by show kvs.length < 16777216; omega) (by simp [Slot.free]) (by dsimp only [wipeR, List.set]) ?_ ?_
      · intro kv acc I hx hz t1 _
        obtain ⟨v', h1, h2⟩ := look_mem (k := kv.1) (v := kv.2) hx
        rw [h1]
        walk_at "ss"
        refine p_inD0 (keyD_dK _) ?_
        rw [h1]
        walk_at "ss"
        refine p_ixD (keyD_dK _) h1 ?_
        walk_at "ss"
        refine k_call rfl ⟨_, rfl, h _ h2, ?_⟩
        walk_at "back"
        exact k_lcE rfl hz (t1 rfl)
      · rw [List.filter_eq_self.mpr (fun _ _ => rfl), show (fun _ : Key × D => D.bl true) = D.bl ∘ (fun _ : Key × D => true) from rfl, ← List.map_map]
        walk_at "ss"
        rw [all_true]
        exact q
end WL


set_option Elab.async false
set_option linter.all false
set_option maxRecDepth 100000
set_option maxHeartbeats 4000000
/-! HV: the helpers that the laws share: what they promise, and that they keep it. -/
namespace WL
open PySem PySem.Spec PyProof.Rows L2
/-! what the helpers' texts are like -/
/-- a short text -/
structure SText (w : Str) : Prop where
  rp : (reprText w).length ≤ sizeLine
  len : w.length ≤ 64
  ok : PyData.strOk w = true
def Plain (w : Str) : Prop := ∀ c ∈ w.cps.toList, (97 ≤ c ∧ c < 123) ∨ (48 ≤ c ∧ c < 58)
def Marked (w : Str) : Prop := ∃ c ∈ w.cps.toList, c = 45 ∨ c = 46 ∨ c = 47 ∨ c = 95
theorem not_marked {w : Str} (h : Plain w) (m : Marked w) : False := by
  obtain ⟨c, hc, e⟩ := m
  have := h c hc
  omega
theorem stext_of {l : List Nat} (hl : l.length ≤ 64) (hc : ∀ c ∈ l, c < 128) : SText (SX.S l) := by
  refine ⟨?_, by rw [SX.S_len]; exact hl, ?_⟩
  rotate_left
  · show (SX.S l).cps.all (· < 0x110000) = true
    rw [← Array.all_toList]
    exact List.all_eq_true.mpr fun c h => decide_eq_true (Nat.lt_trans (hc c h) (by decide))
  have h := StrLaws.reprText_len (SX.S l) (fun c h => Nat.lt_trans (hc c h) (by decide))
  rw [SX.S_len l] at h
  exact Nat.le_trans h (small24 (by omega))
theorem digits_of {n c : Nat} (h : c ∈ TL.numL n) : 48 ≤ c ∧ c < 58 := by
  have := TL.numL_digits n c h
  omega
theorem word_chars {st : List Nat} {at' n c : Nat} (hst : Letters st) (h : c ∈ wordL st at' n) : (97 ≤ c ∧ c < 123) ∨ (48 ≤ c ∧ c < 58) := by
  unfold wordL at h
  rcases List.mem_append.mp h with h | h
  · rcases List.mem_append.mp h with h | h
    · exact .inl (hst c (List.mem_of_mem_take h))
    · exact .inr (digits_of h)
  · exact .inl (hst c (List.mem_of_mem_drop h))
theorem wordL_inj {st : List Nat} {at' m n : Nat} (h : wordL st at' m = wordL st at' n) : m = n := by
  unfold wordL at h
  rw [List.append_left_inj, List.append_right_inj] at h
  exact TL.numL_inj h
theorem nameL_inj {st k tl : List Nat} {m n : Nat} (h : nameL st k tl m = nameL st k tl n) : m = n := by
  unfold nameL at h
  rw [List.append_left_inj, List.append_right_inj] at h
  exact TL.numL_inj h
theorem nodup_map_range {α : Type} (f : Nat → α) (n : Nat) (h : ∀ i j, f i = f j → i = j) : ((List.range n).map f).Nodup := by
  unfold List.Nodup
  rw [List.pairwise_map]
  exact List.pairwise_lt_range.imp fun hlt e => by have := h _ _ e; omega
theorem nodup_map_S {l : List (List Nat)} (h : l.Nodup) : (l.map SX.S).Nodup := by
  unfold List.Nodup
  rw [List.pairwise_map]
  exact h.imp fun hne e => hne (SX.S_inj e)
structure WordsOk (W : List Str) (n : Nat) : Prop where
  nd : W.Nodup
  len : W.length = n
  tx : ∀ w ∈ W, SText w
  pl : ∀ w ∈ W, Plain w
structure NamesOk (W : List Str) (n : Nat) : Prop where
  nd : W.Nodup
  len : W.length = n
  tx : ∀ w ∈ W, SText w
  mrk : ∀ w ∈ W, Marked w
theorem words_ok {st : List Nat} {at' n base : Nat} {ws : List (List Nat)} (hst : Letters st) (hl : st.length ≤ 3) (hb : base + n ≤ 10000000) (hp : ws.Perm ((List.range n).map fun k => wordL st at' (base + k))) : WordsOk (ws.map SX.S) n := by
  have mem : ∀ w ∈ ws, ∃ k, k < n ∧ w = wordL st at' (base + k) := fun w hw => by
    obtain ⟨k, hk, e⟩ := List.mem_map.mp (hp.mem_iff.mp hw)
    exact ⟨k, List.mem_range.mp hk, e.symm⟩
  refine ⟨nodup_map_S (hp.nodup_iff.mpr (nodup_map_range _ _ fun i j e => by have := wordL_inj e; omega)), by rw [List.length_map, hp.length_eq, List.length_map, List.length_range], fun w hw => ?_, fun w hw => ?_⟩
  · obtain ⟨l, hl2, rfl⟩ := List.mem_map.mp hw
    obtain ⟨k, hk, rfl⟩ := mem l hl2
    refine stext_of ?_ fun c hc => by have := word_chars hst hc; omega
    have ln : (TL.numL (base + k)).length ≤ 7 := TL.numL_len (by decide) (by omega)
    unfold wordL
    rw [List.length_append, List.length_append, List.length_take, List.length_drop]
    omega
  · obtain ⟨l, hl2, rfl⟩ := List.mem_map.mp hw
    obtain ⟨k, hk, rfl⟩ := mem l hl2
    exact fun c hc => word_chars hst hc
theorem markL_char : ∀ m ∈ markL, ∃ c ∈ m, c = 45 ∨ c = 46 ∨ c = 47 ∨ c = 95 := by decide
theorem markL_small : ∀ m ∈ markL, ∀ c ∈ m, c < 128 := by decide
theorem tailL_small : ∀ m ∈ tailL, ∀ c ∈ m, c < 128 := by decide
theorem names_ok {st m tl : List Nat} {n base : Nat} {ws : List (List Nat)} (hst : Letters st) (hl : st.length ≤ 3) (hm : m ∈ markL) (ht : tl ∈ tailL) (hb : base + n ≤ 10000000) (hp : ws.Perm ((List.range n).map fun k => nameL st m tl (base + k))) : NamesOk (ws.map SX.S) n := by
  have mem : ∀ w ∈ ws, ∃ k, k < n ∧ w = nameL st m tl (base + k) := fun w hw => by
    obtain ⟨k, hk, e⟩ := List.mem_map.mp (hp.mem_iff.mp hw)
    exact ⟨k, List.mem_range.mp hk, e.symm⟩
  refine ⟨nodup_map_S (hp.nodup_iff.mpr (nodup_map_range _ _ fun i j e => by have := nameL_inj e; omega)), by rw [List.length_map, hp.length_eq, List.length_map, List.length_range], fun w hw => ?_, fun w hw => ?_⟩
  · obtain ⟨l, hl2, rfl⟩ := List.mem_map.mp hw
    obtain ⟨k, hk, rfl⟩ := mem l hl2
    have ln : (TL.numL (base + k)).length ≤ 7 := TL.numL_len (by decide) (by omega)
    have lm := markL_len hm
    have lt := tailL_len ht
    refine stext_of ?_ fun c hc => ?_
    · unfold nameL
      rw [List.length_append, List.length_append, List.length_append]
      omega
    · unfold nameL at hc
      rcases List.mem_append.mp hc with hc | hc
      · rcases List.mem_append.mp hc with hc | hc
        · rcases List.mem_append.mp hc with hc | hc
          · have := hst c hc; omega
          · exact markL_small m hm c hc
        · have := digits_of hc; omega
      · exact tailL_small tl ht c hc
  · obtain ⟨l, hl2, rfl⟩ := List.mem_map.mp hw
    obtain ⟨k, hk, rfl⟩ := mem l hl2
    obtain ⟨c, hc, e⟩ := markL_char m hm
    exact ⟨c, by show c ∈ nameL st m tl (base + k); unfold nameL; simp [hc], e⟩
theorem putD_new {kvs : List (Key × D)} {k : Key} {d : D} (h : ∀ kv ∈ kvs, kv.1 ≠ k) : putD kvs k d = kvs ++ [(k, d)] := by
  unfold putD
  rw [if_neg]
  intro z
  obtain ⟨kv, h1, h2⟩ := List.any_eq_true.mp z
  exact h kv h1 (of_decide_eq_true h2)
theorem mem_cut {α : Type} {xs : List α} {lo : Option Int} {k : Int} {x : α} (h0 : 0 ≤ k) (h : x ∈ cutL xs lo (some k)) : x ∈ xs.take k.toNat := by
  unfold cutL at h
  have e : k = ((k.toNat : Nat) : Int) := by omega
  rw [e, HT.sIx_nat] at h
  obtain ⟨i, hi, hx⟩ := List.mem_iff_getElem.mp h
  have h2 := hi
  rw [List.length_take, List.length_drop] at h2
  rw [List.getElem_take, List.getElem_drop] at hx
  have h3 : HT.sIx xs.length 0 lo + i < xs.length := by omega
  have h4 : HT.sIx xs.length 0 lo + i < k.toNat := by omega
  refine List.mem_iff_getElem.mpr ⟨HT.sIx xs.length 0 lo + i, by rw [List.length_take]; omega, ?_⟩
  rw [List.getElem_take]
  exact hx
/-- the law's own call -/
theorem start_of {K : PySem.W.Frag} {H : Hp} {a : Addr} {ns : List Int} {SS : VSp} {E : XK} (hS : SqL K H a (ns.map V.int)) (h : SS [.sh (.fls (ns.map D.int))] (fun r _ => r = .sh (.bl true)) fun _ _ _ => False) : spV K SS [.ref a] H (fun v _ => v = .bl true) E := by
  have h0 : HL K H H [] := ⟨.refl _, [], .nil, .nil, fun p hp => by cases hp⟩
  refine ⟨H, [.sh (.fls (ns.map D.int))], [], _, _, rfl, .sh .nil, h0.sh (.fls hS (Reps.of_ints ns)), h, fun v H' Hk' ρs' r _ _ h2 hr => ?_, fun _ _ _ _ _ _ _ _ _ _ z => z.elim⟩
  subst hr
  obtain ⟨v', e, rv⟩ := h2.get_sh
  cases e; cases rv; rfl
end WL

set_option Elab.async false
set_option linter.all false
set_option maxRecDepth 100000
set_option maxHeartbeats 4000000
/-! WR: more primitives: sorted of a dict, min and in over data of any depth, l.index, {k: v}, dict comprehensions, walks over a dict's dict. -/
namespace WL
open PySem PySem.Spec PyProof.Rows L2

section
variable {X : Cx} {Φ : Fr}
/-! ### sorted(dict) -/
def rSortD : List V → Hp → VK → Prop := fun xs H Q => ∃ (a : Addr) (kvs : List (Key × V)) (ks : List Str), xs = [.ref a] ∧ Rd H a (.dK kvs) ∧ kvs.map (·.1) = ks.map Sum.inr ∧ ks.length < 64 ∧
  ∀ ys p, ys.Perm ks → sortedS ys = true → H p = none → Q (.ref p) (upd H p (.lst (ys.map V.str)))
def sortDP : Prim := fun ds R => sortedP ds R ∨ ∃ (kvs : List (Key × D)) (ks : List Str), ds = [.dct kvs] ∧ kvs.map (·.1) = ks.map Sum.inr ∧ ks.length < 64 ∧ ∀ ys : List Str, ys.Perm ks → sortedS ys = true → R (.newL (ys.map D.str))
theorem call_sortDA (hc : X.calm = true) : CallR X (.builtin "sorted") (fun xs H Q => rSortedA X.K xs H Q ∨ rSortD xs H Q) := CallR.or call_sortedA (call_sortedD hc)
theorem ok_sortD : PrimOk X (fun xs H Q => rSortedA X.K xs H Q ∨ rSortD xs H Q) sortDP := by
  intro Hk H vs ds P R ex vv q k
  rcases q with q | ⟨kvs, ks, e, hk, hl, q⟩
  · exact .inl (ok_sorted Hk H vs ds P R ex vv q k)
  · subst e
    obtain ⟨v, rfl, h⟩ := vs1 vv
    obtain ⟨a, us, rfl, hr, r⟩ := h.dct ex
    exact .inr ⟨a, us, ks, rfl, hr, by rw [r.keys]; exact hk, hl, fun ys p h1 h2 h3 => k _ (q ys h1 h2) p _ h3 (Reps.of_strs ys)⟩
/-! ### min of data -/
def rMinD (K : PySem.W.Frag) : List V → Hp → VK → Prop := fun xs H Q => ∃ (a : Addr) (vs : List V) (p : PyData) (ps : List PyData), xs = [.ref a] ∧ SqL K H a vs ∧ DpAll K H vs (p :: ps) ∧ PySem.W.AlikeAll (p :: ps) ∧ PyData.depthAll (p :: ps) ≤ 30 ∧
  ∀ (j : Nat) (v : V), vs[j]? = some v → (p :: ps).getD j .none = PySem.W.minD p ps → Q v H
theorem call_minD (hc : X.calm = true) (hu : X.A.units + 64 < cLine) : CallR X (.builtin "min") (rMinD X.K) := by
  intro pins s σ H vs us Q I r h
  obtain ⟨a, vs', p, ps, rfl, hs, hd, al, dp, q⟩ := h
  obtain ⟨its, rv, hl, _⟩ := I.list hs
  rw [Vals.ref1 r]
  obtain ⟨as, hr⟩ := Dp.readsAll I (p :: ps) vs' its hd rv
  have hl' := hl.isList
  have hr' := hr
  rw [← show its.toArray.toList = its by simp] at hr'
  have hn : its.toArray.size = ps.length + 1 := PySem.W.readsAll_len hr'
  refine call_min_walkH (PySem.W.iter_listW (A := X.A.in1) (I.ok.hd hc) hl' fun s₂ e W st hfp hw hk => ?_)
  refine ⟨_, _, _, _, _, _, _, s.heap, _, rfl, W, st, hfp, by omega, hw, hk, PySem.W.cmpIn_lt (A := X.A.in1) hr' al (by show X.A.units + 1 + _ < _; omega), fun v s' hP m => ?_⟩
  obtain ⟨h', tk, rfl, hk'⟩ := PySem.W.moved_old e rfl m
  have e1 : its.toArray.size - 1 = ps.length := by omega
  have e2 := (PySem.W.argBest_fold PySem.W.dataLt PyData.none p ps ps.length (Nat.le_refl _)).2
  rw [List.take_length] at e2
  rw [e1] at hP
  have hP' : its[argBest (fun i j => PySem.W.dataLt ((p :: ps).getD i .none) ((p :: ps).getD j .none)) ps.length]? = some v := by simpa using hP
  obtain ⟨w, hw', rw'⟩ : ∃ w, vs'[argBest (fun i j => PySem.W.dataLt ((p :: ps).getD i .none) ((p :: ps).getD j .none)) ps.length]? = some w ∧ RelV w v := by
    have hi := (List.getElem?_eq_some_iff.mp hP').1
    have hi2 : argBest (fun i j => PySem.W.dataLt ((p :: ps).getD i .none) ((p :: ps).getD j .none)) ps.length < vs'.length := by rw [rv.length]; exact hi
    obtain ⟨u, hu1, hu2⟩ := rv.get (List.getElem?_eq_getElem hi2)
    rw [hP'] at hu1; cases hu1
    exact ⟨_, List.getElem?_eq_getElem hi2, hu2⟩
  exact ⟨w, H, I.kept hk', rw', q _ w hw' e2⟩
def minDP : Prim := fun ds R => minP ds R ∨ ∃ (d : D) (l : List D) (p : PyData) (ps : List PyData), ds = [d] ∧ seqLD d = some l ∧ toPys l = some (p :: ps) ∧ PySem.W.AlikeAll (p :: ps) ∧ PyData.depthAll (p :: ps) ≤ 30 ∧
  ∀ (j : Nat) (e : D), l[j]? = some e → (p :: ps).getD j .none = PySem.W.minD p ps → R (.val e)
theorem call_minDA (hc : X.calm = true) (hu : X.A.units + 64 < cLine) : CallR X (.builtin "min") (fun xs H Q => rMinA X.K xs H Q ∨ rMinD X.K xs H Q) := CallR.or (call_minA hc) (call_minD hc hu)
theorem Reps.sm {K : PySem.W.Frag} {H H' : Hp} {vs : List V} {ds : List D} (h : Reps K H vs ds) (e : Same H H') : Reps K H' vs ds := h.mono e
theorem ok_minD : PrimOk X (fun xs H Q => rMinA X.K xs H Q ∨ rMinD X.K xs H Q) minDP := by
  intro Hk H vs ds P R ex vv q k
  rcases q with q | ⟨d, l, p, ps, e, hd, hp, al, dp, q⟩
  · exact .inl (ok_min Hk H vs ds P R ex vv q k)
  · subst e
    obtain ⟨v, rfl, h⟩ := vs1 vv
    obtain ⟨a, us, rfl, hr, r⟩ := h.seqL ex (seqLD_eq hd)
    refine .inr ⟨a, us, p, ps, rfl, hr, Reps.dp (r.mono ex) hp, al, dp, fun j v hv hm => ?_⟩
    obtain ⟨e, he, re⟩ := r.get hv
    exact k _ (q j e he hm) v re
/-! ### in of data -/
def rInB (K : PySem.W.Frag) : Bool → R2
  | false => rInD K
  | true => rNotInD K
def inDP (b : Bool) : Prim := fun ds R => inP b ds R ∨ ∃ (x d : D) (l : List D) (px : PyData) (ps : List PyData), ds = [x, d] ∧ seqLD d = some l ∧ toPy x = some px ∧ toPys l = some ps ∧ SeqAt.shaped px = true ∧ SeqAt.shaped (.list ps) = true ∧ R (.val (.bl (ifN b (ps.any fun z => PyData.eqv z px))))
theorem op_inDA (hu : X.A.units + 65 < cLine) : OpR X (compareOp .In) (fun x y H Q => rInA X.K false x y H Q ∨ rInB X.K false x y H Q) := (op_inA (by omega)).or (op_inD hu)
theorem op_notinDA (hu : X.A.units + 65 < cLine) : OpR X (compareOp .NotIn) (fun x y H Q => rInA X.K true x y H Q ∨ rInB X.K true x y H Q) := (op_notinA (by omega)).or (op_notInD hu)
theorem ok_inD {b : Bool} : PrimOk2 X (fun x y H Q => rInA X.K b x y H Q ∨ rInB X.K b x y H Q) (inDP b) := by
  intro Hk H x y dx dy P R ex vx vy q k
  rcases q with q | ⟨x', d, l, px, ps, e, hd, hx, hp, s1, s2, q⟩
  · exact .inl (ok_in Hk H x y dx dy P R ex vx vy q k)
  · cases e
    obtain ⟨a, us, rfl, hr, r⟩ := vy.seqL ex (seqLD_eq hd)
    have d1 := vx.dp ex hx
    have d2 : Dp X.K H (.ref a) (.list ps) := .lst hr (Reps.dp (r.mono ex) hp)
    cases b with
    | false => exact .inr ⟨px, ps, d1, d2, s1, s2, k _ q _ .bl⟩
    | true => exact .inr ⟨px, ps, d1, d2, s1, s2, k _ q _ .bl⟩
/-! ### l.index(x), texts -/
variable {e : Expr} {te : VE}
def vIdx (i : Nat) (te : VE) : VE := fun ρ Q => (∃ s d l, ρ[i]? = some s ∧ slotD s = some d ∧ seqLD d = some l) ∧ te ρ fun s ρ1 => ∃ (x : Str) (ss : List Str) (s1 : Slot) (d1 : D), s = .sh (.str x) ∧ ρ1[i]? = some s1 ∧ slotD s1 = some d1 ∧ seqLD d1 = some (ss.map D.str) ∧ x ∈ ss ∧
  ∀ j : Nat, ss[j]? = some x → (∀ m, m < j → ss[m]? ≠ some x) → Q (.sh (.int j)) ρ1
theorem first_at {x : Str} : ∀ {ss : List Str}, x ∈ ss → ∃ j : Nat, ss[j]? = some x ∧ ∀ m, m < j → ss[m]? ≠ some x
  | [], h => by cases h
  | s :: ss, h => by
    by_cases e : s = x
    · exact ⟨0, by simp [e], fun m hm => by omega⟩
    · have h' : x ∈ ss := (List.mem_cons.mp h).elim (fun z => absurd z.symm e) id
      obtain ⟨j, h1, h2⟩ := first_at h'
      refine ⟨j + 1, by simpa using h1, fun m hm => ?_⟩
      cases m with
      | zero => simp [e]
      | succ m => simpa using h2 m (by omega)
theorem run_idx (i : Nat) (h : PWE X Φ e te) : RunE X.K Φ (tBM X.K "list" (rIndex X.K) (tVar i) (tCons (tSem X e) tNil)) (vIdx i te) := ⟨fun ρ Q Hk T σ H P ⟨⟨s0, d0, l0, e0, hd0, hl0⟩, q⟩ hh p => by
  obtain ⟨v0, ev⟩ := hh.some_at e0 hd0
  obtain ⟨a, us, ea, hr, r⟩ := (hh.slot_view e0 ev hd0).seqL hh.ex (seqLD_eq hl0)
  subst ea
  refine ⟨.ref a, ev, .inl ⟨rfl, us, hr⟩, h.run ρ _ Hk T σ H _ q hh fun v H1 Hk1 ρ1 s e1 h1 k1 ⟨x, ss, s1, d1, hs, e2, hd1, hl1, hx, q1⟩ => ?_⟩
  subst hs
  obtain ⟨v', ev', rv⟩ := h1.top
  cases ev'; cases rv
  obtain ⟨a1, us1, ea1, hr1, r1⟩ := (h1.slot_view e2 ev hd1).seqL h1.ex (seqLD_eq hl1)
  cases ea1
  have eu := r1.strs
  subst eu
  obtain ⟨j, hj, hm⟩ := first_at hx
  refine ⟨a, _, .str x, j, .str x, rfl, rfl, hr1, rfl, ?_, by rw [List.getElem?_map, hj]; rfl, by simp [eqV], fun m z' hm1 hz => ?_, p _ _ Hk1 ρ1 _ e1 (h1.pop.sh .int) k1 (q1 j hj hm)⟩
  · simp [List.all_eq_true, flatV]
  · rw [List.getElem?_map] at hz
    obtain ⟨y, hy, ey⟩ := Option.map_eq_some_iff.mp hz
    subst ey
    have : y ≠ x := fun z => hm m hm1 (by rw [hy, z])
    simp [eqV, this]⟩
/-! ### {k: v} -/
variable {f : Expr} {tk tv : VE} {pos : Pos}
def vDisp1 (tk tv : VE) : VE := fun ρ Q => tk ρ fun sk ρ1 => tv ρ1 fun s ρ2 => ∃ (kd : D) (key : Key) (d : D), sk = .sh kd ∧ keyD kd = some key ∧ slotD s = some d ∧ Q (.ow false (.dct [(key, d)])) ρ2
theorem pwe_disp1 (hk : PWE X Φ e tk) (hv : PWE X Φ f tv) : PWE X Φ (.Dict [some e] [f] pos) (vDisp1 tk tv) := pwe_of (pe_disp (pps_cons pe_sem pe_sem pps_nil) rfl rfl (by simp) (by simp)) ⟨fun ρ Q Hk T σ H P q hh p => by
  intro a ha
  have h0 := hh.own (o := .dct []) (b := false) ha (.dct upd_same .nil)
  refine hk.run ρ _ Hk _ σ _ _ q h0 fun x H1 Hk1 ρ1 sk e1 h1 k1 q1 => ?_
  refine hv.run ρ1 _ Hk1 _ σ H1 _ q1 h1 fun y H2 Hk2 ρ2 s e2 h2 k2 ⟨kd, key, d, hs, hkey, hd, q2⟩ => ?_
  subst hs
  obtain ⟨Hk3, e3, rd, h3⟩ := h2.know_top hd
  obtain ⟨x', ex', rx⟩ := h3.top
  cases ex'
  have ek := rx.key hkey
  subst ek
  obtain ⟨p', vs', ep, hp, rp, mu⟩ := HL.dct h3.pop.front
  cases ep
  cases rp
  refine ⟨hp, [(key, y)], rfl, by simp, ?_⟩
  exact p (.ref a) _ Hk3 ρ2 _ (e1.trans (e2.trans e3)) (.back h3.len (mu [(key, y)] [(key, d)] (.cons rd .nil)) h3.ex0 h3.kp0) (k1.trans k2) q2⟩
end
end WL

set_option Elab.async false
set_option linter.all false
set_option maxRecDepth 100000
set_option maxHeartbeats 4000000
/-! WS: dict comprehensions, walks over a dict's dict and over an own list that stays one's own. -/
namespace WL
open PySem PySem.Spec PyProof.Rows L2

/-! ### {k: v for .. in ..} -/
def vDc (it : VI) (g : VG) (tt : VT) (tk tv : VE) (vs : List Nat) : VE := fun ρ Q => it ρ fun ds ρ1 => (∀ v ∈ vs, ∃ s, ρ1[v]? = some s ∧ s.free = true) ∧ ∃ I : Nat → List (Key × D) → Rho → Prop, I 0 [] (wipeR ρ1 vs) ∧
  (∀ j acc d ρ', ds[j]? = some d → I j acc ρ' → g d ρ' fun ρ2 => tt ρ2 fun b ρ3 =>
    (b = true → tk ρ3 fun sk ρ4 => tv ρ4 fun s ρ5 => ∃ kd key dy, sk = .sh kd ∧ keyD kd = some key ∧ slotD s = some dy ∧ acc.length < sizeLine ∧ I (j + 1) (putD acc key dy) (wipeR ρ5 vs)) ∧ (b = false → I (j + 1) acc (wipeR ρ3 vs))) ∧
  ∀ acc ρ', I ds.length acc ρ' → Q (.ow false (.dct acc)) ρ'
/-- the loop, its iterator made -/
theorem dc_core1 {X : Cx} {Φ : Fr} {J : It} {ds : List D} {T T' : List Cell} {Hk1 H1 : _} {σ : L2.St} {ρ1 : Rho} {Q : VK0} {P : VK} {g' : TG} {is : List Nat} {g : VG} {tt' : TT} {tt : VT} {tk' tv' : TE} {tk tv : VE} {vs : List Nat} (hg : RunG X.K Φ g' is g) (ht : RunT X.K Φ tt' tt) (hk : RunE X.K Φ tk' tk) (hv : RunE X.K Φ tv' tv) (his : ∀ j ∈ is, j ∈ vs)
    (iok : ItOk X.K Hk1 T' J ds) (h1 : Holds X.K Φ Hk1 ρ1 (T' ++ T) σ H1) (p : Post X.K Φ Hk1 T σ ρ1 Q P) (fr : ∀ v ∈ vs, ∃ s, ρ1[v]? = some s ∧ s.free = true) (I : Nat → List (Key × D) → Rho → Prop) (i0 : I 0 [] (wipeR ρ1 vs))
    (turn : ∀ j acc d ρ', ds[j]? = some d → I j acc ρ' → g d ρ' fun ρ2 => tt ρ2 fun b ρ3 =>
      (b = true → tk ρ3 fun sk ρ4 => tv ρ4 fun s ρ5 => ∃ kd key dy, sk = .sh kd ∧ keyD kd = some key ∧ slotD s = some dy ∧ acc.length < sizeLine ∧ I (j + 1) (putD acc key dy) (wipeR ρ5 vs)) ∧ (b = false → I (j + 1) acc (wipeR ρ3 vs)))
    (fin : ∀ acc ρ', I ds.length acc ρ' → Q (.ow false (.dct acc)) ρ') :
    ∀ D, H1 D = none → ∃ W : Nat → Nat → Hp → Prop, (∃ m, W 0 m (upd H1 D (.dK []))) ∧ ∀ i m H, W i m H →
      (J.stop i H ∧ P (.ref D) H) ∨ (J.go i H ∧ ∃ Nx : Hp → Prop, (∀ H', Nx H' → ∃ m', m' < m ∧ W (i + 1) m' H') ∧ ∀ x H', J.yld i H x H' → g' x (L2.wipe σ vs) H' fun σ2 H2 => L2.wipe σ2 vs = L2.wipe σ vs ∧ tt' σ2 H2 fun b H3 =>
        if b = true then tk' σ2 H3 fun y H4 => tv' σ2 H4 fun z H5 => ∃ kvs k, y = kV k ∧ H5 D = some (.dK kvs) ∧ kvs.length < sizeLine ∧ Nx (upd H5 D (.dK (putK kvs k z))) else Nx H3) := by
    intro Dl hD
    have off : Off Φ vs := Off.of h1 fr
    have lent : ∀ i o, ρ1[i]? = some (Slot.ow true o) → i ∉ vs := fun i o e z => by
      obtain ⟨s, es, hf⟩ := fr i z
      rw [e] at es; cases es; cases hf
    refine ⟨fun i m H' => m = ds.length - i ∧ i ≤ ds.length ∧ ∃ Hk' ρ' acc, Same Hk1 Hk' ∧ Holds X.K Φ Hk' (wipeR ρ' vs) ((some (.ref Dl), Slot.ow false (Own.dct acc)) :: (T' ++ T)) (L2.wipe σ vs) H' ∧ (∀ j o, ρ1[j]? = some (Slot.ow true o) → ∃ o', (wipeR ρ' vs)[j]? = some (Slot.ow true o')) ∧ I i acc (wipeR ρ' vs),
      ⟨_, rfl, Nat.zero_le _, Hk1, ρ1, [], .refl _, ?_, fun j o e => ⟨o, by rw [wipeR_out (lent j o e)]; exact e⟩, i0⟩, ?_⟩
    · exact Holds.wipe (h1.own hD (.dct upd_same .nil)) off
    · rintro i m H2 ⟨rfl, hle, Hk2, ρ2, acc, e2, h2, k2, i2⟩
      have hL : HL X.K Hk2 H2 (T' ++ (T ++ (Φ.T0 ++ (L2.wipe σ vs).zip (wipeR ρ2 vs)))) := by rw [← List.append_assoc]; exact h2.pop.front
      by_cases hlt : i < ds.length
      · obtain ⟨hgo, hy⟩ := iok.go i Hk2 H2 _ e2 hL hlt
        refine .inr ⟨hgo, fun H' => ∃ Hk' ρ' acc, Same Hk1 Hk' ∧ Holds X.K Φ Hk' (wipeR ρ' vs) ((some (.ref Dl), Slot.ow false (Own.dct acc)) :: (T' ++ T)) (L2.wipe σ vs) H' ∧ (∀ j o, ρ1[j]? = some (Slot.ow true o) → ∃ o', (wipeR ρ' vs)[j]? = some (Slot.ow true o')) ∧ I (i + 1) acc (wipeR ρ' vs),
          fun H' hN => ⟨ds.length - (i + 1), by omega, rfl, hlt, hN⟩, fun x H3 hyl => ?_⟩
        obtain ⟨Hk3, d, hd, e3, r3, mv⟩ := hy x H3 hyl
        refine hg.run d _ _ Hk3 _ (L2.wipe σ vs) H3 x _ (turn i acc d _ hd i2) r3 ⟨h2.len, mv _ h2.hl, h2.ex0.trans e3, h2.kp0⟩ fun σ4 H4 Hk4 ρ4 e4 h4 k4 s4 q4 => ?_
        have ws : L2.wipe σ4 vs = L2.wipe σ vs := wipe_eq (fun j hj => s4.1 j fun z => hj (his j z)) (s4.2.trans (wipe_length σ vs))
        have hσ : ∀ j o, ρ1[j]? = some (Slot.ow true o) → ∃ v, (L2.wipe σ vs)[j]? = some v ∧ σ4[j]? = some v ∧ ∃ o', ρ4[j]? = some (Slot.ow true o') := fun j o e => by
          obtain ⟨o', eo⟩ := k2 j o e
          have hj : j < (L2.wipe σ vs).length := by rw [← h2.len]; exact (List.getElem?_eq_some_iff.mp eo).1
          obtain ⟨e5, o5, eo5⟩ := k4 j o' _ eo (List.getElem?_eq_getElem hj)
          exact ⟨_, List.getElem?_eq_getElem hj, e5, o5, eo5⟩
        refine ⟨ws, ht.run ρ4 _ Hk4 _ σ4 H4 _ q4 h4 fun b H5 Hk5 ρ5 e5 h5 k5 q5 => ?_⟩
        cases b with
        | false =>
          rw [if_neg Bool.false_ne_true]
          refine ⟨Hk5, ρ5, acc, e2.trans (e3.trans (e4.trans e5)), by have := Holds.wipe (vs := vs) h5 off; rw [ws] at this; exact this, fun j o e => ?_, q5.2 rfl⟩
          obtain ⟨v, _, e6, o6, eo6⟩ := hσ j o e
          obtain ⟨_, o7, eo7⟩ := k5 j o6 v eo6 e6
          exact ⟨o7, by rw [wipeR_out (lent j o e)]; exact eo7⟩
        | true =>
          rw [if_pos rfl]
          refine hk.run ρ5 _ Hk5 _ σ4 H5 _ (q5.1 rfl) h5 fun y H6 Hk6 ρ6 sk e6 h6 k6 q6 => hv.run ρ6 _ Hk6 _ σ4 H6 _ q6 h6 fun z H7 Hk7 ρ7 s e7 h7 k7 ⟨kd, key, dy, hsk, hkey, hs, hz, q7⟩ => ?_
          subst hsk
          obtain ⟨Hk8, e8, r8, h8⟩ := h7.know_top hs
          obtain ⟨y', ey, ry⟩ := h8.top
          cases ey
          have ek := ry.key hkey
          subst ek
          obtain ⟨p', vs', ep, hp, rp, mu⟩ := HL.dct h8.pop.front
          cases ep
          refine ⟨vs', key, rfl, hp, by rw [rp.length]; exact hz, Hk8, ρ7, putD acc key dy, e2.trans (e3.trans (e4.trans (e5.trans (e6.trans (e7.trans e8))))), ?_, fun j o e => ?_, q7⟩
          · have := Holds.wipe (vs := vs) (Holds.back (T := (some (.ref Dl), Slot.ow false (Own.dct (putD acc key dy))) :: (T' ++ T)) h8.len (mu _ _ (rp.put r8)) h8.ex0 h8.kp0) off; rw [ws] at this; exact this
          · obtain ⟨v, _, e6', o6, eo6⟩ := hσ j o e
            obtain ⟨_, o7, eo7⟩ := k5 j o6 v eo6 e6'
            obtain ⟨_, o8, eo8⟩ := k6 j o7 v eo7 e6'
            obtain ⟨_, o9, eo9⟩ := k7 j o8 v eo8 e6'
            exact ⟨o9, by rw [wipeR_out (lent j o e)]; exact eo9⟩
      · have hie : i = ds.length := by omega
        subst hie
        refine .inl ⟨iok.stop _ Hk2 H2 _ e2 hL (Nat.le_refl _), ?_⟩
        refine p (.ref Dl) H2 Hk2 (wipeR ρ2 vs) (.ow false (.dct acc)) (e2) h2.dropMid.unwipe (fun j o v e ev => ⟨ev, k2 j o e⟩) (fin acc _ i2)
section
variable {X : Cx} {Φ : Fr} {scope : Scope} {kx vx tg iter c : Expr} {own : List (Str × Nat)} {pos : Pos} {it : VI} {is : List Nat} {g : VG} {tk tv : VE} {tt : VT}
theorem pe_dc0 {ti : TI} (hc : X.calm = true) (hN : X.N.Nodup) (hi : PI X tg iter ti) (ok : BlkOk X.N X.env.scope scope own) (hs : ∀ x, foldedSetIterable iter X.env x = pure x := by intro _; rfl) :
    PE X (.DictComp kx vx [⟨tg, iter, [], 0⟩] scope pos) (tDc ti (gU X scope tg) tYes (eU X scope kx) (eU X scope vx) (own.map (·.2))) :=
  pe_dc hc hN hi ok (fun _ _ _ _ _ => pg_U) (fun _ _ _ _ _ => pts_nil) (fun _ _ _ _ _ => pe_U) (fun _ _ _ _ _ => pe_U) hs
theorem run_dc0 (hi : PWI X Φ tg iter it) (hg : ∀ s0 H0 C cl fp, PWG (X.blk s0 H0 scope (compEnvC scope cl C X.env) fp) Φ tg is g) (hk : ∀ s0 H0 C cl fp, PWE (X.blk s0 H0 scope (compEnvC scope cl C X.env) fp) Φ kx tk) (hv : ∀ s0 H0 C cl fp, PWE (X.blk s0 H0 scope (compEnvC scope cl C X.env) fp) Φ vx tv) (his : ∀ j ∈ is, j ∈ own.map (·.2) := by decide) :
    RunE X.K Φ (tDc (tSemI X tg iter) (gU X scope tg) tYes (eU X scope kx) (eU X scope vx) (own.map (·.2))) (vDc it g vYes tk tv (own.map (·.2))) := ⟨fun ρ Q Hk T σ H P q hh p =>
  hi.run ρ _ Hk T σ H _ q hh fun J H1 Hk1 ρ1 ds T' e1 h1 k1 iok ⟨fr, I, i0, turn, fin⟩ => dc_core1 (rung_U hg) runt_yes (rune_U hk) (rune_U hv) his iok h1 (p.step e1 k1) fr I i0 turn fin⟩
theorem ps_setDc0 {i : Nat} {y : Str} {py spos : Pos} {ti : TI} (hc : X.calm = true) (hN : X.N.Nodup) (hy : X.N[i]? = some y) (hyl : X.env.scope.names.lookup y = some .local)
    (hsw : swapsWith (.DictComp kx vx [⟨tg, iter, [], 0⟩] scope pos) (some (.Name y py)) spos.line X.env = pure true) (hi : PI X tg iter ti) (ok : BlkOk X.N X.env.scope scope own) (hs : ∀ x, foldedSetIterable iter X.env x = pure x := by intro _; rfl) :
    PS X (.Assign [.Name y py] (.DictComp kx vx [⟨tg, iter, [], 0⟩] scope pos) spos) (tAsg (tDc ti (gU X scope tg) tYes (eU X scope kx) (eU X scope vx) (own.map (·.2))) (gName i)) := by
  refine ⟨fun pins s σ H D I h => ?_⟩
  rw [exec_Assign_Name_used _ _ _ _ hsw]
  refine wpAny_bind (wpAny_standAt (wpAny_bind ?_))
  show wpAny _ X.A (do let _ ← comprehension (.DictComp kx vx [⟨tg, iter, [], 0⟩] scope pos) scope X.env (firstIterPos [⟨tg, iter, [], 0⟩] pos) newDict false (eval iter X.env) (some (assign (.Name y py) X.env))) _ _ s
  have h : tDc ti (gU X scope tg) tYes (eU X scope kx) (eU X scope vx) (own.map (·.2)) σ H (fun x H1 => gName i x σ H1 D.nx) := h
  refine wpAny_bind (thn (dc_core (Qf := fun _ s' => SP X pins D .next s') hc hN I hi ok (fun _ _ _ _ _ => pg_U) (fun _ _ _ _ _ => pts_nil) (fun _ _ _ _ _ => pe_U) (fun _ _ _ _ _ => pe_U) hs h fun L C s' m H' I' q hn f => ?_) fun _ s' hq => wpAny_pure (wpAny_pure hq))
  show wpAny _ _ (assign (.Name y py) X.env (.ref L)) _ _ _
  refine wpAny_assign_Name (store_ok2 (v := V.ref L) I' hN hy (.inl hyl) rfl (fun s2 I2 ⟨a, sb, ha⟩ => ?_) (.inr hyl))
  obtain ⟨f0, f1, f2, f3, f4, f5⟩ := f
  have haC : C ≠ a := by
    rcases ha with z | z
    · rw [z]; exact f1
    · exact fun e => f4 y a z e.symm
  refine ⟨m, hn.sameBut sb haC, fun h3 sb3 => ?_⟩
  exact ⟨_, H', I2.turned (t' := s2.toks) (fun b o hb e => (sb3.2 b hb).trans e) f0 f1 f3 f4 f5, q⟩
/-- the name takes the new dict at once -/
theorem sw_trueD {kx vx : Expr} {gs : List Comprehension} {scope : Scope} {pos py : Pos} {y : Str} {l : Nat} {env : Env} (hk : env.scope.kind = .function) (hy : env.scope.names.lookup y = some .local) (hl : (py.line == pos.line) = true)
    (ha : (scope.names.any fun (n, k) => n == y && (k == .local || k == .cell)) = false) : swapsWith (.DictComp kx vx gs scope pos) (some (.Name y py)) l env = pure true := by
  have ky : env.kindOf y = some .local := hy
  have hb : env.blockKind = .function := by unfold Env.blockKind; rw [hk]; rfl
  unfold swapsWith
  simp only [hb, ky, ha, Expr.pos, hl]
  rfl
/-- .. over the keys of a dict in slot i -/
def vDcK (i : Nat) (g : VG) (tt : VT) (tk tv : VE) (vs : List Nat) : VE := fun ρ Q => ∃ kvs, ρ[i]? = some (.sh (.dct kvs)) ∧ (∀ v ∈ vs, ∃ s, ρ[v]? = some s ∧ s.free = true) ∧ ∃ I : Nat → List (Key × D) → Rho → Prop, I 0 [] (wipeR ρ vs) ∧
  (∀ j acc d ρ', (kvs.map fun kv => dK kv.1)[j]? = some d → I j acc ρ' → g d ρ' fun ρ2 => tt ρ2 fun b ρ3 =>
    (b = true → tk ρ3 fun sk ρ4 => tv ρ4 fun s ρ5 => ∃ kd key dy, sk = .sh kd ∧ keyD kd = some key ∧ slotD s = some dy ∧ acc.length < sizeLine ∧ I (j + 1) (putD acc key dy) (wipeR ρ5 vs)) ∧ (b = false → I (j + 1) acc (wipeR ρ3 vs))) ∧
  ∀ acc ρ', I (kvs.map fun kv => dK kv.1).length acc ρ' → Q (.ow false (.dct acc)) ρ'
theorem pwe_dcK {e : Expr} {g' : TG} {tt' : TT} {tk' tv' : TE} {vs : List Nat} (i : Nat) (hp : PE X e (tDc (iKeys (tVar i)) g' tt' tk' tv' vs)) (hg : RunG X.K Φ.mute g' is g) (ht : RunT X.K Φ.mute tt' tt) (hk : RunE X.K Φ.mute tk' tk) (hv : RunE X.K Φ.mute tv' tv) (his : ∀ j ∈ is, j ∈ vs) :
    PWE X Φ e (vDcK i g tt tk tv vs) := ⟨fun ρ Q Hk T σ H P ⟨kds, e0, fr, I, i0, turn, fin⟩ hh p => by
  obtain ⟨v, ev, rv⟩ := hh.get_sh e0
  cases rv with
  | dct hr rr =>
    rename_i a kvs
    rcases hr with hr | ⟨od, hr⟩
    · refine tSem_of (pe_lock hp) ⟨a, .dK kvs, hh.ex _ _ hr, trivial, fun od => ?_⟩
      have h1 := hh.mute.lock hr od
      have hl : upd Hk a (.frz od (.dK kvs)) a = some (.frz od (.dK kvs)) := upd_same
      have s1 : Sw a kvs Hk (upd Hk a (.frz od (.dK kvs))) := .upd (.inl hr) (.inr ⟨od, rfl⟩)
      refine ⟨.ref a, ev, a, od, rfl, .inl ⟨kvs, upd_same, dc_core1 (T' := []) (P := fun v H' => H' a = some (.frz od (.dK kvs)) ∧ P v (upd H' a (.dK kvs))) hg ht hk hv his (itok_keys hl (rr.sw s1)) h1 ?_ fr I i0 turn fin⟩⟩
      exact fun v H' Hk' ρ' r e h k q => ⟨h.ex _ _ (e _ _ hl), p v _ _ ρ' r (same_unlock hr e) (hh.unmute (h.unlock (e _ _ hl)) (same_unlock hr e) k) k q⟩
    · exact tSem_of hp ⟨.ref a, ev, a, od, rfl, .inl ⟨kvs, hh.ex _ _ hr, dc_core1 (T' := []) hg ht hk hv his (itok_keys hr rr) hh.mute (p.mute hh) fr I i0 turn fin⟩⟩⟩
/-! ### [.. for k in d[x] ..], d and x names -/
variable {te : VE}
def vLcKix (i n : Nat) (g : VG) (tt : VT) (te : VE) (vs : List Nat) : VE := fun ρ Q => ∃ s0 kds kd key kvs, ρ[i]? = some s0 ∧ slotD s0 = some (.dct kds) ∧ ρ[n]? = some (.sh kd) ∧ keyD kd = some key ∧ lookK kds key = some (.dct kvs) ∧ (∀ v ∈ vs, ∃ s, ρ[v]? = some s ∧ s.free = true) ∧ ∃ I : Nat → List D → Rho → Prop, I 0 [] (wipeR ρ vs) ∧
  (∀ j acc d ρ', (kvs.map fun kv => dK kv.1)[j]? = some d → I j acc ρ' → g d ρ' fun ρ2 => tt ρ2 fun b ρ3 =>
    (b = true → te ρ3 fun s ρ4 => ∃ dy, slotD s = some dy ∧ acc.length < sizeLine ∧ I (j + 1) (acc ++ [dy]) (wipeR ρ4 vs)) ∧ (b = false → I (j + 1) acc (wipeR ρ3 vs))) ∧
  ∀ acc ρ', I (kvs.map fun kv => dK kv.1).length acc ρ' → Q (.ow false (.lst acc)) ρ'
theorem keyD_not_lst {kd : D} {key : Key} (h : keyD kd = some key) : (∃ i, kd = .int i) ∨ ∃ x, kd = .str x := by
  cases kd <;> first | exact .inl ⟨_, rfl⟩ | exact .inr ⟨_, rfl⟩ | cases h
theorem ixP_dct {kds : List (Key × D)} {kd d : D} {key : Key} {R : Ret → Prop} (h : keyD kd = some key) (hl : lookK kds key = some d) (q : R (.val d)) : ixP [.dct kds, kd] R := by
  rcases keyD_not_lst h with ⟨i, rfl⟩ | ⟨x, rfl⟩
  · exact ⟨key, d, h, hl, q⟩
  · exact ⟨key, d, h, hl, q⟩
theorem pwe_lcKix {e : Expr} {g' : TG} {tt' : TT} {te' : TE} {vs : List Nat} (i n : Nat) (hp : PE X e (tLc (iKeys (tOp (rIxA X.K) (tVar i) (tVar n))) g' tt' te' vs)) (hg : RunG X.K Φ.mute g' is g) (ht : RunT X.K Φ.mute tt' tt) (he : RunE X.K Φ.mute te' te) (his : ∀ j ∈ is, j ∈ vs) :
    PWE X Φ e (vLcKix i n g tt te vs) := ⟨fun ρ Q Hk T σ H P ⟨s0, kds, kd, key, kvs, e0, hs0, e1, hkey, hlk, fr, I, i0, turn, fin⟩ hh p => by
  obtain ⟨v0, ev0⟩ := hh.some_at e0 hs0
  obtain ⟨v1, ev1, rv1⟩ := hh.get_sh e1
  obtain ⟨b, us, eb, hr0, r0⟩ := (hh.slot_view e0 ev0 hs0).dct hh.ex
  subst eb
  -- the value read is this very one
  have look0 : ∃ a kvs' , valV us key = some (.ref a) ∧ Rd Hk a (.dK kvs') ∧ RepK X.K Hk kvs' kvs := by
    rcases r0.look (k := key) with ⟨_, l2⟩ | ⟨w, d, l1, l2, rw'⟩
    · rw [hlk] at l2; cases l2
    · rw [hlk] at l2; cases l2
      cases rw' with
      | dct h r => exact ⟨_, _, l1, h, r⟩
  obtain ⟨a, kvs', hva, hr, rr⟩ := look0
  have ek := rv1.key hkey
  subst ek
  have ixd : ∀ H2 : Hp, Rd H2 b (.dK us) → ∀ Q' : VK, Q' (.ref a) H2 → rIxA X.K (.ref b) (kV key) H2 Q' := fun H2 hb Q' q' => .inr (.inr (.inr ⟨b, .ref a, rfl, .inl ⟨us, key, hb, rfl, hva.symm⟩, q'⟩))
  rcases hr with hr | ⟨od, hr⟩
  · refine tSem_of (pe_lock hp) ⟨a, .dK kvs', hh.ex _ _ hr, trivial, fun od => ?_⟩
    have h1 := hh.mute.lock hr od
    have hl : upd Hk a (.frz od (.dK kvs')) a = some (.frz od (.dK kvs')) := upd_same
    have s1 : Sw a kvs' Hk (upd Hk a (.frz od (.dK kvs'))) := .upd (.inl hr) (.inr ⟨od, rfl⟩)
    have s2 : Sw a kvs' H (upd H a (.frz od (.dK kvs'))) := .upd (.inl (hh.ex _ _ hr)) (.inr ⟨od, rfl⟩)
    refine ⟨.ref b, ev0, kV key, ev1, ixd _ (s2.rd (fun _ _ z => by cases z) hr0) _ ?_⟩
    refine ⟨a, od, rfl, .inl ⟨kvs', upd_same, lc_core1 (T' := []) (P := fun v H' => H' a = some (.frz od (.dK kvs')) ∧ P v (upd H' a (.dK kvs'))) hg ht he his (itok_keys hl (rr.sw s1)) h1 ?_ fr I i0 turn fin⟩⟩
    exact fun v H' Hk' ρ' r e h k q => ⟨h.ex _ _ (e _ _ hl), p v _ _ ρ' r (same_unlock hr e) (hh.unmute (h.unlock (e _ _ hl)) (same_unlock hr e) k) k q⟩
  · exact tSem_of hp ⟨.ref b, ev0, kV key, ev1, ixd _ hr0 _ ⟨a, od, rfl, .inl ⟨kvs', hh.ex _ _ hr, lc_core1 (T' := []) hg ht he his (itok_keys hr rr) hh.mute (p.mute hh) fr I i0 turn fin⟩⟩⟩⟩
/-! ### what is owned becomes known, ahead of a statement -/
variable {st : Stmt} {t : VS}
def vKnow (i : Nat) (t : VS) : VS := fun R ρ => (∃ d, ρ[i]? = some (.sh d) ∧ t R ρ) ∨ ∃ o, ρ[i]? = some (.ow false o) ∧ t R (ρ.set i (.sh o.d))
theorem pws_know (i : Nat) (h : PWS X Φ st t) : PWS X Φ st (vKnow i t) := ⟨fun ρ R Hk T σ H D q hh o => by
  rcases q with ⟨d, e, q⟩ | ⟨o1, e, q⟩
  · exact h.run ρ R Hk T σ H D q hh o
  · obtain ⟨v, R1, ev, h1, back⟩ := hh.at' e
    obtain ⟨Hk', v', rfl, e1, r, h2⟩ := h1.share
    have kp : Kp σ ρ σ (ρ.set i (.sh o1.d)) := kp_set e fun _ z => by cases z
    exact h.run _ R Hk' T σ H D q (back Hk' H _ h2 e1 kp) (o.step e1 kp)⟩
/-! ### for x in xs, xs an own list that stays one's own -/
variable {body : List Stmt} {tb : VS}
def vForO (i : Nat) (g : VG) (tb : VS) : VS := fun R ρ => ∃ ds, ρ[i]? = some (.ow false (.lst ds)) ∧ ∃ I : Nat → Rho → Prop, I 0 (ρ.set i (.ow true (.lst ds))) ∧
  (∀ j d ρ', ds[j]? = some d → I j ρ' → ρ'[i]? = some (.ow true (.lst ds)) ∧ g d ρ' fun ρ2 => tb { nx := I (j + 1), ct := I (j + 1), bk := fun _ => False, rt := R.rt } ρ2) ∧
  ∀ ρ', I ds.length ρ' → ρ'[i]? = some (.ow true (.lst ds)) ∧ R.nx (ρ'.set i (.ow false (.lst ds)))
theorem pws_forO (i : Nat) (hp : PS X st (tFor (iList X.K (tVar i)) (tSemG X tg) (tSemSs X body))) (hg : PWG X Φ tg is g) (hb : PWSs X Φ body tb) : PWS X Φ st (vForO i g tb) := ⟨fun ρ R Hk T σ H D ⟨ds, e0, I, i0, turn, fin⟩ hh o => tSemS_of hp (by
  obtain ⟨v, R1, ev, h1, back⟩ := hh.at' e0
  obtain ⟨a, vs0, ea, hp0, r0, _⟩ := h1.lst
  subst ea
  have kpL : Kp σ ρ σ (ρ.set i (.ow true (.lst ds))) := kp_set e0 fun _ z => by cases z
  have hL := back Hk H (.ow true (.lst ds)) h1.relab (.refl _) kpL
  have hi : i < ρ.length := (List.getElem?_eq_some_iff.mp e0).1
  refine ⟨.ref a, ev, a, rfl, ⟨vs0, .of hp0⟩, fun j m σ' H' => m = ds.length - j ∧ j ≤ ds.length ∧ ∃ Hk' ρ', Same Hk Hk' ∧ Holds X.K Φ Hk' ρ' T σ' H' ∧ Kp σ (ρ.set i (.ow true (.lst ds))) σ' ρ' ∧ I j ρ', ⟨_, rfl, Nat.zero_le _, Hk, _, .refl _, hL, .refl _ _, i0⟩, ?_⟩
  rintro j m σ2 H2 ⟨rfl, hle, Hk2, ρ2, e2, h2, k2, i2⟩
  have kpO : ∀ {σ' : L2.St} {ρ' : Rho}, Kp σ (ρ.set i (.ow true (.lst ds))) σ' ρ' → Kp σ ρ σ' ρ' := fun k => kpL.trans k
  have ea2 : σ2[i]? = some (some (.ref a)) := (k2 i _ _ (by rw [List.getElem?_set_self hi]) ev).1
  by_cases hlt : j < ds.length
  · obtain ⟨es, q⟩ := turn j ds[j] ρ2 (List.getElem?_eq_getElem hlt) i2
    obtain ⟨p2, vs2, ep2, hp2, r2, _⟩ := h2.mutL es
    rw [ea2] at ep2; cases ep2
    have hl : j < vs2.length := by rw [r2.length]; exact hlt
    refine .inr ⟨⟨vs2, vs2[j], .of hp2, List.getElem?_eq_getElem hl⟩, fun σ' H' => ∃ Hk' ρ', Same Hk Hk' ∧ Holds X.K Φ Hk' ρ' T σ' H' ∧ Kp σ (ρ.set i (.ow true (.lst ds))) σ' ρ' ∧ I (j + 1) ρ', fun σ' H' hN => ⟨ds.length - (j + 1), by omega, rfl, hlt, hN⟩, fun x H3 ⟨eH, y⟩ => ?_⟩
    subst eH
    obtain ⟨d, hd, rd⟩ := r2.get (y vs2 (.of hp2))
    have ed : d = ds[j] := by rw [List.getElem?_eq_getElem hlt] at hd; exact (Option.some.inj hd).symm
    subst ed
    refine hg.run.run _ ρ2 _ Hk2 T σ2 H3 x _ q rd h2 fun σ4 H4 Hk4 ρ4 e4 h4 k4 _ q4 => ?_
    refine hb.run ρ4 _ Hk4 T σ4 H4 _ q4 h4 ⟨fun σ5 H5 Hk5 ρ5 e5 h5 k5 q5 => ?_, fun v σ5 H5 Hk5 ρ5 r e5 h5 k5 q5 => ?_, fun σ5 H5 Hk5 ρ5 e5 h5 k5 q5 => q5.elim, fun σ5 H5 Hk5 ρ5 e5 h5 k5 q5 => ?_⟩
    · exact ⟨Hk5, ρ5, e2.trans (e4.trans e5), h5, k2.trans (k4.trans k5), q5⟩
    · exact o.rt v σ5 H5 Hk5 ρ5 r (e2.trans (e4.trans e5)) h5 (kpO (k2.trans (k4.trans k5))) q5
    · exact ⟨Hk5, ρ5, e2.trans (e4.trans e5), h5, k2.trans (k4.trans k5), q5⟩
  · have he : j = ds.length := by omega
    subst he
    obtain ⟨es, q⟩ := fin ρ2 i2
    obtain ⟨p2, vs2, ep2, hp2, r2, _⟩ := h2.mutL es
    rw [ea2] at ep2; cases ep2
    refine .inl ⟨⟨vs2, .of hp2, by rw [r2.length]; exact Nat.le_refl _⟩, ?_⟩
    obtain ⟨v2, R2, ev2, h3, _⟩ := h2.at es
    obtain ⟨R3, z1, z2⟩ := zip_at ev2 es
    have h4 : HL X.K Hk2 H2 ((v2, .ow true (.lst ds)) :: (R3 ++ (T ++ Φ.T0))) := h2.hl.perm (z1.append_right _)
    have z3 := z2 v2 (.ow false (.lst ds))
    rw [set_self ev2] at z3
    have h5 : HL X.K Hk2 H2 (σ2.zip (ρ2.set i (.ow false (.lst ds))) ++ (T ++ Φ.T0)) := h4.relab.perm (z3.append_right _).symm
    have h6 : Holds X.K Φ Hk2 (ρ2.set i (.ow false (.lst ds))) T σ2 H2 := ⟨by simp [h2.len], h5, h2.ex0, fun j o v a1 a2 => by
      obtain ⟨b1, o', b2⟩ := hh.kp0 j o v a1 a2
      have hji : i ≠ j := fun z => by subst z; rw [e0] at b2; cases b2
      obtain ⟨c1, o2, c2⟩ := h2.kp0 j o v a1 a2
      exact ⟨c1, o2, by rw [List.getElem?_set_ne hji]; exact c2⟩⟩
    refine o.nx σ2 H2 Hk2 _ e2 h6 (fun j o v a1 a2 => ?_) q
    have hji : i ≠ j := fun z => by subst z; rw [e0] at a1; cases a1
    obtain ⟨c1, o2, c2⟩ := k2 j o v (by rw [List.getElem?_set_ne hji]; exact a1) a2
    exact ⟨c1, o2, by rw [List.getElem?_set_ne hji]; exact c2⟩)⟩
end
end WL

set_option Elab.async false
set_option linter.all false
set_option maxRecDepth 100000
set_option maxHeartbeats 4000000
/-! WT: lists and dicts of own lists: made, shared, lent as a whole, their rows changed. -/
namespace WL
open PySem PySem.Spec PyProof.Rows L2

/-- the data of such a thing -/
def rwD : Option (List Key) → List (List D) → D
  | none, rows => .lst (rows.map D.lst)
  | some ks, rows => .dct (ks.zip (rows.map D.lst))
section
variable {K : PySem.W.Frag} {Hk Hk' H H' : Hp} {L : List Cell} {x : Option V} {k : Option (List Key)} {rows : List (List D)}
/-- such a cell opened -/
structure Opn (K : PySem.W.Frag) (Hk H : Hp) (L : List Cell) (x : Option V) (k : Option (List Key)) (rows : List (List D)) (p : Addr) (qs : List Addr) (F : List Addr) : Prop where
  ev : x = some (.ref p)
  at' : H p = some (outer k qs)
  ok : kOk k qs
  rs : Rows K Hk H qs rows
  fr : Cells K Hk H L F
  nd : (p :: (qs ++ F)).Nodup
  no : ∀ q ∈ p :: (qs ++ F), Hk q = none
  ex : Same Hk H
theorem HL.opn (h : HL K Hk H ((x, .rw k rows) :: L)) : ∃ p qs F, Opn K Hk H L x k rows p qs F := by
  obtain ⟨F, hc, hn, hk⟩ := h.cells
  cases hc with
  | cons h1 t =>
    have h1' : CellOk K Hk H x (.rw k rows) _ := h1
    cases h1' with
    | rw ha hok r => exact ⟨_, _, _, rfl, ha, hok, r, t, hn, hk, h.ex⟩
theorem Opn.cls {p : Addr} {qs F : List Addr} (o : Opn K Hk H L x k rows p qs F) : HL K Hk H ((x, .rw k rows) :: L) := by
  obtain ⟨rfl, ha, hok, r, t, hn, hk, ex⟩ := o
  exact ⟨ex, _, .cons (.rw ha hok r) t, hn, hk⟩
/-- with none as yet -/
theorem HL.rw0 {b : Bool} (h : HL K Hk H ((x, .ow b (.lst [])) :: L)) : HL K Hk H ((x, .rw none []) :: L) := by
  obtain ⟨F, hc, hn, hk⟩ := h.cells
  cases hc with
  | cons h1 t =>
    cases h1 with
    | ow r =>
      cases r with
      | lst ha r =>
        cases r
        exact ⟨h.ex, _, .cons (.rw (qs := []) ha trivial .nil) t, hn, hk⟩
theorem HL.rwd0 {b : Bool} (h : HL K Hk H ((x, .ow b (.dct [])) :: L)) : HL K Hk H ((x, .rw (some []) []) :: L) := by
  obtain ⟨F, hc, hn, hk⟩ := h.cells
  cases hc with
  | cons h1 t =>
    cases h1 with
    | ow r =>
      cases r with
      | dct ha r =>
        cases r
        exact ⟨h.ex, _, .cons (.rw (qs := []) ha rfl .nil) t, hn, hk⟩
theorem rows_reps : ∀ {qs : List Addr} {rows : List (List D)}, Rows K Hk H qs rows → (∀ q ∈ qs, ∀ u, H q = some u → Hk' q = some u) → Same Hk Hk' → Reps K Hk' (qs.map V.ref) (rows.map D.lst)
  | _, _, .nil, _, _ => .nil
  | _, _, .cons h r t, k, e => .cons (.lst (k _ (by simp) _ h) (r.mono e)) (rows_reps t (fun q hq => k q (List.mem_cons_of_mem _ hq)) e)
theorem repK_zip : ∀ {ks : List Key} {vs : List V} {ds : List D}, ks.length = vs.length → Reps K Hk vs ds → RepK K Hk (ks.zip vs) (ks.zip ds)
  | [], [], _, _, .nil => .nil
  | k :: ks, v :: vs, _, h, .cons r t => .cons r (repK_zip (by simpa using h) t)
  | [], _ :: _, _, h, _ => by simp at h
  | _ :: _, [], _, h, _ => by simp at h
/-- what becomes known of it -/
def knowR (Hk H : Hp) (fp : List Addr) : Hp := fun a => if a ∈ fp then H a else Hk a
theorem Opn.rep {p : Addr} {qs F : List Addr} (o : Opn K Hk H L x k rows p qs F) : Same Hk (knowR Hk H (p :: qs)) ∧ Same (knowR Hk H (p :: qs)) H ∧ Rep K (knowR Hk H (p :: qs)) (.ref p) (rwD k rows) := by
  have e1 : Same Hk (knowR Hk H (p :: qs)) := fun a u q => by
    unfold knowR
    by_cases ha : a ∈ p :: qs
    · rw [if_pos ha]; exact o.ex a u q
    · rw [if_neg ha]; exact q
  have e2 : Same (knowR Hk H (p :: qs)) H := fun a u q => by
    unfold knowR at q
    by_cases ha : a ∈ p :: qs
    · rw [if_pos ha] at q; exact q
    · rw [if_neg ha] at q; exact o.ex a u q
  have e3 : ∀ a ∈ p :: qs, ∀ u, H a = some u → knowR Hk H (p :: qs) a = some u := fun a ha u hu => by unfold knowR; rw [if_pos ha]; exact hu
  have hp := e3 p (by simp) _ o.at'
  have rr := rows_reps o.rs (fun q hq => e3 q (List.mem_cons_of_mem _ hq)) e1
  refine ⟨e1, e2, ?_⟩
  have hok := o.ok
  cases k with
  | none => exact .lst hp rr
  | some ks => exact .dct (.inl hp) (repK_zip (by rw [List.length_map]; exact hok) rr)
theorem HL.shareR (h : HL K Hk H ((x, .rw k rows) :: L)) : ∃ Hk' v, x = some v ∧ Same Hk Hk' ∧ Rep K Hk' v (rwD k rows) ∧ HL K Hk' H ((x, .sh (rwD k rows)) :: L) := by
  obtain ⟨p, qs, F, o⟩ := h.opn
  obtain ⟨e1, e2, r⟩ := o.rep
  have hev := o.ev
  subst hev
  have nd := List.nodup_append.mp (show ((p :: qs) ++ F).Nodup from o.nd)
  refine ⟨_, _, rfl, e1, r, e2, F, .cons (fp := []) (.sh r) (o.fr.mono e1 fun _ _ => rfl), nd.2.1, fun q hq => ?_⟩
  unfold knowR
  rw [if_neg fun z => nd.2.2 q z q hq rfl]
  exact o.no q (by show q ∈ (p :: qs) ++ F; exact List.mem_append_right _ hq)
/-- a row more: what holds them is written anew -/
theorem HL.addRow {q : Addr} {b : Bool} {ds : List D} (h : HL K Hk H ((some (.ref q), .ow b (.lst ds)) :: ((x, .rw k rows) :: L))) : ∃ p qs, x = some (.ref p) ∧ H p = some (outer k qs) ∧ kOk k qs ∧ qs.length = rows.length ∧
    ∀ k', kOk k' (qs ++ [q]) → HL K Hk (upd H p (outer k' (qs ++ [q]))) ((x, .rw k' (rows ++ [ds])) :: L) := by
  obtain ⟨F, hc, hn, hk⟩ := h.cells
  cases hc with
  | cons h1 t =>
    cases h1 with
    | ow r =>
      cases r with
      | lst hq rq =>
        cases t with
        | cons h2 t =>
          have h2' : CellOk K Hk H x (.rw k rows) _ := h2
          cases h2' with
          | rw ha hok r =>
            rename_i fq p qs
            refine ⟨p, qs, rfl, ha, hok, r.length, fun k' hok' => ?_⟩
            have nd : (q :: (p :: (qs ++ fq))).Nodup := hn
            have nd1 := List.nodup_cons.mp nd
            have nd2 := List.nodup_cons.mp nd1.2
            have hqp : q ≠ p := fun z => nd1.1 (by simp [z])
            have hkp : Hk p = none := hk p (by simp)
            have keep : ∀ a, a ≠ p → upd H p (outer k' (qs ++ [q])) a = H a := fun a z => upd_ne z
            have app : Rows K Hk (upd H p (outer k' (qs ++ [q]))) (qs ++ [q]) (rows ++ [ds]) := by
              have g : ∀ {qs : List Addr} {rows : List (List D)}, Rows K Hk H qs rows → p ∉ qs → Rows K Hk (upd H p (outer k' (qs ++ [q]))) qs rows := fun r hp => r.mono (.refl _) fun a ha => upd_ne fun z => hp (z ▸ ha)
              have g1 : Rows K Hk (upd H p (outer k' (qs ++ [q]))) qs rows := r.mono (.refl _) fun a ha => keep a fun z => nd2.1 (by rw [← z]; exact List.mem_append_left _ ha)
              have g2 : ∀ {qs' : List Addr} {rows' : List (List D)}, Rows K Hk (upd H p (outer k' (qs ++ [q]))) qs' rows' → Rows K Hk (upd H p (outer k' (qs ++ [q]))) (qs' ++ [q]) (rows' ++ [ds]) := fun r => by
                induction r with
                | nil => exact .cons ((keep q hqp).trans hq) rq .nil
                | cons h r t ih => exact .cons h r ih
              exact g2 g1
            refine ⟨fun a u z => by rw [upd_ne (ne_of_none z hkp)]; exact h.ex a u z, p :: (qs ++ [q]) ++ fq, .cons (.rw upd_same hok' app) (t.mono (.refl _) fun a ha => keep a fun z => nd2.1 (by rw [← z]; exact List.mem_append_right _ ha)), ?_, fun a ha => hk a ?_⟩
            · have pm : (q :: (p :: (qs ++ fq))).Perm (p :: (qs ++ [q]) ++ fq) := by
                refine .trans (.swap _ _ _) ?_
                show (p :: (q :: (qs ++ fq))).Perm (p :: ((qs ++ [q]) ++ fq))
                refine .cons _ ?_
                rw [List.append_assoc]
                exact List.perm_middle.symm
              exact pm.nodup_iff.mp nd
            · have ha' : a ∈ p :: ((qs ++ [q]) ++ fq) := ha
              show a ∈ q :: (p :: (qs ++ fq))
              simp only [List.mem_cons, List.mem_append, List.not_mem_nil, or_false] at ha' ⊢
              rcases ha' with z | ((z | z) | z)
              · exact .inr (.inl z)
              · exact .inr (.inr (.inl z))
              · exact .inl z
              · exact .inr (.inr (.inr z))
theorem Rows.get : ∀ {qs : List Addr} {rows : List (List D)} {j : Nat} {ds : List D}, Rows K Hk H qs rows → rows[j]? = some ds → ∃ q vs, qs[j]? = some q ∧ H q = some (.lst vs) ∧ Reps K Hk vs ds
  | _, _, _, _, .nil, e => by simp at e
  | _, _, 0, _, .cons h r t, e => by simp at e; subst e; exact ⟨_, _, rfl, h, r⟩
  | _, _, j + 1, ds, .cons h r t, e => by
    obtain ⟨q, vs, h1, h2⟩ := Rows.get (j := j) (ds := ds) t (by simpa using e)
    exact ⟨q, vs, by simpa using h1, h2⟩
theorem Rows.set {vs' : List V} {ds' : List D} (r' : Reps K Hk vs' ds') : ∀ {qs : List Addr} {rows : List (List D)} {j : Nat} {q : Addr}, Rows K Hk H qs rows → qs.Nodup → qs[j]? = some q → Rows K Hk (upd H q (.lst vs')) qs (rows.set j ds')
  | _, _, _, _, .nil, _, e => by simp at e
  | _, _, 0, q, .cons (qs := qs) h r t, n, e => by
    simp at e; subst e
    have n' := List.nodup_cons.mp n
    exact .cons upd_same r' (t.mono (.refl _) fun a ha => upd_ne fun z => n'.1 (z ▸ ha))
  | _, _, j + 1, q, .cons (q := q0) h r t, n, e => by
    have n' := List.nodup_cons.mp n
    have hq : _ := List.mem_of_getElem? (show _ = some q by simpa using e)
    have ne : q0 ≠ q := fun z => n'.1 (z ▸ hq)
    exact .cons ((upd_ne ne).trans h) r (Rows.set r' t n'.2 (by simpa using e))
/-- one row changed -/
theorem HL.modRow {j : Nat} {ds : List D} (h : HL K Hk H ((x, .rw k rows) :: L)) (hj : rows[j]? = some ds) : ∃ p qs q vs, x = some (.ref p) ∧ H p = some (outer k qs) ∧ kOk k qs ∧ qs.length = rows.length ∧ qs[j]? = some q ∧ q ≠ p ∧ H q = some (.lst vs) ∧ Reps K Hk vs ds ∧
    ∀ vs' ds', Reps K Hk vs' ds' → HL K Hk (upd H q (.lst vs')) ((x, .rw k (rows.set j ds')) :: L) := by
  obtain ⟨p, qs, F, o⟩ := h.opn
  obtain ⟨q, vs, h1, h2, h3⟩ := o.rs.get hj
  have hq := List.mem_of_getElem? h1
  have nd : (p :: (qs ++ F)).Nodup := o.nd
  have nd1 := List.nodup_cons.mp nd
  have nd2 := List.nodup_append.mp nd1.2
  have hqp : q ≠ p := fun z => nd1.1 (by rw [← z]; exact List.mem_append_left _ hq)
  have hkq : Hk q = none := o.no q (List.mem_cons_of_mem _ (List.mem_append_left _ hq))
  refine ⟨p, qs, q, vs, o.ev, o.at', o.ok, o.rs.length, h1, hqp, h2, h3, fun vs' ds' r' => ?_⟩
  exact Opn.cls ⟨o.ev, (upd_ne (Ne.symm hqp)).trans o.at', o.ok, Rows.set r' o.rs nd2.1 h1, o.fr.mono (.refl _) fun a ha => upd_ne fun z => nd2.2.2 q hq a ha z.symm, o.nd, o.no, fun a u z => by rw [upd_ne (ne_of_none z hkq)]; exact o.ex a u z⟩
/-! ### lent as a whole and taken back as it was -/
theorem reps_opq : ∀ (vs : List V), Reps K H vs (vs.map D.opq)
  | [] => .nil
  | _ :: r => .cons .opq (reps_opq r)
theorem opq_reps : ∀ {vs us : List V}, Reps K H us (vs.map D.opq) → us = vs
  | [], _, .nil => rfl
  | _ :: _, _, .cons .opq t => by rw [opq_reps t]
theorem repK_opq : ∀ (vs : List (Key × V)), RepK K H vs (vs.map fun kv => (kv.1, D.opq kv.2))
  | [] => .nil
  | _ :: r => .cons .opq (repK_opq r)
theorem opq_repK : ∀ {vs us : List (Key × V)}, RepK K H us (vs.map fun kv => (kv.1, D.opq kv.2)) → us = vs
  | [], _, .nil => rfl
  | _ :: _, _, .cons .opq t => by rw [opq_repK t]
theorem repT_opq : ∀ (vs : List (List Key × V)), RepT K H vs (vs.map fun kv => (kv.1, D.opq kv.2))
  | [] => .nil
  | _ :: r => .cons .opq (repT_opq r)
theorem opq_repT : ∀ {vs us : List (List Key × V)}, RepT K H us (vs.map fun kv => (kv.1, D.opq kv.2)) → us = vs
  | [], _, .nil => rfl
  | _ :: _, _, .cons .opq t => by rw [opq_repT t]
def Kind (H : Hp) (q : Addr) : Prop := (∃ vs, H q = some (.lst vs)) ∨ (∃ vs, H q = some (.dK vs)) ∨ ∃ vs, H q = some (.dT vs)
theorem Rows.kind : ∀ {qs : List Addr} {rows : List (List D)}, Rows K Hk H qs rows → ∀ q ∈ qs, Kind H q
  | _, _, .nil => by simp
  | _, _, .cons h _ t => fun q hq => (List.mem_cons.mp hq).elim (fun e => e ▸ .inl ⟨_, h⟩) (Rows.kind t q)
theorem CellOk.kind {s : Slot} {fp : List Addr} (h : CellOk K Hk H x s fp) : ∀ q ∈ fp, Kind H q := by
  intro q hq
  cases h with
  | un => cases hq
  | sh => cases hq
  | ow r => cases r with
    | lst h r => simp at hq; subst hq; exact .inl ⟨_, h⟩
    | dct h r => simp at hq; subst hq; exact .inr (.inl ⟨_, h⟩)
    | dcT h r => simp at hq; subst hq; exact .inr (.inr ⟨_, h⟩)
  | rw h hk r =>
    rename_i k p qs rows
    rcases List.mem_cons.mp hq with e | e
    · subst e
      cases k with
      | none => exact .inl ⟨_, h⟩
      | some ks => exact .inr (.inl ⟨_, h⟩)
    · exact r.kind q e
theorem Cells.kind : ∀ {L : List Cell} {F : List Addr}, Cells K Hk H L F → ∀ q ∈ F, Kind H q
  | _, _, .nil => by simp
  | _, _, .cons h t => fun q hq => (List.mem_append.mp hq).elim (h.kind q) (Cells.kind t q)
/-- cells that hold just what stands at these places -/
theorem exact_cells : ∀ (F : List Addr), (∀ q ∈ F, Kind H q) → ∃ X : List Cell, (∀ Hk1, Cells K Hk1 H X F) ∧ ∀ Hk2 H2 F', Cells K Hk2 H2 X F' → ∀ q ∈ F, H2 q = H q
  | [], _ => ⟨[], fun _ => .nil, fun _ _ _ _ q hq => by cases hq⟩
  | q :: F, h => by
    obtain ⟨X, h1, h2⟩ := exact_cells F fun a ha => h a (List.mem_cons_of_mem _ ha)
    rcases h q (by simp) with ⟨vs, e⟩ | ⟨vs, e⟩ | ⟨vs, e⟩
    · refine ⟨(some (.ref q), .ow false (.lst (vs.map D.opq))) :: X, fun Hk1 => .cons (fp := [q]) (.ow (.lst e (reps_opq vs))) (h1 Hk1), fun Hk2 H2 F' hc a ha => ?_⟩
      cases hc with
      | cons c t =>
        rcases List.mem_cons.mp ha with z | z
        · subst z
          cases c with
          | ow r => cases r with | lst h r => rw [h, e, opq_reps r]
        · exact h2 Hk2 H2 _ t a z
    · refine ⟨(some (.ref q), .ow false (.dct (vs.map fun kv => (kv.1, D.opq kv.2)))) :: X, fun Hk1 => .cons (fp := [q]) (.ow (.dct e (repK_opq vs))) (h1 Hk1), fun Hk2 H2 F' hc a ha => ?_⟩
      cases hc with
      | cons c t =>
        rcases List.mem_cons.mp ha with z | z
        · subst z
          cases c with
          | ow r => cases r with | dct h r => rw [h, e, opq_repK r]
        · exact h2 Hk2 H2 _ t a z
    · refine ⟨(some (.ref q), .ow false (.dcT (vs.map fun kv => (kv.1, D.opq kv.2)))) :: X, fun Hk1 => .cons (fp := [q]) (.ow (.dcT e (repT_opq vs))) (h1 Hk1), fun Hk2 H2 F' hc a ha => ?_⟩
      cases hc with
      | cons c t =>
        rcases List.mem_cons.mp ha with z | z
        · subst z
          cases c with
          | ow r => cases r with | dcT h r => rw [h, e, opq_repT r]
        · exact h2 Hk2 H2 _ t a z
theorem HL.borrow (h : HL K Hk H ((x, .rw k rows) :: L)) : ∃ Hk1 v X, x = some v ∧ Same Hk Hk1 ∧ Rep K Hk1 v (rwD k rows) ∧ HL K Hk1 H X ∧ ∀ Hk2 H2, Same Hk1 Hk2 → HL K Hk2 H2 X → HL K Hk H2 ((x, .rw k rows) :: L) := by
  obtain ⟨p, qs, F, o⟩ := h.opn
  obtain ⟨e1, e2, r⟩ := o.rep
  obtain ⟨X, x1, x2⟩ := exact_cells (K := K) F o.fr.kind
  have nd := List.nodup_append.mp (show ((p :: qs) ++ F).Nodup from o.nd)
  refine ⟨_, _, X, o.ev, e1, r, ⟨e2, F, x1 _, nd.2.1, fun q hq => ?_⟩, fun Hk2 H2 s h2 => ?_⟩
  · unfold knowR
    rw [if_neg fun z => nd.2.2 q z q hq rfl]
    exact o.no q (by show q ∈ (p :: qs) ++ F; exact List.mem_append_right _ hq)
  · obtain ⟨F', hc, _, _⟩ := h2.cells
    have hF := x2 Hk2 H2 F' hc
    have hfp : ∀ q ∈ p :: qs, H2 q = H q := fun q hq => by
      obtain ⟨u, hu⟩ : ∃ u, H q = some u := by
        rcases List.mem_cons.mp hq with z | z
        · rw [z]; exact ⟨_, o.at'⟩
        · exact o.rs.at q z
      have e3 : knowR Hk H (p :: qs) q = some u := by unfold knowR; rw [if_pos hq]; exact hu
      rw [h2.ex _ _ (s _ _ e3), hu]
    exact Opn.cls ⟨o.ev, (hfp p (by simp)).trans o.at', o.ok, o.rs.mono (.refl _) fun q hq => hfp q (List.mem_cons_of_mem _ hq), o.fr.mono (.refl _) hF, o.nd, o.no, (e1.trans s).trans h2.ex⟩
end

/-! ### expressions -/
section
variable {X : Cx} {Φ : Fr} {e k : Expr} {te tk : VE} {pos p : Pos}
/-- handed on -/
def vMvR (i : Nat) : VE := fun ρ Q => ∃ k rows, (ρ[i]? = some (.rw k rows) ∨ (k = none ∧ rows = [] ∧ ρ[i]? = some (.ow false (.lst [])))) ∧ Q (.rw k rows) (ρ.set i .un)
theorem pwe_mvR (i : Nat) {x : Str} (hp : PE X (.Name x pos) (tVar i)) : PWE X Φ (.Name x pos) (vMvR i) := ⟨fun ρ Q Hk T σ H P ⟨k, rows, e, q⟩ hh po => tSem_of hp (by
  rcases e with e | ⟨ek, er, e⟩
  · obtain ⟨v, R, ev, h1, back⟩ := hh.atU e (fun _ z => by cases z)
    obtain ⟨p, qs, F, o⟩ := h1.opn
    obtain rfl := o.ev
    exact ⟨.ref p, ev, po _ H Hk _ _ (.refl _) back (kp_set e fun _ z => by cases z) q⟩
  · subst ek; subst er
    obtain ⟨v, R, ev, h1, back⟩ := hh.atU e (fun _ z => by cases z)
    obtain ⟨p, qs, F, o⟩ := h1.rw0.opn
    obtain rfl := o.ev
    exact ⟨.ref p, ev, po _ H Hk _ _ (.refl _) (.back back.len (HL.rw0 back.front) back.ex0 back.kp0) (kp_set e fun _ z => by cases z) q⟩)⟩
/-- shared by its name -/
def vVarR (i : Nat) : VE := fun ρ Q => (∃ d, ρ[i]? = some (.sh d) ∧ Q (.sh d) ρ) ∨ ∃ k rows, ρ[i]? = some (.rw k rows) ∧ Q (.sh (rwD k rows)) (ρ.set i (.sh (rwD k rows)))
theorem pwe_varR (i : Nat) {x : Str} (hp : PE X (.Name x pos) (tVar i)) : PWE X Φ (.Name x pos) (vVarR i) := ⟨fun ρ Q Hk T σ H P h hh po => tSem_of hp (by
  rcases h with ⟨d, e, q⟩ | ⟨k, rows, e, q⟩
  · obtain ⟨v, ev, r⟩ := hh.get_sh e
    exact ⟨v, ev, po v H Hk ρ _ (.refl _) (hh.sh r) (.refl _ _) q⟩
  · obtain ⟨v, R, ev, h1, back⟩ := hh.at' e
    obtain ⟨Hk', v', rfl, e1, r, h2⟩ := h1.shareR
    exact ⟨v', ev, po v' H Hk' _ _ e1 ((back Hk' H _ h2 e1 (kp_set e fun _ z => by cases z)).sh r) (kp_set e fun _ z => by cases z) q⟩)⟩
/-- shared at once -/
def vShR (te : VE) : VE := fun ρ Q => te ρ fun s ρ1 => ∃ k rows, s = .rw k rows ∧ Q (.sh (rwD k rows)) ρ1
theorem pwe_shR (h : PWE X Φ e te) : PWE X Φ e (vShR te) := ⟨fun ρ Q Hk T σ H P q hh po => h.run ρ _ Hk T σ H P q hh fun v H' Hk' ρ' r e' h' k' ⟨k, rows, hr, q'⟩ => by
  subst hr
  obtain ⟨Hk2, v', ev, e2, rd, h2⟩ := HL.shareR h'.front
  cases ev
  exact po v H' Hk2 ρ' _ (e'.trans e2) (.back h'.len h2 (h'.ex0.trans e2) h'.kp0) k' q'⟩
/-- x.append(e), e an own list -/
def isRows (ρ : Rho) (i : Nat) (rows : List (List D)) : Prop := ρ[i]? = some (.rw none rows) ∨ (rows = [] ∧ ρ[i]? = some (.ow false (.lst [])))
def vAppR (i : Nat) (te : VE) : VE := fun ρ Q => (∃ rows, isRows ρ i rows) ∧ te ρ fun s ρ1 => ∃ ds rows, s = .ow false (.lst ds) ∧ isRows ρ1 i rows ∧ rows.length < sizeLine ∧ Q (.sh .non) (ρ1.set i (.rw none (rows ++ [ds])))
theorem Holds.rowsAt {K : PySem.W.Frag} {Φ : Fr} {Hk H : Hp} {ρ : Rho} {T : List Cell} {σ : L2.St} {i : Nat} {rows : List (List D)} (h : Holds K Φ Hk ρ T σ H) (e : isRows ρ i rows) : ∃ v R, σ[i]? = some v ∧ HL K Hk H ((v, .rw none rows) :: R) ∧ R.Perm (R) ∧ ∀ Hk' H' s', HL K Hk' H' ((v, s') :: R) → Same Hk Hk' → Holds K Φ Hk' (ρ.set i s') T σ H' := by
  rcases e with e | ⟨er, e⟩
  · obtain ⟨v, R, ev, h1, back⟩ := h.at' e
    exact ⟨v, R, ev, h1, .refl _, fun Hk' H' s' q sm => back Hk' H' s' q sm (kp_set e fun _ z => by cases z)⟩
  · subst er
    obtain ⟨v, R, ev, h1, back⟩ := h.at' e
    exact ⟨v, R, ev, h1.rw0, .refl _, fun Hk' H' s' q sm => back Hk' H' s' q sm (kp_set e fun _ z => by cases z)⟩
theorem isRows.kp {ρ : Rho} {i : Nat} {rows : List (List D)} {σ : L2.St} {s : Slot} (e : isRows ρ i rows) : Kp σ ρ σ (ρ.set i s) := by
  rcases e with e | ⟨_, e⟩
  · exact kp_set e fun _ z => by cases z
  · exact kp_set e fun _ z => by cases z
theorem run_appR (i : Nat) (h : PWE X Φ e te) : RunE X.K Φ (tBM X.K "list" rAppend (tVar i) (tCons (tSem X e) tNil)) (vAppR i te) := ⟨fun ρ Q Hk T σ H P ⟨⟨rows0, e0⟩, q⟩ hh po => by
  obtain ⟨v0, R0, ev, h0, _, _⟩ := hh.rowsAt e0
  obtain ⟨p0, qs0, F0, o0⟩ := h0.opn
  obtain rfl := o0.ev
  refine ⟨.ref p0, ev, .inl ⟨rfl, _, .of o0.at'⟩, h.run ρ _ Hk T σ H _ q hh fun v H1 Hk1 ρ1 s e1 h1 k1 ⟨ds, rows, hs, e2, hz, q1⟩ => ?_⟩
  subst hs
  obtain ⟨v1, R1, ev1, h2, _, _⟩ := h1.rowsAt e2
  rw [ev] at ev1; cases ev1
  -- both cells in front
  have hin : ∃ q, v = .ref q := by
    obtain ⟨q, vs, z, _⟩ := HL.lst h1.front
    cases z; exact ⟨q, rfl⟩
  obtain ⟨q, rfl⟩ := hin
  obtain ⟨R, z1, z2⟩ := zip_at ev (show ρ1[i]? = some (ρ1[i]'(by
    rcases e2 with e | ⟨_, e⟩ <;> exact (List.getElem?_eq_some_iff.mp e).1)) from List.getElem?_eq_getElem _)
  have hc : HL X.K Hk1 H1 ((some (.ref p0), .rw none rows) :: (R ++ ((some (.ref q), .ow false (.lst ds)) :: (T ++ Φ.T0)))) := by
    have g := h1.hl.perm (z1.append_right _)
    rcases e2 with e | ⟨er, e⟩
    · have : ρ1[i]'(by exact (List.getElem?_eq_some_iff.mp e).1) = .rw none rows := (List.getElem?_eq_some_iff.mp e).2
      rw [this] at g; exact g
    · have : ρ1[i]'(by exact (List.getElem?_eq_some_iff.mp e).1) = .ow false (.lst []) := (List.getElem?_eq_some_iff.mp e).2
      rw [this] at g; subst er; exact HL.rw0 g
  have hc2 : HL X.K Hk1 H1 ((some (.ref q), .ow false (.lst ds)) :: ((some (.ref p0), .rw none rows) :: (R ++ (T ++ Φ.T0)))) := by
    refine hc.perm ?_
    refine .trans (.cons _ List.perm_middle) (.swap _ _ _)
  obtain ⟨p1, qs1, ep, hp1, _, hl, add⟩ := hc2.addRow
  cases ep
  have eo : outer none qs1 = .lst (qs1.map V.ref) := rfl
  refine ⟨p0, qs1.map V.ref, .ref q, rfl, rfl, hp1, by rw [List.length_map, hl]; exact hz, ?_⟩
  have g := add none trivial
  have eo2 : outer none (qs1 ++ [q]) = .lst (qs1.map V.ref ++ [V.ref q]) := by show HO.lst _ = _; rw [List.map_append]; rfl
  rw [eo2] at g
  have z3 := z2 (some (.ref p0)) (.rw none (rows ++ [ds]))
  rw [set_self ev] at z3
  have kp : Kp σ ρ1 σ (ρ1.set i (.rw none (rows ++ [ds]))) := e2.kp
  refine po .non _ Hk1 _ _ e1 (Holds.sh ⟨by simp [h1.len], g.perm (z3.append_right _).symm, h1.ex0, h1.kp0.trans kp⟩ .non) (k1.trans kp) q1⟩
/-! ### d[k] = e, e an own list, k new -/
variable {st : Stmt}
def isDRows (ρ : Rho) (i : Nat) (ks : List Key) (rows : List (List D)) : Prop := ρ[i]? = some (.rw (some ks) rows) ∨ (ks = [] ∧ rows = [] ∧ ρ[i]? = some (.ow false (.dct [])))
theorem isDRows.kp {ρ : Rho} {i : Nat} {ks : List Key} {rows : List (List D)} {σ : L2.St} {s : Slot} (e : isDRows ρ i ks rows) : Kp σ ρ σ (ρ.set i s) := by
  rcases e with e | ⟨_, _, e⟩
  · exact kp_set e fun _ z => by cases z
  · exact kp_set e fun _ z => by cases z
theorem isDRows.lt {ρ : Rho} {i : Nat} {ks : List Key} {rows : List (List D)} (e : isDRows ρ i ks rows) : i < ρ.length := by
  rcases e with e | ⟨_, _, e⟩ <;> exact (List.getElem?_eq_some_iff.mp e).1
theorem HL.ofD {K : PySem.W.Frag} {Hk H : Hp} {ρ : Rho} {i : Nat} {ks : List Key} {rows : List (List D)} {x : Option V} {L : List Cell} (e : isDRows ρ i ks rows) (h : HL K Hk H ((x, ρ[i]'e.lt) :: L)) : HL K Hk H ((x, .rw (some ks) rows) :: L) := by
  rcases e with e | ⟨e1, e2, e⟩
  · have : ρ[i]'((List.getElem?_eq_some_iff.mp e).1) = .rw (some ks) rows := (List.getElem?_eq_some_iff.mp e).2
    rw [this] at h; exact h
  · have : ρ[i]'((List.getElem?_eq_some_iff.mp e).1) = .ow false (.dct []) := (List.getElem?_eq_some_iff.mp e).2
    rw [this] at h; subst e1; subst e2; exact HL.rwd0 h
def vPutR (i : Nat) (tk te : VE) : VS := fun R ρ => te ρ fun s ρ1 => (∃ ks rows, isDRows ρ1 i ks rows) ∧ tk ρ1 fun sk ρ2 => ∃ (kd : D) (key : Key) (ks : List Key) (rows : List (List D)) (ds : List D), sk = .sh kd ∧ keyD kd = some key ∧ isDRows ρ2 i ks rows ∧ key ∉ ks ∧ rows.length < sizeLine ∧ s = .ow false (.lst ds) ∧
  R.nx (ρ2.set i (.rw (some (ks ++ [key])) (rows ++ [ds])))
theorem putK_new {kvs : List (Key × V)} {key : Key} {v : V} (h : key ∉ kvs.map (·.1)) : putK kvs key v = kvs ++ [(key, v)] := by
  unfold putK
  rw [if_neg]
  intro z
  obtain ⟨kv, h1, h2⟩ := List.any_eq_true.mp z
  exact h (List.mem_map.mpr ⟨kv, h1, by simpa using h2⟩)
theorem zip_map1 {α β : Type} : ∀ {ks : List α} {vs : List β}, ks.length = vs.length → (ks.zip vs).map (·.1) = ks
  | [], [], _ => rfl
  | k :: ks, v :: vs, h => by simp [zip_map1 (ks := ks) (vs := vs) (by simpa using h)]
  | [], _ :: _, h => by simp at h
  | _ :: _, [], h => by simp at h
theorem pws_putR (i : Nat) (hp : PS X st (sDPut (tVar i) (tSem X k) (tSem X e))) (hk : PWE X Φ k tk) (h : PWE X Φ e te) : PWS X Φ st (vPutR i tk te) := ⟨fun ρ R Hk T σ H D q hh o => tSemS_of hp
  (h.run ρ _ Hk T σ H _ q hh fun v H1 Hk1 ρ1 s e1 h1 k1 ⟨⟨ks0, rows0, e0⟩, q1⟩ => by
    have hi1 : i < σ.length := by rw [← h1.len]; exact e0.lt
    obtain ⟨R0, y1, _⟩ := zip_at (List.getElem?_eq_getElem hi1) (List.getElem?_eq_getElem e0.lt)
    obtain ⟨p0, qs0, F0, o0⟩ := HL.opn (HL.ofD e0 (h1.hl.perm (y1.append_right _)))
    have ev : σ[i]? = some (some (.ref p0)) := by rw [List.getElem?_eq_getElem hi1, o0.ev]
    refine ⟨.ref p0, ev, hk.run ρ1 _ Hk1 ((some v, s) :: T) σ H1 _ q1 h1 fun u H2 Hk2 ρ2 sk e2 h2 k2 ⟨kd, key, ks, rows, ds, hs, hkey, e3, hnk, hz, hd, q2⟩ => ?_⟩
    subst hs; subst hd
    obtain ⟨v', ev', rv⟩ := h2.top
    cases ev'
    have ek := rv.key hkey
    subst ek
    have h3 := h2.pop
    have hin : ∃ q, v = .ref q := by
      obtain ⟨q, vs, z, _⟩ := HL.lst h3.front
      cases z; exact ⟨q, rfl⟩
    obtain ⟨q, rfl⟩ := hin
    obtain ⟨R1, z1, z2⟩ := zip_at ev (List.getElem?_eq_getElem e3.lt)
    have hc := HL.ofD e3 (h3.hl.perm (z1.append_right _))
    have hc2 : HL X.K Hk2 H2 ((some (.ref q), .ow false (.lst ds)) :: ((some (.ref p0), .rw (some ks) rows) :: (R1 ++ (T ++ Φ.T0)))) := by
      refine hc.perm ?_
      refine .trans (.cons _ List.perm_middle) (.swap _ _ _)
    obtain ⟨p1, qs1, ep, hp1, hok, hl, add⟩ := hc2.addRow
    cases ep
    have hok' : ks.length = qs1.length := hok
    have g := add (some (ks ++ [key])) (by show (ks ++ [key]).length = (qs1 ++ [q]).length; simp [hok'])
    have ez : ks.length = (qs1.map V.ref).length := by rw [List.length_map]; exact hok'
    have eo2 : outer (some (ks ++ [key])) (qs1 ++ [q]) = .dK (putK (ks.zip (qs1.map V.ref)) key (V.ref q)) := by
      rw [putK_new (by rw [zip_map1 ez]; exact hnk)]
      show HO.dK _ = _
      rw [List.map_append, List.zip_append ez]; rfl
    rw [eo2] at g
    have z3 := z2 (some (.ref p0)) (.rw (some (ks ++ [key])) (rows ++ [ds]))
    rw [set_self ev] at z3
    have kp : Kp σ ρ2 σ (ρ2.set i (.rw (some (ks ++ [key])) (rows ++ [ds]))) := e3.kp
    refine ⟨p0, _, rfl, .inl ⟨ks.zip (qs1.map V.ref), key, hp1, rfl, by rw [List.length_zip, List.length_map, hok', hl, Nat.min_self]; exact hz, rfl⟩, ?_⟩
    exact o.nx σ _ Hk2 _ (e1.trans e2) ⟨by simp [h2.len], g.perm (z3.append_right _).symm, h2.ex0, h2.kp0.trans kp⟩ (k1.trans (k2.trans kp)) q2)⟩
end
end WL

set_option Elab.async false
set_option linter.all false
set_option maxRecDepth 100000
set_option maxHeartbeats 4000000
/-! WU: own lists of own lists: a call that only looks, a loop that appends to each, a row under a second name. -/
namespace WL
open PySem PySem.Spec PyProof.Rows L2
section
variable {X : Cx} {Φ : Fr}
/-! ### f(xs, y): xs is only looked into, the answer is a truth -/
def vCallB (i j : Nat) (SS : VSp) : VE := fun ρ Q => ∃ k rows d, ρ[i]? = some (.rw k rows) ∧ ρ[j]? = some (.sh d) ∧ SS [.sh (rwD k rows), .sh d] (fun r _ => ∃ b, r = .sh (.bl b) ∧ Q (.sh (.bl b)) ρ) (fun _ _ _ => False)
theorem run_callB {SS : VSp} {E : L2.St → XK} (i j : Nat) : RunE X.K Φ (tCallSD (spV X.K SS) [] E (tCons (tVar i) (tCons (tVar j) tNil))) (vCallB i j SS) := ⟨fun ρ Q Hk T σ H P ⟨k, rows, d, e1, e2, q⟩ hh po => by
  obtain ⟨v, R, ev, h1, back⟩ := hh.at' e1
  obtain ⟨v2, ev2, r2⟩ := hh.get_sh e2
  obtain ⟨Hk1, v1, X1, ex, s1, r1, h2, ret⟩ := h1.borrow
  subst ex
  refine ⟨v1, ev, v2, ev2, ?_⟩
  show spV X.K SS [v1, v2] H P (E σ)
  refine ⟨Hk1, [.sh (rwD k rows), .sh d], X1, _, _, rfl, .sh (.sh .nil), (h2.sh (r2.mono s1)).sh r1, q, fun u H' Hk' ρs' r sm _ h3 ⟨b, er, q1⟩ => ?_, fun _ _ _ _ _ _ _ _ _ _ z => z.elim⟩
  subst er
  obtain ⟨u', eu, ru⟩ := h3.get_sh
  cases eu; cases ru
  have h4 : HL X.K Hk' H' X1 := HL.drop (C := ([v1, v2].map some).zip ρs') h3.tail
  have h5 := back Hk H' _ (ret Hk' H' sm h4) (.refl _) (by rw [set_self e1]; exact .refl _ _)
  rw [set_self e1] at h5
  exact po _ H' Hk ρ _ (.refl _) (h5.sh .bl) (.refl _ _) q1⟩
theorem pwe_callB {x : Str} {ps : List Str} {SS : VSp} {k : Nat} {a b : Expr} {p pos : Pos} (i j : Nat) (D : Def X.prog X.w X.K X.mg X.base k x ps SS) (hr : Room k X.A) (hg : Gl X x) (ha : PE X a (tVar i)) (hb : PE X b (tVar j)) (hd : (x == ("__debug__" : Str)) = false := by decide)
    (h0 : starEach [a, b] X.env = (false, eval a X.env) :: starEach [b] X.env := by rfl) (h1 : starEach [b] X.env = (false, eval b X.env) :: starEach [] X.env := by rfl) (h2 : ((backTo pos (starEach [b] X.env)).any fun x => x.1) = false := by rfl) : PWE X Φ (.Call (.Name x p) [a, b] [] pos) (vCallB i j SS) := by
  obtain ⟨f, fd, F, g, kp, bd⟩ := D.ex
  exact pwe_of (pe_callSD F hr hg g kp bd .nil (E := fun _ _ _ _ => False) (fun _ => passN) (pa_cons ha (pa_cons hb pa_nil h1) h0) hd h0 h2) (run_callB i j)
/-! ### for x in xs: x.append(c) -/
def apps (c : Str) (n : Nat) (rows : List (List D)) : List (List D) := (rows.take n).map (· ++ [.str c]) ++ rows.drop n
theorem apps_len {c : Str} {n : Nat} {rows : List (List D)} : (apps c n rows).length = rows.length := by unfold apps; simp; omega
theorem apps_at {c : Str} {n : Nat} {rows : List (List D)} (h : n < rows.length) : (apps c n rows)[n]? = some rows[n] := by
  unfold apps
  rw [List.getElem?_append_right (by simp; omega)]
  simp [Nat.min_eq_left (Nat.le_of_lt h), h]
theorem apps_set {c : Str} {n : Nat} {rows : List (List D)} (h : n < rows.length) : (apps c n rows).set n (rows[n] ++ [.str c]) = apps c (n + 1) rows := by
  unfold apps
  rw [List.set_append_right _ _ (by simp; omega)]
  have e1 : n - ((rows.take n).map (· ++ [D.str c])).length = 0 := by simp; omega
  rw [e1, List.drop_eq_getElem_cons h, List.set_cons_zero, List.take_succ_eq_append_getElem h, List.map_append]
  simp
theorem apps_all {c : Str} {rows : List (List D)} : apps c rows.length rows = rows.map (· ++ [.str c]) := by unfold apps; simp
def vForApp (i j : Nat) (c : Str) : VS := fun R ρ => ∃ rows s0, ρ[i]? = some (.rw none rows) ∧ ρ[j]? = some s0 ∧ s0.free = true ∧ i ≠ j ∧ (∀ r ∈ rows, r.length < sizeLine) ∧ R.nx ((ρ.set j .un).set i (.rw none (rows.map (· ++ [.str c]))))
theorem pws_forApp {st : Stmt} (i j : Nat) (c : Str) (hp : PS X st (tFor (iList X.K (tVar i)) (gName j) (tDrop (tBM X.K "list" rAppend (tVar j) (tCons (tC (.str c)) tNil))))) : PWS X Φ st (vForApp i j c) := ⟨fun ρ R Hk T σ H D ⟨rows, s0, e0, e1, f1, hij, hsz, q⟩ hh o => tSemS_of hp (by
  obtain ⟨v, R1, ev, h1, _⟩ := hh.at' e0
  obtain ⟨p, qs, F, op⟩ := h1.opn
  obtain rfl := op.ev
  have hi : i < ρ.length := (List.getElem?_eq_some_iff.mp e0).1
  have hj : j < ρ.length := (List.getElem?_eq_some_iff.mp e1).1
  have off : Off Φ [j] := Off.of hh fun v hv => by rw [List.mem_singleton.mp hv]; exact ⟨s0, e1, f1⟩
  have hpo : H p = some (.lst (qs.map V.ref)) := op.at'
  have hql : qs.length = rows.length := op.rs.length
  let ρn : Nat → Rho := fun n => (ρ.set j .un).set i (.rw none (apps c n rows))
  have eI : ∀ n, (ρn n)[i]? = some (.rw none (apps c n rows)) := fun n => List.getElem?_set_self (by simpa using hi)
  have eJ : ∀ n, (ρn n)[j]? = some .un := fun n => by
    show ((ρ.set j .un).set i _)[j]? = _
    rw [List.getElem?_set_ne hij, List.getElem?_set_self hj]
  have eS : ∀ n r, (ρn n).set i (.rw none r) = (ρ.set j .un).set i (.rw none r) := fun n r => by show ((ρ.set j .un).set i _).set i _ = _; rw [List.set_set]
  have eU : ∀ n, (ρn n).set j .un = ρn n := fun n => set_self (eJ n)
  have h00 : Holds X.K Φ Hk (ρn 0) T σ H := by
    have hn := hh.at' e1
    obtain ⟨vj, Rj, evj, hj1, bj⟩ := hn
    have g := bj Hk H .un hj1.tail.un (.refl _) (kp_set e1 fun o z => by subst z; cases f1)
    have a0 : apps c 0 rows = rows := by unfold apps; simp
    have : ρn 0 = ρ.set j .un := by
      show (ρ.set j .un).set i (.rw none (apps c 0 rows)) = _
      rw [a0]
      exact set_self (by rw [List.getElem?_set_ne (Ne.symm hij)]; exact e0)
    rw [this]; exact g
  have k00 : Kp σ ρ σ (ρn 0) := (kp_set (s' := .un) e1 fun o z => by subst z; cases f1).trans (kp_set (by rw [List.getElem?_set_ne (Ne.symm hij)]; exact e0) fun o z => by cases z)
  refine ⟨.ref p, ev, p, rfl, ⟨_, .of hpo⟩, fun n m σ' H' => m = rows.length - n ∧ n ≤ rows.length ∧ Holds X.K Φ Hk (ρn n) T σ' H' ∧ σ'[i]? = some (some (.ref p)) ∧ H' p = some (.lst (qs.map V.ref)) ∧ Kp σ ρ σ' (ρn n), ⟨_, rfl, Nat.zero_le _, h00, ev, hpo, k00⟩, ?_⟩
  rintro n m σ2 H2 ⟨rfl, hle, h2, ev2, hp2, k2⟩
  by_cases hlt : n < rows.length
  · have hqn : n < qs.length := by omega
    refine .inr ⟨⟨_, .ref qs[n], .of hp2, by rw [List.getElem?_map, List.getElem?_eq_getElem hqn]; rfl⟩, fun σ' H' => Holds X.K Φ Hk (ρn (n + 1)) T σ' H' ∧ σ'[i]? = some (some (.ref p)) ∧ H' p = some (.lst (qs.map V.ref)) ∧ Kp σ ρ σ' (ρn (n + 1)), fun σ' H' hN => ⟨rows.length - (n + 1), by omega, rfl, hlt, hN⟩, fun x H3 ⟨eH, y⟩ => ?_⟩
    subst eH
    have hx := y _ (.of hp2)
    rw [List.getElem?_map, List.getElem?_eq_getElem hqn] at hx
    have ex : x = .ref qs[n] := by simpa using hx.symm
    subst ex
    have hσj : j < σ2.length := by rw [← h2.len]; simp [ρn, hj]
    show tDrop _ _ (σ2.set j (some (.ref qs[n]))) H3
    have h3 : Holds X.K Φ Hk (ρn n) T (σ2.set j (some (.ref qs[n]))) H3 := by have := h2.set_un (x := some (.ref qs[n])) off; rw [eU] at this; exact this
    have ev3 : (σ2.set j (some (.ref qs[n])))[i]? = some (some (.ref p)) := by rw [List.getElem?_set_ne (Ne.symm hij)]; exact ev2
    obtain ⟨v4, R4, ev4, h4, back⟩ := h3.at' (eI n)
    rw [ev3] at ev4; cases ev4
    obtain ⟨p', qs', q', vs', ep, hp', _, hl', hq', hne, hqv, rq, upd'⟩ := h4.modRow (apps_at (c := c) hlt)
    cases ep
    have eqs : qs' = qs := by
      rw [hp2] at hp'
      have : qs.map V.ref = qs'.map V.ref := by
        have z := hp'
        simp only [outer, Option.some.injEq, HO.lst.injEq] at z
        exact z
      exact (List.map_inj_right (fun a b h => by cases h; rfl)).mp this.symm
    subst eqs
    have eq' : q' = qs'[n] := by rw [List.getElem?_eq_getElem hqn] at hq'; exact (Option.some.inj hq').symm
    subst eq'
    have hr : rows[n].length < sizeLine := hsz _ (List.getElem_mem hlt)
    refine ⟨.ref qs'[n], List.getElem?_set_self hσj, .inl ⟨rfl, vs', .of hqv⟩, qs'[n], vs', .str c, rfl, rfl, hqv, by rw [rq.length]; exact hr, ?_⟩
    have g := upd' (vs' ++ [.str c]) (rows[n] ++ [.str c]) (rq.append (.one .str))
    rw [apps_set hlt] at g
    have g2 := back Hk _ _ g (.refl _) (kp_set (eI n) fun o z => by cases z)
    rw [eS] at g2
    have kk : Kp σ2 (ρn n) (σ2.set j (some (.ref qs'[n]))) (ρn (n + 1)) := by
      have a := kp_store (σ := σ2) (ρ := ρn n) (i := j) (s := .un) (s0 := .un) (eJ n) rfl (x := some (.ref qs'[n]))
      rw [eU] at a
      have b : Kp (σ2.set j (some (.ref qs'[n]))) (ρn n) (σ2.set j (some (.ref qs'[n]))) ((ρn n).set i (.rw none (apps c (n + 1) rows))) := kp_set (eI n) fun o z => by cases z
      rw [eS] at b
      exact a.trans b
    exact ⟨g2, ev3, by rw [upd_ne (Ne.symm hne)]; exact hp2, k2.trans kk⟩
  · have he : n = rows.length := by omega
    subst he
    refine .inl ⟨⟨_, .of hp2, by rw [List.length_map]; omega⟩, ?_⟩
    have e5 : ρn rows.length = (ρ.set j .un).set i (.rw none (rows.map (· ++ [.str c]))) := by show (ρ.set j .un).set i _ = _; rw [apps_all]
    rw [e5] at h2 k2
    exact o.nx σ2 H2 Hk _ (.refl _) h2 k2 q)⟩
/-! ### y = d[k]; if x not in y: y.append(x) -/
theorem valV_zip : ∀ {ks : List Key} {qs : List Addr} {j : Nat} {key : Key} {q : Addr}, ks.Nodup → ks[j]? = some key → qs[j]? = some q → ks.length = qs.length → valV (ks.zip (qs.map V.ref)) key = some (.ref q)
  | [], _, _, _, _, _, h, _, _ => by simp at h
  | k :: ks, [], _, _, _, _, _, _, h => by simp at h
  | k :: ks, q0 :: qs, 0, key, q, _, h1, h2, _ => by
    simp at h1 h2; subst h1; subst h2
    simp [valV]
  | k :: ks, q0 :: qs, j + 1, key, q, n, h1, h2, h3 => by
    have n' := List.nodup_cons.mp n
    have hne : k ≠ key := fun z => n'.1 (z ▸ List.mem_of_getElem? (show ks[j]? = some key by simpa using h1))
    have ih := valV_zip (ks := ks) (qs := qs) (j := j) (key := key) (q := q) n'.2 (by simpa using h1) (by simpa using h2) (by simpa using h3)
    unfold valV at ih ⊢
    simp [hne]
    simpa using ih
def vAlias (w r a b : Nat) (tk : VE) : VS := fun R ρ => (∃ ks rows, ρ[w]? = some (.rw (some ks) rows)) ∧ tk ρ fun sk ρ1 => ∃ (kd : D) (key : Key) (ks : List Key) (rows : List (List D)) (j : Nat) (ds : List D) (ss : List Str) (s0 : Slot) (na : List D) (nb : Int) (x : Str), sk = .sh kd ∧ keyD kd = some key ∧ ρ1[w]? = some (.rw (some ks) rows) ∧ ks.Nodup ∧ ks[j]? = some key ∧ rows[j]? = some ds ∧ ds = ss.map D.str ∧ ρ1[r]? = some s0 ∧ s0.free = true ∧ w ≠ r ∧ a ≠ r ∧ b ≠ r ∧ ds.length < sizeLine ∧
    ρ1[a]? = some (.sh (.lst na)) ∧ ρ1[b]? = some (.sh (.int nb)) ∧ L2.atI na nb = some (.str x) ∧ (x ∈ ss → R.nx (ρ1.set r .un)) ∧ (x ∉ ss → R.nx ((ρ1.set r .un).set w (.rw (some ks) (rows.set j (ds ++ [.str x])))))
variable {st1 st2 : Stmt} {rest : List Stmt} {ke : Expr} {tk : VE} {u : VS}
theorem pwss_alias (w r a b : Nat) (h1 : PS X st1 (tAsg (tOp (rIxA X.K) (tVar w) (tSem X ke)) (gName r))) (h2 : PS X st2 (tIfS (tTest (tOp (rInA X.K true) (tOp (rIxA X.K) (tVar a) (tVar b)) (tVar r))) (tDrop (tBM X.K "list" rAppend (tVar r) (tCons (tOp (rIxA X.K) (tVar a) (tVar b)) tNil))) tNext))
    (hk : PWE X Φ ke tk) (hr : PWSs X Φ rest u) : PWSs X Φ (st1 :: st2 :: rest) (vSeq (vAlias w r a b tk) u) := ⟨fun ρ R Hk T σ H D ⟨⟨ks0, rows0, e00⟩, q⟩ hh o => by
  refine tSemSs_of (pss_cons h1 (pss_cons h2 pss_sem)) ?_
  obtain ⟨v0, R0, ev, hl0, _⟩ := hh.at' e00
  obtain ⟨p, qs0, F0, op0⟩ := hl0.opn
  obtain rfl := op0.ev
  refine ⟨.ref p, ev, hk.run ρ _ Hk T σ H _ q hh fun vk H1 Hk1 ρ1 sk e1 hh1 k1 ⟨kd, key, ks, rows, j, ds, ss, s0, na, nb, x, hs, hkey, e0, nd, hj, hrow, hds, er, fr, hwr, har, hbr, hsz, ea, eb, hx, qin, qno⟩ => ?_⟩
  subst hs
  obtain ⟨vk', evk, rk⟩ := hh1.top
  cases evk
  have ek := rk.key hkey
  subst ek
  have hh2 := hh1.pop
  obtain ⟨v1, R1, ev1, hl1, back1⟩ := hh2.at' e0
  rw [ev] at ev1; cases ev1
  obtain ⟨p1, qs, q, vs, ep, hp, hok, hlen, hq, hne, hqv, rq, upd1⟩ := hl1.modRow hrow
  cases ep
  have hok' : ks.length = qs.length := hok
  refine .inr (.inr (.inr ⟨p, .ref q, rfl, .inl ⟨_, key, .of hp, rfl, (valV_zip nd hj hq hok').symm⟩, ?_⟩))
  -- the second name
  show tIfS (tTest (tOp (rInA X.K true) (tOp (rIxA X.K) (tVar a) (tVar b)) (tVar r))) (tDrop (tBM X.K "list" rAppend (tVar r) (tCons (tOp (rIxA X.K) (tVar a) (tVar b)) tNil))) tNext { D with nx := tSemSs X rest D } (σ.set r (some (.ref q))) H1
  have off : Off Φ [r] := Off.of hh2 fun v hv => by rw [List.mem_singleton.mp hv]; exact ⟨s0, er, fr⟩
  have hr1 : r < ρ1.length := (List.getElem?_eq_some_iff.mp er).1
  have hσr : r < σ.length := by rw [← hh2.len]; exact hr1
  have h3 : Holds X.K Φ Hk1 (ρ1.set r .un) T (σ.set r (some (.ref q))) H1 := hh2.set_un off
  have k3 : Kp σ ρ (σ.set r (some (.ref q))) (ρ1.set r .un) := k1.trans (kp_store er fr)
  have evr : (σ.set r (some (.ref q)))[r]? = some (some (.ref q)) := List.getElem?_set_self hσr
  have ew : (ρ1.set r .un)[w]? = some (.rw (some ks) rows) := by rw [List.getElem?_set_ne (Ne.symm hwr)]; exact e0
  have ea3 : (ρ1.set r .un)[a]? = some (.sh (.lst na)) := by rw [List.getElem?_set_ne (Ne.symm har)]; exact ea
  have eb3 : (ρ1.set r .un)[b]? = some (.sh (.int nb)) := by rw [List.getElem?_set_ne (Ne.symm hbr)]; exact eb
  obtain ⟨va, eva, ra⟩ := h3.get_sh ea3
  obtain ⟨vb, evb, rb⟩ := h3.get_sh eb3
  have ix : ∀ Q' : VK, Q' (.str x) H1 → tOp (rIxA X.K) (tVar a) (tVar b) (σ.set r (some (.ref q))) H1 Q' := fun Q' q' => ⟨va, eva, vb, evb,
    ok_ix (X := X) Hk1 H1 va vb (.lst na) (.int nb) Q' (fun ret => ret = .val (.str x)) h3.ex (.known ra) (.known rb) ⟨na, .str x, .inl rfl, hx, rfl⟩ fun ret hret => by subst hret; intro v rv; cases rv; exact q'⟩
  refine ix _ ⟨.ref q, evr, ok_in (X := X) (b := true) Hk1 H1 (.str x) (.ref q) (.str x) (.lst ds) _ (fun ret => ret = .val (.bl (!decide (x ∈ ss)))) h3.ex (.known .str) (.own (o := .lst ds) (OwnAt.lst hqv rq)) (by subst hds; exact p_inS1 rfl) fun ret hret => ?_⟩
  subst hret
  intro v rv
  cases rv
  refine ⟨_, rfl, ?_⟩
  by_cases hxs : x ∈ ss
  · have e : (!decide (x ∈ ss)) = false := by simp [hxs]
    rw [e]
    show tNext _ _ _
    exact hr.run _ R Hk1 T _ H1 D (qin hxs) h3 (o.step e1 k3)
  · have e : (!decide (x ∈ ss)) = true := by simp [hxs]
    rw [e]
    show tDrop (tBM X.K "list" rAppend (tVar r) (tCons (tOp (rIxA X.K) (tVar a) (tVar b)) tNil)) { D with nx := tSemSs X rest D } (σ.set r (some (.ref q))) H1
    refine ⟨.ref q, evr, .inl ⟨rfl, vs, .of hqv⟩, ix _ ⟨q, vs, .str x, rfl, rfl, hqv, by rw [rq.length]; exact hsz, ?_⟩⟩
    obtain ⟨v6, R6, ev6, hl6, back6⟩ := h3.at' ew
    have evw : (σ.set r (some (.ref q)))[w]? = some (some (.ref p)) := by rw [List.getElem?_set_ne (Ne.symm hwr)]; exact ev
    rw [evw] at ev6; cases ev6
    obtain ⟨p6, qs6, q6, vs6, ep6, hp6, hok6, hlen6, hq6, _, hqv6, rq6, upd6⟩ := hl6.modRow hrow
    cases ep6
    have hok6' : ks.length = qs6.length := hok6
    have eqs : qs6 = qs := by
      rw [hp] at hp6
      have z : ks.zip (qs.map V.ref) = ks.zip (qs6.map V.ref) := by simpa [outer] using hp6
      have z2 : qs.map V.ref = qs6.map V.ref := by
        have a := congrArg (List.map Prod.snd) z
        rw [List.map_snd_zip (by rw [List.length_map]; omega), List.map_snd_zip (by rw [List.length_map]; omega)] at a
        exact a
      exact (List.map_inj_right (fun a b h => by cases h; rfl)).mp z2.symm
    subst eqs
    rw [hq] at hq6; cases hq6
    have g := back6 Hk1 _ _ (upd6 (vs ++ [.str x]) (ds ++ [.str x]) (rq.append (.one (.str (x := x))))) (.refl _) (kp_set ew fun o z => by cases z)
    exact hr.run _ R Hk1 T _ _ D (qno hxs) g (o.step e1 (k3.trans (kp_set ew fun o z => by cases z)))⟩
end
end WL

set_option Elab.async false
set_option linter.all false
set_option maxRecDepth 100000
set_option maxHeartbeats 4000000
/-! WV: steps of the readings of WR .. WU. -/
namespace WL
open PySem PySem.Spec PyProof.Rows L2
section
variable {nx bk ct : Rho → Prop} {rt : Slot → Rho → Prop} {t u : VS} {te ta tb tk tv : VE} {to tu : VO} {tas : VA} {tt t1 t2 : VT} {ρ ρ' ρ1 : Rho} {i : Nat} {Q : VK0} {QB : Bool → Rho → Prop}
  {s s0 s1 : Slot} {d : D} {ds es : List D} {b : Bool} {g : VG} {vs : List Nat}
/-! dict comprehensions -/
def kDcV (sk : Slot) (vs : List Nat) (acc : List (Key × D)) (I : List (Key × D) → Rho → Prop) : VK0 := fun s ρ5 => ∃ kd key dy, sk = .sh kd ∧ keyD kd = some key ∧ slotD s = some dy ∧ acc.length < sizeLine ∧ I (putD acc key dy) (wipeR ρ5 vs)
def kDcK (tv : VE) (vs : List Nat) (acc : List (Key × D)) (I : List (Key × D) → Rho → Prop) : VK0 := fun sk ρ4 => tv ρ4 (kDcV sk vs acc I)
def kDcT (tk tv : VE) (vs : List Nat) (acc : List (Key × D)) (I : List (Key × D) → Rho → Prop) : Bool → Rho → Prop := fun b ρ3 => (b = true → tk ρ3 (kDcK tv vs acc I)) ∧ (b = false → I acc (wipeR ρ3 vs))
def kDc (g : VG) (tt : VT) (tk tv : VE) (vs : List Nat) (Q : VK0) : List D → Rho → Prop := fun ds ρ1 => (∀ v ∈ vs, ∃ s, ρ1[v]? = some s ∧ s.free = true) ∧ ∃ I : Nat → List (Key × D) → Rho → Prop, I 0 [] (wipeR ρ1 vs) ∧
  (∀ j acc d ρ', ds[j]? = some d → I j acc ρ' → g d ρ' fun ρ2 => tt ρ2 (kDcT tk tv vs acc (I (j + 1)))) ∧ ∀ acc ρ', I ds.length acc ρ' → Q (.ow false (.dct acc)) ρ'
theorem u_dc {it : VI} (h : it ρ (kDc g tt tk tv vs Q)) : vDc it g tt tk tv vs ρ Q := h
theorem u_dcK {kvs : List (Key × D)} (e : ρ[i]? = some (.sh (.dct kvs))) (h : kDc g tt tk tv vs Q (kvs.map fun kv => dK kv.1) ρ) : vDcK i g tt tk tv vs ρ Q := ⟨kvs, e, h⟩
theorem k_dc (hf : ∀ v ∈ vs, ∃ s, ρ[v]? = some s ∧ s.free = true) (I : Nat → List (Key × D) → Rho → Prop) (h0 : I 0 [] (wipeR ρ vs)) (hs : ∀ j acc d ρ', ds[j]? = some d → I j acc ρ' → g d ρ' fun ρ2 => tt ρ2 (kDcT tk tv vs acc (I (j + 1)))) (hd : ∀ acc ρ', I ds.length acc ρ' → Q (.ow false (.dct acc)) ρ') :
    kDc g tt tk tv vs Q ds ρ := ⟨hf, I, h0, hs, hd⟩
theorem k_dcTT {acc : List (Key × D)} {I : List (Key × D) → Rho → Prop} (h1 : tk ρ (kDcK tv vs acc I)) : kDcT tk tv vs acc I true ρ := ⟨fun _ => h1, fun z => by cases z⟩
theorem k_dcK {acc : List (Key × D)} {I : List (Key × D) → Rho → Prop} (h : tv ρ (kDcV s vs acc I)) : kDcK tv vs acc I s ρ := h
theorem k_dcV {acc : List (Key × D)} {I : List (Key × D) → Rho → Prop} {kd : D} {key : Key} (ek : keyD kd = some key) (ed : slotD s = some d) (hz : acc.length < sizeLine) (h : I (putD acc key d) ρ') (hs : wipeR ρ vs = ρ' := by dsimp only [wipeR, List.set]) : kDcV (.sh kd) vs acc I s ρ := ⟨kd, key, d, rfl, ek, ed, hz, by rw [hs]; exact h⟩
/-! .. for k in d[x] -/
theorem u_lcKix {n : Nat} {kds kvs : List (Key × D)} {kd : D} {key : Key} (e0 : ρ[i]? = some s0) (hs0 : slotD s0 = some (.dct kds)) (e1 : ρ[n]? = some (.sh kd)) (hk : keyD kd = some key) (hl : lookK kds key = some (.dct kvs)) (h : kLc g tt te vs Q (kvs.map fun kv => dK kv.1) ρ) : vLcKix i n g tt te vs ρ Q :=
  ⟨s0, kds, kd, key, kvs, e0, hs0, e1, hk, hl, h⟩
/-! known; own lists walked -/
theorem u_know {kvs : List (Key × D)} (e : ρ[i]? = some (.ow false (.dct kvs))) (h : t (.mk nx rt bk ct) ρ') (hs : ρ.set i (.sh (.dct kvs)) = ρ' := by dsimp only [List.set]) : vKnow i t (.mk nx rt bk ct) ρ := .inr ⟨.dct kvs, e, by subst hs; exact h⟩
theorem u_forO {tb : VS} (e : ρ[i]? = some (.ow false (.lst ds))) (I : Nat → Rho → Prop) (h0 : I 0 (ρ.set i (.ow true (.lst ds)))) (hs : ∀ j d ρ', ds[j]? = some d → I j ρ' → ρ'[i]? = some (.ow true (.lst ds)) ∧ g d ρ' fun ρ2 => tb (.mk (I (j + 1)) rt (fun _ => False) (I (j + 1))) ρ2)
    (hd : ∀ ρ', I ds.length ρ' → ρ'[i]? = some (.ow true (.lst ds)) ∧ nx (ρ'.set i (.ow false (.lst ds)))) : vForO i g tb (.mk nx rt bk ct) ρ := ⟨ds, e, I, h0, hs, hd⟩
theorem u_forApp {j : Nat} {c : Str} {rows : List (List D)} (e : ρ[i]? = some (.rw none rows)) (e1 : ρ[j]? = some s0) (hf : s0.free = true) (hij : i ≠ j) (hz : ∀ r ∈ rows, r.length < sizeLine) (h : nx ((ρ.set j .un).set i (.rw none (rows.map (· ++ [.str c]))))) : vForApp i j c (.mk nx rt bk ct) ρ := ⟨rows, s0, e, e1, hf, hij, hz, h⟩
/-! lists of own lists -/
def kAppR (i : Nat) (Q : VK0) : VK0 := fun s ρ1 => ∃ ds rows, s = .ow false (.lst ds) ∧ isRows ρ1 i rows ∧ rows.length < sizeLine ∧ Q (.sh .non) (ρ1.set i (.rw none (rows ++ [ds])))
theorem u_appR {rows : List (List D)} (e : isRows ρ i rows) (h : te ρ (kAppR i Q)) : vAppR i te ρ Q := ⟨⟨rows, e⟩, h⟩
theorem k_appR {rows : List (List D)} (e : isRows ρ i rows) (hz : rows.length < sizeLine) (h : Q (.sh .non) (ρ.set i (.rw none (rows ++ [ds])))) : kAppR i Q (.ow false (.lst ds)) ρ := ⟨ds, rows, rfl, e, hz, h⟩
theorem u_mvR {rows : List (List D)} (e : isRows ρ i rows) (h : Q (.rw none rows) (ρ.set i .un)) : vMvR i ρ Q := ⟨none, rows, e.elim .inl (fun z => .inr ⟨rfl, z⟩), h⟩
theorem u_varR {k : Option (List Key)} {rows : List (List D)} (e : ρ[i]? = some (.rw k rows)) (h : Q (.sh (rwD k rows)) (ρ.set i (.sh (rwD k rows)))) : vVarR i ρ Q := .inr ⟨k, rows, e, h⟩
theorem u_varR1 (e : ρ[i]? = some (.sh d)) (h : Q (.sh d) ρ) : vVarR i ρ Q := .inl ⟨d, e, h⟩
def kShR (Q : VK0) : VK0 := fun s ρ1 => ∃ k rows, s = .rw k rows ∧ Q (.sh (rwD k rows)) ρ1
theorem u_shR (h : te ρ (kShR Q)) : vShR te ρ Q := h
theorem k_shR {k : Option (List Key)} {rows : List (List D)} (h : Q (.sh (rwD k rows)) ρ) : kShR Q (.rw k rows) ρ := ⟨k, rows, rfl, h⟩
def kPutR2 (i : Nat) (s : Slot) (nx : Rho → Prop) : VK0 := fun sk ρ2 => ∃ (kd : D) (key : Key) (ks : List Key) (rows : List (List D)) (ds : List D), sk = .sh kd ∧ keyD kd = some key ∧ isDRows ρ2 i ks rows ∧ key ∉ ks ∧ rows.length < sizeLine ∧ s = .ow false (.lst ds) ∧ nx (ρ2.set i (.rw (some (ks ++ [key])) (rows ++ [ds])))
def kPutR1 (i : Nat) (tk : VE) (nx : Rho → Prop) : VK0 := fun s ρ1 => (∃ ks rows, isDRows ρ1 i ks rows) ∧ tk ρ1 (kPutR2 i s nx)
theorem u_putR (h : te ρ (kPutR1 i tk nx)) : vPutR i tk te (.mk nx rt bk ct) ρ := h
theorem k_putR1 {ks : List Key} {rows : List (List D)} (e : isDRows ρ i ks rows) (h : tk ρ (kPutR2 i s nx)) : kPutR1 i tk nx s ρ := ⟨⟨ks, rows, e⟩, h⟩
theorem k_putR2 {kd : D} {key : Key} {ks : List Key} {rows : List (List D)} (ek : keyD kd = some key) (e : isDRows ρ i ks rows) (hn : key ∉ ks) (hz : rows.length < sizeLine) (h : nx (ρ.set i (.rw (some (ks ++ [key])) (rows ++ [ds])))) : kPutR2 i (.ow false (.lst ds)) nx (.sh kd) ρ := ⟨kd, key, ks, rows, ds, rfl, ek, e, hn, hz, rfl, h⟩
theorem u_callB {j : Nat} {SS : VSp} {k : Option (List Key)} {rows : List (List D)} (e1 : ρ[i]? = some (.rw k rows)) (e2 : ρ[j]? = some (.sh d)) (h : SS [.sh (rwD k rows), .sh d] (fun r _ => ∃ b, r = .sh (.bl b) ∧ Q (.sh (.bl b)) ρ) (fun _ _ _ => False)) : vCallB i j SS ρ Q := ⟨k, rows, d, e1, e2, h⟩
/-! {k: v} -/
def kDisp2 (sk : Slot) (Q : VK0) : VK0 := fun s ρ2 => ∃ (kd : D) (key : Key) (d : D), sk = .sh kd ∧ keyD kd = some key ∧ slotD s = some d ∧ Q (.ow false (.dct [(key, d)])) ρ2
def kDisp1 (tv : VE) (Q : VK0) : VK0 := fun sk ρ1 => tv ρ1 (kDisp2 sk Q)
theorem u_disp1 (h : tk ρ (kDisp1 tv Q)) : vDisp1 tk tv ρ Q := h
theorem k_disp1 (h : tv ρ (kDisp2 s Q)) : kDisp1 tv Q s ρ := h
theorem k_disp2 {kd : D} {key : Key} (ek : keyD kd = some key) (ed : slotD s = some d) (h : Q (.ow false (.dct [(key, d)])) ρ) : kDisp2 (.sh kd) Q s ρ := ⟨kd, key, d, rfl, ek, ed, h⟩
/-! l.index -/
def kIdx (i : Nat) (Q : VK0) : VK0 := fun s ρ1 => ∃ (x : Str) (ss : List Str) (s1 : Slot) (d1 : D), s = .sh (.str x) ∧ ρ1[i]? = some s1 ∧ slotD s1 = some d1 ∧ seqLD d1 = some (ss.map D.str) ∧ x ∈ ss ∧ ∀ j : Nat, ss[j]? = some x → (∀ m, m < j → ss[m]? ≠ some x) → Q (.sh (.int j)) ρ1
theorem u_idx {l : List D} (e : ρ[i]? = some s) (hd : slotD s = some d) (hl : seqLD d = some l) (h : te ρ (kIdx i Q)) : vIdx i te ρ Q := ⟨⟨s, d, l, e, hd, hl⟩, h⟩
theorem k_idx {x : Str} {ss : List Str} (e : ρ[i]? = some s1) (hd : slotD s1 = some d) (hl : seqLD d = some (ss.map D.str)) (hx : x ∈ ss) (h : ∀ j : Nat, ss[j]? = some x → (∀ m, m < j → ss[m]? ≠ some x) → Q (.sh (.int j)) ρ) : kIdx i Q (.sh (.str x)) ρ := ⟨x, ss, s1, d, rfl, e, hd, hl, hx, h⟩
end
end WL

set_option Elab.async false
set_option linter.all false
set_option maxRecDepth 100000
set_option maxHeartbeats 4000000
/-! K11M: reach, knots, rings: plain lists of texts. -/
namespace WL
open PySem PySem.Spec PyProof.Rows L2

/-! ### the order of texts -/
theorem str_ext {a b : Str} (h : a.cps.toList = b.cps.toList) : a = b := by rw [← SX.S_tl a, ← SX.S_tl b, h]
def slt (a b : Str) : Prop := a.cps.toList < b.cps.toList
instance (a b : Str) : Decidable (slt a b) := inferInstanceAs (Decidable (a.cps.toList < b.cps.toList))
theorem slt_irrefl (a : Str) : ¬ slt a a := List.lt_irrefl _
theorem slt_trans {a b c : Str} (h : slt a b) (h2 : slt b c) : slt a c := List.lt_trans h h2
theorem slt_tri (a b : Str) : a = b ∨ slt a b ∨ slt b a := by
  by_cases h : slt a b
  · exact .inr (.inl h)
  · by_cases h2 : slt b a
    · exact .inr (.inr h2)
    · exact .inl (str_ext (List.le_antisymm (List.not_lt.mp h2) (List.not_lt.mp h)))
theorem slt_asym {a b : Str} (h : slt a b) : ¬ slt b a := fun h2 => slt_irrefl a (slt_trans h h2)
theorem rising_le : ∀ (l : List Str) (p : Str), risingS p l = true → ∀ y ∈ l, p.cps.toList ≤ y.cps.toList
  | [], _, _, y, hy => by cases hy
  | x :: r, p, h, y, hy => by
    have h' : (!ltCps x.cps.toList p.cps.toList && risingS x r) = true := h
    rw [Bool.and_eq_true, ltCps_eq] at h'
    have h1 : p.cps.toList ≤ x.cps.toList := by simpa using h'.1
    rcases List.mem_cons.mp hy with e | hy
    · subst e; exact h1
    · exact List.le_trans h1 (rising_le r x h'.2 y hy)
theorem sorted_pw : ∀ (l : List Str), sortedS l = true → l.Pairwise fun a b => a.cps.toList ≤ b.cps.toList
  | [], _ => .nil
  | x :: r, h => by
    refine List.pairwise_cons.mpr ⟨rising_le r x h, sorted_pw r ?_⟩
    cases r with
    | nil => rfl
    | cons y s =>
      have h' : (!ltCps y.cps.toList x.cps.toList && risingS y s) = true := h
      rw [Bool.and_eq_true] at h'
      exact h'.2
theorem sorted_one {ys zs : List Str} (p : ys.Perm zs) (hy : sortedS ys = true) (hz : sortedS zs = true) : ys = zs :=
  p.eq_of_pairwise (fun a b _ _ h1 h2 => str_ext (List.le_antisymm h1 h2)) (sorted_pw ys hy) (sorted_pw zs hz)
/-- sorted and unlike: ascending -/
theorem sorted_asc {l : List Str} (h : sortedS l = true) (n : l.Nodup) : l.Pairwise slt := by
  refine ((sorted_pw l h).and n).imp ?_
  rintro a b ⟨h1, h2⟩
  rcases slt_tri a b with e | e | e
  · exact absurd e h2
  · exact e
  · exact absurd e (List.not_lt.mpr h1)
/-- the sorted list -/
noncomputable def sortS (xs : List Str) : List Str := xs.mergeSort fun a b => @decide (a.cps.toList ≤ b.cps.toList) (Classical.propDecidable _)
theorem pw_sorted : ∀ (l : List Str), (l.Pairwise fun a b => a.cps.toList ≤ b.cps.toList) → sortedS l = true
  | [], _ => rfl
  | [_], _ => rfl
  | x :: y :: r, h => by
    have h1 := List.pairwise_cons.mp h
    have ih := pw_sorted (y :: r) h1.2
    show (!ltCps y.cps.toList x.cps.toList && risingS y r) = true
    rw [Bool.and_eq_true, ltCps_eq]
    exact ⟨by simpa using h1.1 y (by simp), ih⟩
theorem sortS_perm (xs : List Str) : (sortS xs).Perm xs := List.mergeSort_perm _ _
theorem sortS_sorted (xs : List Str) : sortedS (sortS xs) = true := by
  refine pw_sorted _ ?_
  have h := List.pairwise_mergeSort (le := fun a b : Str => @decide (a.cps.toList ≤ b.cps.toList) (Classical.propDecidable _)) (fun a b c h1 h2 => by simp at h1 h2 ⊢; exact List.le_trans h1 h2) (fun a b => by simp; exact List.le_total _ _) xs
  exact h.imp fun h => by simpa using h
theorem sortS_of {ys xs : List Str} (p : ys.Perm xs) (h : sortedS ys = true) : ys = sortS xs := sorted_one (p.trans (sortS_perm xs).symm) h (sortS_sorted xs)
theorem sortS_congr {xs ys : List Str} (p : xs.Perm ys) : sortS xs = sortS ys := sortS_of ((sortS_perm xs).trans p) (sortS_sorted xs)
theorem mem_sortS {x : Str} {xs : List Str} : x ∈ sortS xs ↔ x ∈ xs := (sortS_perm xs).mem_iff
theorem perm_of_mem {xs ys : List Str} (n : xs.Nodup) (m : ys.Nodup) (h : ∀ x, x ∈ xs ↔ x ∈ ys) : xs.Perm ys := (List.perm_ext_iff_of_nodup n m).mpr h
theorem nodup_le : ∀ {xs ys : List Str}, xs.Nodup → (∀ x ∈ xs, x ∈ ys) → xs.length ≤ ys.length
  | [], _, _, _ => Nat.zero_le _
  | x :: xs, ys, n, h => by
    have n' := List.nodup_cons.mp n
    have hx := h x (by simp)
    have ih := nodup_le (xs := xs) (ys := ys.erase x) n'.2 fun y hy => (List.mem_erase_of_ne (fun z : y = x => n'.1 (by rw [← z]; exact hy))).mpr (h y (List.mem_cons_of_mem _ hy))
    rw [List.length_erase_of_mem hx] at ih
    have := List.length_pos_of_mem hx
    simp only [List.length_cons]
    omega
theorem snoc_ind {α : Type} {P : List α → Prop} (h0 : P []) (h1 : ∀ l a, P l → P (l ++ [a])) (l : List α) : P l := by
  have : ∀ m : List α, P m.reverse := fun m => by
    induction m with
    | nil => exact h0
    | cons a m ih => rw [List.reverse_cons]; exact h1 _ _ ih
  rw [← List.reverse_reverse l]; exact this _

/-! ### reach -/
section
variable {W : Str → List Str}
inductive Rch (W : Str → List Str) (s : Str) : Str → Prop
  | one {x} (h : x ∈ W s) : Rch W s x
  | step {y x} (h : Rch W s y) (hx : x ∈ W y) : Rch W s x
theorem Rch.trans {a b c : Str} (h : Rch W a b) (h2 : Rch W b c) : Rch W a c := by
  induction h2 with
  | one h2 => exact .step h h2
  | step _ hx ih => exact .step ih hx
structure ReI (W : Str → List Str) (s : Str) (found queue : List Str) : Prop where
  sound : ∀ x, x ∈ found ∨ x ∈ queue → Rch W s x
  start : ∀ x ∈ W s, x ∈ found ∨ x ∈ queue
  closed : ∀ y ∈ found, ∀ x ∈ W y, x ∈ found ∨ x ∈ queue
  nd : found.Nodup
theorem ReI.first (W : Str → List Str) (s : Str) : ReI W s [] (W s) := ⟨fun x h => h.elim (fun z => by cases z) .one, fun x h => .inr h, fun _ h => by (cases h), .nil⟩
theorem mem_dropLast {n x : Str} {q : List Str} (h : q[q.length - 1]? = some n) : x ∈ q ↔ x ∈ q.dropLast ∨ x = n := by
  have hq : q = q.dropLast ++ [n] := by
    have hne : q ≠ [] := fun z => by subst z; cases h
    have h2 := List.dropLast_concat_getLast hne
    have e : q.getLast hne = n := by
      have := List.getLast?_eq_getElem? (l := q)
      rw [h, List.getLast?_eq_some_getLast hne] at this
      exact Option.some.inj this
    rw [e] at h2
    exact h2.symm
  constructor
  · intro hx
    rw [hq] at hx
    rcases List.mem_append.mp hx with z | z
    · exact .inl z
    · exact .inr (by simpa using z)
  · intro hx
    rw [hq]
    rcases hx with z | z
    · exact List.mem_append_left _ z
    · exact List.mem_append_right _ (by simp [z])
theorem ReI.old {s n : Str} {found q : List Str} (I : ReI W s found q) (h : q[q.length - 1]? = some n) (hn : n ∈ found) : ReI W s found q.dropLast := by
  have g : ∀ x, x ∈ found ∨ x ∈ q → x ∈ found ∨ x ∈ q.dropLast := fun x hx => by
    rcases hx with hx | hx
    · exact .inl hx
    · rcases (mem_dropLast h).mp hx with z | z
      · exact .inr z
      · subst z; exact .inl hn
  exact ⟨fun x hx => I.sound x (hx.imp id fun z => (mem_dropLast h).mpr (.inl z)), fun x hx => g x (I.start x hx), fun y hy x hx => g x (I.closed y hy x hx), I.nd⟩
theorem ReI.new {s n : Str} {found q : List Str} (I : ReI W s found q) (h : q[q.length - 1]? = some n) (hn : n ∉ found) : ReI W s (found ++ [n]) (q.dropLast ++ W n) := by
  have rn : Rch W s n := I.sound n (.inr ((mem_dropLast h).mpr (.inr rfl)))
  have g : ∀ x, x ∈ found ∨ x ∈ q → x ∈ found ++ [n] ∨ x ∈ q.dropLast ++ W n := fun x hx => by
    rcases hx with hx | hx
    · exact .inl (List.mem_append_left _ hx)
    · rcases (mem_dropLast h).mp hx with z | z
      · exact .inr (List.mem_append_left _ z)
      · exact .inl (List.mem_append_right _ (by simp [z]))
  refine ⟨fun x hx => ?_, fun x hx => g x (I.start x hx), fun y hy x hx => ?_, ?_⟩
  · rcases hx with hx | hx
    · rcases List.mem_append.mp hx with z | z
      · exact I.sound x (.inl z)
      · have : x = n := by simpa using z
        subst this; exact rn
    · rcases List.mem_append.mp hx with z | z
      · exact I.sound x (.inr ((mem_dropLast h).mpr (.inl z)))
      · exact .step rn z
  · rcases List.mem_append.mp hy with z | z
    · exact g x (I.closed y z x hx)
    · have : y = n := by simpa using z
      subst this; exact .inr (List.mem_append_right _ hx)
  · refine List.nodup_append.mpr ⟨I.nd, by simp, fun a ha b hb z => ?_⟩
    have : b = n := by simpa using hb
    subst this; subst z; exact hn ha
theorem ReI.done {s : Str} {found : List Str} (I : ReI W s found []) (x : Str) : x ∈ found ↔ Rch W s x := by
  constructor
  · exact fun h => I.sound x (.inl h)
  · intro h
    induction h with
    | one h => exact (I.start _ h).elim id fun z => by cases z
    | step _ hx ih => exact (I.closed _ ih _ hx).elim id fun z => by cases z
/-- all that is waited for lies in U; no name waits for more than M -/
structure Small (W : Str → List Str) (U : List Str) (M : Nat) : Prop where
  sub : ∀ n, ∀ x ∈ W n, x ∈ U
  len : ∀ n, (W n).length ≤ M
theorem Rch.mem {U : List Str} {M : Nat} (b : Small W U M) {s x : Str} (h : Rch W s x) : x ∈ U := by
  cases h with
  | one h => exact b.sub _ _ h
  | step _ h => exact b.sub _ _ h
def reM (U : List Str) (M : Nat) (found q : List Str) : Nat := (U.length - found.length) * (M + 1) + q.length
theorem reM_old {U : List Str} {M : Nat} {found q : List Str} (h : q ≠ []) : reM U M found q.dropLast < reM U M found q := by
  unfold reM
  have := List.length_pos_iff.mpr h
  rw [List.length_dropLast]; omega
theorem reM_new {U : List Str} {M : Nat} (b : Small W U M) {s n : Str} {found q : List Str} (I : ReI W s found q) (h : q[q.length - 1]? = some n) (hn : n ∉ found) : reM U M (found ++ [n]) (q.dropLast ++ W n) < reM U M found q := by
  have I2 := I.new h hn
  have h1 : (found ++ [n]).length ≤ U.length := nodup_le I2.nd fun x hx => (I2.sound x (.inl hx)).mem b
  have h2 := b.len n
  have hq : 0 < q.length := by
    cases q with
    | nil => cases h
    | cons _ _ => simp
  unfold reM
  simp only [List.length_append, List.length_dropLast, List.length_cons, List.length_nil, Nat.zero_add] at h1 ⊢
  have e : U.length - found.length = (U.length - (found.length + 1)) + 1 := by omega
  rw [e, Nat.add_mul]; omega
theorem reM_first (U : List Str) {M : Nat} (b : Small W U M) (s : Str) : reM U M [] (W s) ≤ (U.length + 1) * (M + 1) := by
  unfold reM
  have := b.len s
  rw [List.length_nil, Nat.sub_zero, Nat.add_mul]; omega

/-! ### knots -/
open Classical in
noncomputable def knotF (W : Str → List Str) (ks : List Str) (n : Str) : List Str := sortS (ks.filter fun x => decide (Rch W n x ∧ Rch W x n))
open Classical in
noncomputable def stepK (W : Str → List Str) (ks : List Str) (F : List (List Str)) (n : Str) : List (List Str) := if Rch W n n ∧ ∀ k ∈ F, n ∉ k then F ++ [knotF W ks n] else F
noncomputable def knotsF (W : Str → List Str) (ks : List Str) (ns : List Str) : List (List Str) := ns.foldl (stepK W ks) []
variable {ks : List Str}
theorem mem_knotF {n x : Str} : x ∈ knotF W ks n ↔ x ∈ ks ∧ Rch W n x ∧ Rch W x n := by
  unfold knotF
  rw [mem_sortS, List.mem_filter]; simp
theorem knotF_congr {m n : Str} (h : Rch W m n) (h2 : Rch W n m) : knotF W ks n = knotF W ks m := by
  unfold knotF
  congr 2
  funext x
  have : (Rch W n x ∧ Rch W x n) ↔ (Rch W m x ∧ Rch W x m) := ⟨fun ⟨a, b⟩ => ⟨h.trans a, b.trans h2⟩, fun ⟨a, b⟩ => ⟨h2.trans a, b.trans h⟩⟩
  simp [this]
/-- a list with just these members, sorted -/
theorem knotF_of {n : Str} {xs ys : List Str} (hk : ks.Nodup) (nd : xs.Nodup) (hm : ∀ x, x ∈ xs ↔ x ∈ ks ∧ Rch W n x ∧ Rch W x n) (p : ys.Perm xs) (hs : sortedS ys = true) : ys = knotF W ks n := by
  unfold knotF
  refine sortS_of (p.trans (perm_of_mem nd (hk.filter _) fun x => ?_)) hs
  rw [hm, List.mem_filter]; simp
theorem knotsF_snoc (ns : List Str) (n : Str) : knotsF W ks (ns ++ [n]) = stepK W ks (knotsF W ks ns) n := by unfold knotsF; rw [List.foldl_append]; rfl
theorem knotsF_mem : ∀ (ns : List Str) (k : List Str), k ∈ knotsF W ks ns → ∃ m ∈ ns, Rch W m m ∧ k = knotF W ks m := by
  refine snoc_ind (fun k h => by cases h) ?_
  · intro ns n ih k h
    rw [knotsF_snoc] at h
    unfold stepK at h
    split at h
    · rename_i c
      rcases List.mem_append.mp h with z | z
      · obtain ⟨m, h1, h2⟩ := ih _ z; exact ⟨m, List.mem_append_left _ h1, h2⟩
      · have : k = knotF W ks n := by simpa using z
        exact ⟨n, by simp, c.1, this⟩
    · obtain ⟨m, h1, h2⟩ := ih _ h; exact ⟨m, List.mem_append_left _ h1, h2⟩
theorem placed_iff {ns : List Str} {n : Str} (hn : n ∈ ks) (h : Rch W n n) : (∃ k ∈ knotsF W ks ns, n ∈ k) ↔ knotF W ks n ∈ knotsF W ks ns := by
  constructor
  · rintro ⟨k, h1, h2⟩
    obtain ⟨m, _, _, e⟩ := knotsF_mem _ _ h1
    subst e
    have z := mem_knotF.mp h2
    rw [knotF_congr z.2.1 z.2.2]
    exact h1
  · exact fun z => ⟨_, z, mem_knotF.mpr ⟨hn, h, h⟩⟩
theorem knotsF_len : ∀ (ns : List Str), (knotsF W ks ns).length ≤ ns.length := by
  refine snoc_ind (Nat.le_refl _) ?_
  · intro ns n ih
    rw [knotsF_snoc, List.length_append]
    unfold stepK
    split
    · rw [List.length_append]; simp; exact ih
    · simp; omega
end
end WL

set_option Elab.async false
set_option linter.all false
set_option maxRecDepth 100000
set_option maxHeartbeats 4000000
/-! K11N: rings: the least by layers and greedily, against all of them. -/
namespace WL
open PySem PySem.Spec PyProof.Rows L2

/-- first difference decides -/
def llt : List Str → List Str → Prop
  | [], [] => False
  | [], _ :: _ => True
  | _ :: _, [] => False
  | x :: xs, y :: ys => (x = y ∧ llt xs ys) ∨ slt x y
theorem llt_irrefl : ∀ xs, ¬ llt xs xs
  | [] => id
  | x :: xs => fun h => h.elim (fun h => llt_irrefl xs h.2) (slt_irrefl x)
theorem llt_tri : ∀ xs ys, xs = ys ∨ llt xs ys ∨ llt ys xs
  | [], [] => .inl rfl
  | [], _ :: _ => .inr (.inl trivial)
  | _ :: _, [] => .inr (.inr trivial)
  | x :: xs, y :: ys => by
    rcases slt_tri x y with e | e | e
    · subst e
      rcases llt_tri xs ys with e | e | e
      · exact .inl (by rw [e])
      · exact .inr (.inl (.inl ⟨rfl, e⟩))
      · exact .inr (.inr (.inl ⟨rfl, e⟩))
    · exact .inr (.inl (.inr e))
    · exact .inr (.inr (.inr e))
/-- fewer, or as many and less -/
def rlt (a b : List Str) : Prop := a.length < b.length ∨ (a.length = b.length ∧ llt a b)
theorem rlt_anti {a b : List Str} (h : ¬ rlt a b) (h2 : ¬ rlt b a) : a = b := by
  unfold rlt at h h2
  rcases llt_tri a b with e | e | e
  · exact e
  · exact absurd (Or.inr ⟨by omega, e⟩) h
  · exact absurd (Or.inr ⟨by omega, e⟩) h2

section
variable (W : Str → List Str) (I : List Str) (s : Str)
def Above (x : Str) : Prop := x ∈ I ∧ slt s x
inductive Way : Nat → Str → Prop
  | one {x} (a : Above I s x) (h : s ∈ W x) : Way 1 x
  | step {k x y} (a : Above I s x) (h : y ∈ W x) (t : Way k y) : Way (k + 1) x
def Least (k : Nat) (x : Str) : Prop := Way W I s k x ∧ ∀ j, Way W I s j x → k ≤ j
/-- an edge from each to the next, from the last to s -/
def Ch : Str → List Str → Prop
  | x, [] => s ∈ W x
  | x, y :: p => y ∈ W x ∧ Ch y p
def Ring (r : List Str) : Prop := ∃ p, r = s :: p ∧ Ch W s s p ∧ (∀ x ∈ p, Above I s x) ∧ p.Nodup
inductive Gdy : Str → Nat → List Str → Prop
  | nil {x} : Gdy x 0 []
  | cons {x l y p} (h : y ∈ W x) (d : Least W I s (l + 1) y) (m : ∀ z ∈ W x, Least W I s (l + 1) z → ¬ slt z y) (t : Gdy y l p) : Gdy x (l + 1) (y :: p)
end
section
variable {W : Str → List Str} {I : List Str} {s : Str}
theorem Way.above {k : Nat} {x : Str} (h : Way W I s k x) : Above I s x := by cases h <;> assumption
theorem Way.pos {k : Nat} {x : Str} (h : Way W I s k x) : 0 < k := by cases h <;> omega
theorem Above.ne {x : Str} (h : Above I s x) : x ≠ s := fun z => by subst z; exact slt_irrefl _ h.2
theorem Way.least {k : Nat} {x : Str} (h : Way W I s k x) : ∃ j, j ≤ k ∧ Least W I s j x := by
  induction k using Nat.strongRecOn with
  | ind k ih =>
    by_cases hl : ∃ j, j < k ∧ Way W I s j x
    · obtain ⟨j, hj, w⟩ := hl
      obtain ⟨i, hi, l⟩ := ih j hj w
      exact ⟨i, by omega, l⟩
    · refine ⟨k, Nat.le_refl _, h, fun j w => ?_⟩
      by_cases hjk : j < k
      · exact absurd ⟨j, hjk, w⟩ hl
      · omega
theorem Least.uniq {j k : Nat} {x : Str} (h : Least W I s j x) (h2 : Least W I s k x) : j = k := by
  have := h.2 k h2.1
  have := h2.2 j h.1
  omega
theorem Least.down {k : Nat} {x : Str} (h : Least W I s (k + 1) x) (hk : 0 < k) : ∃ y ∈ W x, Least W I s k y := by
  obtain ⟨w, l⟩ := h
  cases w with
  | one a h => omega
  | step a h t =>
    refine ⟨_, h, t, fun j w => ?_⟩
    have := l (j + 1) (.step a h w)
    omega
theorem Least.start {x : Str} (h : Least W I s 1 x) : s ∈ W x := by
  obtain ⟨w, l⟩ := h
  cases w with
  | one a h => exact h
  | step a h t => exact absurd t.pos (by omega)
theorem least_of_down {m : Nat} (hm : 0 < m) (hn : ∀ x, ¬ Least W I s m x) : ∀ k x, m ≤ k → ¬ Least W I s k x := by
  intro k
  induction k with
  | zero => intro x h; omega
  | succ k ih =>
    intro x h l
    by_cases e : m = k + 1
    · subst e; exact hn x l
    · obtain ⟨y, _, z⟩ := l.down (by omega)
      exact ih y (by omega) z

/-! the layers -/
/-- those at just so many steps -/
def Lay (W : Str → List Str) (I : List Str) (s : Str) (k : Nat) (x : Str) : Prop := (k = 0 ∧ x = s) ∨ (0 < k ∧ Least W I s k x)
/-- the steps told so far -/
def Told (W : Str → List Str) (I : List Str) (s : Str) (m : Nat) (st : List (Str × Nat)) : Prop := (∀ x k, st.lookup x = some k ↔ Lay W I s k x ∧ k ≤ m) ∧ (st.map (·.1)).Nodup
theorem fresh_iff {m : Nat} {st : List (Str × Nat)} {layer : List Str} (t : Told W I s m st) (hl : ∀ x, x ∈ layer ↔ Lay W I s m x) (x : Str) :
    (x ∈ I ∧ slt s x ∧ st.lookup x = none ∧ ∃ o ∈ W x, o ∈ layer) ↔ Least W I s (m + 1) x := by
  constructor
  · rintro ⟨h1, h2, h3, o, h4, h5⟩
    have ab : Above I s x := ⟨h1, h2⟩
    have w : Way W I s (m + 1) x := by
      rcases (hl o).mp h5 with ⟨e1, e2⟩ | ⟨e1, e2⟩
      · subst e1; subst e2; exact .one ab h4
      · exact .step ab h4 e2.1
    obtain ⟨j, hj, l⟩ := w.least
    by_cases e : j = m + 1
    · subst e; exact l
    · have := (t.1 x j).mpr ⟨.inr ⟨l.1.pos, l⟩, by omega⟩
      rw [h3] at this; cases this
  · intro l
    have ab := l.1.above
    refine ⟨ab.1, ab.2, ?_, ?_⟩
    · cases e : st.lookup x with
      | none => rfl
      | some k =>
        obtain ⟨z | z, hk⟩ := (t.1 x k).mp e
        · exact absurd z.2 ab.ne
        · have := z.2.uniq l
          omega
    · by_cases e : m = 0
      · subst e; exact ⟨s, l.start, (hl s).mpr (.inl ⟨rfl, rfl⟩)⟩
      · obtain ⟨y, h1, h2⟩ := l.down (by omega)
        exact ⟨y, h1, (hl y).mpr (.inr ⟨by omega, h2⟩)⟩
theorem told_first : Told W I s 0 [(s, 0)] := by
  refine ⟨fun x k => ?_, by simp⟩
  rw [List.lookup_cons]
  by_cases e : x = s
  · subst e
    simp
    constructor
    · intro z; exact ⟨.inl ⟨z.symm, rfl⟩, by omega⟩
    · rintro ⟨_, z⟩; omega
  · have : (x == s) = false := by simp [e]
    rw [this]
    simp
    rintro (z | z)
    · exact absurd z.2 e
    · omega
theorem lookup_append_none {κ ν : Type} [BEq κ] {x : κ} : ∀ {a b : List (κ × ν)}, a.lookup x = none → (a ++ b).lookup x = b.lookup x
  | [], _, _ => rfl
  | (k, v) :: a, b, h => by
    rw [List.lookup_cons] at h
    rw [List.cons_append, List.lookup_cons]
    split at h
    · cases h
    · exact lookup_append_none h
theorem lookup_append_some {κ ν : Type} [BEq κ] {x : κ} {v : ν} : ∀ {a b : List (κ × ν)}, a.lookup x = some v → (a ++ b).lookup x = some v
  | [], _, h => by cases h
  | (k, w) :: a, b, h => by
    rw [List.lookup_cons] at h
    rw [List.cons_append, List.lookup_cons]
    split at h
    · exact h
    · exact lookup_append_some h
theorem lookup_const {ν : Type} {x : Str} {v : ν} : ∀ {xs : List Str}, (xs.map fun y => (y, v)).lookup x = if x ∈ xs then some v else none
  | [] => rfl
  | y :: ys => by
    rw [List.map_cons, List.lookup_cons]
    by_cases e : x = y
    · subst e; simp
    · have : (x == y) = false := by simp [e]
      rw [this, lookup_const (xs := ys)]
      simp [e]
theorem lookup_none_iff {ν : Type} {x : Str} : ∀ {a : List (Str × ν)}, a.lookup x = none ↔ x ∉ a.map (·.1)
  | [] => by simp
  | (k, v) :: a => by
    rw [List.lookup_cons]
    by_cases e : x = k
    · subst e; simp
    · have : (x == k) = false := by simp [e]
      rw [this, lookup_none_iff (a := a)]
      simp [e]
theorem told_next {m : Nat} {st : List (Str × Nat)} {fresh : List Str} (t : Told W I s m st) (hf : ∀ x, x ∈ fresh ↔ Least W I s (m + 1) x) (nd : fresh.Nodup) : Told W I s (m + 1) (st ++ fresh.map fun y => (y, m + 1)) := by
  refine ⟨fun x k => ?_, ?_⟩
  · cases e : st.lookup x with
    | some j =>
      rw [lookup_append_some e]
      obtain ⟨a, b⟩ := (t.1 x j).mp e
      constructor
      · intro z; cases z; exact ⟨a, by omega⟩
      · rintro ⟨c, d⟩
        by_cases hk : k ≤ m
        · rw [← (t.1 x k).mpr ⟨c, hk⟩, e]
        · have e2 : k = m + 1 := by omega
          subst e2
          rcases c with c | c
          · omega
          · rcases a with a | a
            · exact absurd a.2 c.2.1.above.ne
            · have := a.2.uniq c.2
              omega
    | none =>
      rw [lookup_append_none e, lookup_const]
      constructor
      · intro z
        split at z
        · rename_i hx
          cases z
          exact ⟨.inr ⟨by omega, (hf x).mp hx⟩, Nat.le_refl _⟩
        · cases z
      · rintro ⟨c, d⟩
        by_cases hk : k ≤ m
        · have := (t.1 x k).mpr ⟨c, hk⟩
          rw [e] at this; cases this
        · have e2 : k = m + 1 := by omega
          subst e2
          rcases c with c | c
          · omega
          · rw [if_pos ((hf x).mpr c.2)]
  · rw [List.map_append, List.map_map]
    have e : (fresh.map ((·.1) ∘ fun y => (y, m + 1))) = fresh := by
      have : ((·.1) ∘ fun y : Str => (y, m + 1)) = id := rfl
      rw [this, List.map_id]
    rw [e]
    refine List.nodup_append.mpr ⟨t.2, nd, fun a ha b hb z => ?_⟩
    subst z
    have l := (hf a).mp hb
    cases e : st.lookup a with
    | none => exact lookup_none_iff.mp e ha
    | some k =>
      obtain ⟨z | z, hk⟩ := (t.1 a k).mp e
      · exact absurd z.2 l.1.above.ne
      · have := z.2.uniq l
        omega
theorem told_end {m : Nat} {st : List (Str × Nat)} (t : Told W I s m st) (hl : ∀ x, ¬ Lay W I s m x) (x : Str) (k : Nat) : st.lookup x = some k ↔ Lay W I s k x := by
  rw [t.1 x k]
  refine ⟨fun h => h.1, fun h => ⟨h, ?_⟩⟩
  by_cases hm : m = 0
  · subst hm; exact absurd (.inl ⟨rfl, rfl⟩) (hl s)
  · rcases h with h | h
    · omega
    · by_cases hk : k ≤ m
      · exact hk
      · exact absurd h.2 (least_of_down (by omega) (fun y z => hl y (.inr ⟨by omega, z⟩)) k x (by omega))
theorem told_len {m : Nat} {st : List (Str × Nat)} (t : Told W I s m st) : st.length ≤ I.length + 1 := by
  have h : (st.map (·.1)).length ≤ (s :: I).length := nodup_le t.2 fun x hx => by
    cases e : st.lookup x with
    | none => exact absurd hx (lookup_none_iff.mp e)
    | some k =>
      obtain ⟨z | z, hk⟩ := (t.1 x k).mp e
      · rw [z.2]; simp
      · exact List.mem_cons_of_mem _ z.2.1.above.1
  simpa using h

/-! the greedy way -/
theorem Gdy.len {x : Str} {l : Nat} {p : List Str} (h : Gdy W I s x l p) : p.length = l := by
  induction h with
  | nil => rfl
  | cons _ _ _ _ ih => simp [ih]
theorem Gdy.mem {x : Str} {l : Nat} {p : List Str} (h : Gdy W I s x l p) : ∀ y ∈ p, ∃ k, k ≤ l ∧ Least W I s k y := by
  induction h with
  | nil => intro y hy; cases hy
  | cons h d m t ih =>
    intro y hy
    rcases List.mem_cons.mp hy with e | hy
    · subst e; exact ⟨_, Nat.le_refl _, d⟩
    · obtain ⟨k, h1, h2⟩ := ih y hy
      exact ⟨k, by omega, h2⟩
theorem Gdy.nodup {x : Str} {l : Nat} {p : List Str} (h : Gdy W I s x l p) : p.Nodup := by
  induction h with
  | nil => exact .nil
  | cons h d m t ih =>
    refine List.nodup_cons.mpr ⟨fun z => ?_, ih⟩
    obtain ⟨k, h1, h2⟩ := t.mem _ z
    have := h2.uniq d
    omega
theorem Gdy.ch {x : Str} {l : Nat} {p : List Str} (h : Gdy W I s x l p) (h0 : l = 0 → s ∈ W x) : Ch W s x p := by
  induction h with
  | nil => exact h0 rfl
  | cons h d m t ih => exact ⟨h, ih fun e => by subst e; exact d.start⟩
theorem Gdy.ring {m : Nat} {p : List Str} (h : Gdy W I s s m p) (hm : 0 < m) : Ring W I s (s :: p) :=
  ⟨p, rfl, h.ch fun e => by omega, fun x hx => let ⟨_, _, l⟩ := h.mem x hx; l.1.above, h.nodup⟩
theorem ch_way : ∀ {x : Str} {p : List Str}, Above I s x → Ch W s x p → (∀ y ∈ p, Above I s y) → Way W I s (p.length + 1) x
  | x, [], a, h, _ => .one a h
  | x, y :: p, a, h, hp => .step a h.1 (ch_way (hp y (by simp)) h.2 fun z hz => hp z (List.mem_cons_of_mem _ hz))
theorem Gdy.least : ∀ {x : Str} {l : Nat} {p q : List Str}, Gdy W I s x l p → Ch W s x q → q.length = l → (∀ y ∈ q, Above I s y) → (∀ z ∈ W x, ∀ k, Least W I s k z → l ≤ k) → ¬ llt q p
  | _, _, _, [], .nil, _, _, _, _ => id
  | _, _, _, _ :: _, .nil, _, e, _, _ => by cases e
  | _, _, _, [], .cons .., _, e, _, _ => by cases e
  | x, l + 1, y :: p, z :: q, .cons h d m t, hc, e, ha, hl => by
    have e' : q.length = l := by simpa using e
    have wz := ch_way (ha z (by simp)) hc.2 fun u hu => ha u (List.mem_cons_of_mem _ hu)
    rw [e'] at wz
    obtain ⟨k, hk, lz⟩ := wz.least
    have := hl z hc.1 k lz
    have ek : k = l + 1 := by omega
    subst ek
    rintro (⟨e1, h1⟩ | h1)
    · subst e1
      refine Gdy.least t hc.2 e' (fun u hu => ha u (List.mem_cons_of_mem _ hu)) (fun u hu k lk => ?_) h1
      have := d.2 (k + 1) (.step d.1.above hu lk.1)
      omega
    · exact m z hc.1 lz h1
/-- the least ring of those that begin with s -/
def Best1 (W : Str → List Str) (I : List Str) (s : Str) : Option (List Str) → Prop
  | none => ∀ r, ¬ Ring W I s r
  | some r => Ring W I s r ∧ ∀ r', Ring W I s r' → ¬ rlt r' r
theorem best_self (h : s ∈ W s) : Best1 W I s (some [s]) := by
  refine ⟨⟨[], rfl, h, fun _ z => (by cases z), .nil⟩, ?_⟩
  rintro r' ⟨p, rfl, _⟩ (z | z)
  · simp at z
  · have e : p = [] := List.length_eq_zero_iff.mp (by simpa using z.1)
    subst e
    exact llt_irrefl _ z.2
theorem ring_way {r : List Str} (hs : s ∉ W s) (h : Ring W I s r) : ∃ y q, r = s :: y :: q ∧ y ∈ W s ∧ Ch W s y q ∧ (∀ x ∈ y :: q, Above I s x) ∧ Way W I s (q.length + 1) y := by
  obtain ⟨p, rfl, hc, ha, nd⟩ := h
  cases p with
  | nil => exact absurd hc hs
  | cons y q => exact ⟨y, q, rfl, hc.1, hc.2, ha, ch_way (ha y (by simp)) hc.2 fun u hu => ha u (List.mem_cons_of_mem _ hu)⟩
theorem best_none (hs : s ∉ W s) (h : ∀ y ∈ W s, ∀ k, ¬ Least W I s k y) : Best1 W I s none := fun r hr => by
  obtain ⟨y, q, _, hy, _, _, w⟩ := ring_way hs hr
  obtain ⟨k, _, l⟩ := w.least
  exact h y hy k l
theorem best_some {m : Nat} {p : List Str} (hs : s ∉ W s) (hm : 0 < m) (h : ∀ y ∈ W s, ∀ k, Least W I s k y → m ≤ k) (g : Gdy W I s s m p) : Best1 W I s (some (s :: p)) := by
  refine ⟨g.ring hm, fun r hr => ?_⟩
  obtain ⟨y, q, rfl, hy, hc, ha, w⟩ := ring_way hs hr
  obtain ⟨k, hk, l⟩ := w.least
  have h1 := h y hy k l
  have h2 := g.len
  rintro (z | z)
  · simp at z; omega
  · have e : (y :: q).length = m := by have := z.1; simp at this ⊢; omega
    rcases z.2 with z2 | z2
    · exact g.least (q := y :: q) ⟨hy, hc⟩ e ha h z2.2
    · exact slt_irrefl _ z2

/-! over all that may come first -/
def Best (W : Str → List Str) (I : List Str) (pre : List Str) : Option (List Str) → Prop
  | none => ∀ s ∈ pre, ∀ r, ¬ Ring W I s r
  | some r => (∃ s ∈ pre, Ring W I s r) ∧ ∀ s ∈ pre, ∀ r', Ring W I s r' → ¬ rlt r' r
theorem Best.uniq {pre pre' : List Str} (hp : ∀ x, x ∈ pre ↔ x ∈ pre') : ∀ {a b : Option (List Str)}, Best W I pre a → Best W I pre' b → a = b
  | none, none, _, _ => rfl
  | none, some r, h, ⟨⟨s, h1, h2⟩, _⟩ => absurd h2 (h s ((hp s).mpr h1) r)
  | some r, none, ⟨⟨s, h1, h2⟩, _⟩, h => absurd h2 (h s ((hp s).mp h1) r)
  | some r, some r', ⟨⟨s, h1, h2⟩, h3⟩, ⟨⟨s', h1', h2'⟩, h3'⟩ => by rw [rlt_anti (h3' s ((hp s).mp h1) r h2) (h3 s' ((hp s').mpr h1') r' h2')]
theorem Ring.head {r : List Str} (h : Ring W I s r) : ∃ p, r = s :: p := let ⟨p, e, _⟩ := h; ⟨p, e⟩
theorem best_nil : Best W I [] none := fun _ h => by cases h
theorem best_skip {pre : List Str} {b : Option (List Str)} (h : Best W I pre b) (h1 : Best1 W I s none) : Best W I (pre ++ [s]) b := by
  have g : ∀ x ∈ pre ++ [s], ∀ r, Ring W I x r → x ∈ pre := fun x hx r hr => by
    rcases List.mem_append.mp hx with z | z
    · exact z
    · have : x = s := by simpa using z
      subst this; exact absurd hr (h1 r)
  cases b with
  | none => exact fun x hx r hr => h x (g x hx r hr) r hr
  | some b => exact ⟨let ⟨x, h2, h3⟩ := h.1; ⟨x, List.mem_append_left _ h2, h3⟩, fun x hx r hr => h.2 x (g x hx r hr) r hr⟩
theorem best_first {pre : List Str} {r : List Str} (h : Best W I pre none) (h1 : Best1 W I s (some r)) : Best W I (pre ++ [s]) (some r) := by
  refine ⟨⟨s, by simp, h1.1⟩, fun x hx r' hr => ?_⟩
  rcases List.mem_append.mp hx with z | z
  · exact absurd hr (h x z r')
  · have : x = s := by simpa using z
    subst this; exact h1.2 r' hr
theorem best_less {pre : List Str} {r b : List Str} (h : Best W I pre (some b)) (h1 : Best1 W I s (some r)) (hl : r.length < b.length) : Best W I (pre ++ [s]) (some r) := by
  refine ⟨⟨s, by simp, h1.1⟩, fun x hx r' hr => ?_⟩
  rcases List.mem_append.mp hx with z | z
  · have := h.2 x z r' hr
    unfold rlt at this ⊢
    omega
  · have : x = s := by simpa using z
    subst this; exact h1.2 r' hr
theorem best_keep {pre : List Str} {r b : List Str} (h : Best W I pre (some b)) (h1 : Best1 W I s (some r)) (hl : ¬ r.length < b.length) (ha : ∀ x ∈ pre, slt x s) : Best W I (pre ++ [s]) (some b) := by
  refine ⟨let ⟨x, h2, h3⟩ := h.1; ⟨x, List.mem_append_left _ h2, h3⟩, fun x hx r' hr => ?_⟩
  rcases List.mem_append.mp hx with z | z
  · exact h.2 x z r' hr
  · have : x = s := by simpa using z
    subst this
    have h2 := h1.2 r' hr
    obtain ⟨y, hy, hb⟩ := h.1
    obtain ⟨p, rfl⟩ := hb.head
    obtain ⟨q, rfl⟩ := hr.head
    unfold rlt at h2 ⊢
    rintro (z | z)
    · omega
    · rcases z.2 with z2 | z2
      · have := ha y hy
        rw [z2.1] at this; exact slt_irrefl _ this
      · exact slt_asym (ha y hy) z2
end
end WL

set_option Elab.async false
set_option linter.all false
set_option maxRecDepth 100000
set_option maxHeartbeats 4000000
namespace WL
open PySem PySem.Spec PyProof.Rows L2
local macro_rules | `(tactic| walk_at "s") => `(tactic| first
  | ((with_reducible show vSeq _ _ _ _); refine u_seq ?_)
  | ((with_reducible show vSet _ _ _ _); refine u_set ?_)
  | ((with_reducible show kSet _ _ _ _); refine k_set rfl rfl ?_)
  | ((with_reducible show vRet _ _ _); refine u_ret ?_)
  | ((with_reducible show vIf _ _ _ _ _); refine u_if ?_)
  | ((with_reducible show vExpr _ _ _); refine u_expr ?_)
  | ((with_reducible show kExpr _ _ _); refine k_expr ?_)
  | ((with_reducible show vRetN _ _); refine u_retN ?_)
  | ((with_reducible show vAsg _ _ _ _); refine u_asg ?_)
  | ((with_reducible show kAsg _ _ _ _); refine k_asg rfl ?_)
  | ((with_reducible show vNext _ _); refine u_next ?_)
  | ((with_reducible show vBreak _ _); refine u_break ?_)
  | ((with_reducible show vCont _ _); refine u_cont ?_)
  | ((with_reducible show kIf _ _ _ _ _); (first | refine k_ifT ?_ | refine k_ifF ?_))
  | ((with_reducible show vVal _ _ _); refine u_val ?_)
  | ((with_reducible show kVal _ _ _); refine k_val ?_)
  | ((with_reducible show vPk _ _ _); refine u_pk rfl rfl ?_)
  | ((with_reducible show vC _ _ _); refine u_c ?_)
  | ((with_reducible show vVar _ _ _); (first | refine u_var rfl ?_ | refine u_varL rfl ?_ | refine u_varD rfl ?_ | refine u_varE rfl ?_))
  | ((with_reducible show vMv _ _ _); (first | refine u_mv rfl ?_ | refine u_mvO rfl ?_))
  | ((with_reducible show vBin _ _ _ _ _); refine u_bin ?_)
  | ((with_reducible show kBin1 _ _ _ _ _); refine k_bin1 ?_)
  | ((with_reducible show kBin2 _ _ _ _ _); refine k_bin2 rfl rfl ?_)
  | ((with_reducible show vUn _ _ _ _); refine u_un ?_)
  | ((with_reducible show kUn _ _ _ _); refine k_un rfl ?_)
  | ((with_reducible show vCons _ _ _ _); refine u_cons ?_)
  | ((with_reducible show kCons1 _ _ _ _); refine k_cons1 ?_)
  | ((with_reducible show vNil _ _); refine u_nil ?_)
  | ((with_reducible show kCons2 _ _ _ _); refine k_cons2 ?_)
  | ((with_reducible show vPrim _ _ _ _); refine u_prim ?_)
  | ((with_reducible show kPrim _ _ _ _); (first | refine k_prim1 rfl ?_ | refine k_prim2 rfl rfl ?_))
  | ((with_reducible show kRet _ _ _); (first | refine k_retV ?_ | refine k_retL ?_ | refine k_retT ?_ | refine k_retD ?_))
  | ((with_reducible show vSh _ _ _); refine u_sh ?_)
  | ((with_reducible show kSh _ _ _); (first | refine k_sh ?_ | refine k_shL ?_ | refine k_shD ?_))
  | ((with_reducible show vT _ _ _); refine u_t ?_)
  | ((with_reducible show kT _ _ _); refine k_t ?_)
  | ((with_reducible show vTru _ _ _); refine u_tru ?_)
  | ((with_reducible show kTru _ _ _); refine k_tru rfl rfl ?_)
  | ((with_reducible show vAnd _ _ _ _); refine u_and ?_)
  | ((with_reducible show kAnd _ _ _ _); (first | refine k_andT ?_ | refine k_andF ?_))
  | ((with_reducible show vOr _ _ _ _); refine u_or ?_)
  | ((with_reducible show kOr _ _ _ _); (first | refine k_orT ?_ | refine k_orF ?_))
  | ((with_reducible show vNot _ _ _); refine u_not ?_)
  | ((with_reducible show kNot _ _ _); refine k_not ?_)
  | ((with_reducible show vAndV _ _ _ _); refine u_andV ?_)
  | ((with_reducible show kAndV _ _ _ _); (first | refine k_andVT ?_ | refine k_andVF ?_))
  | ((with_reducible show kOrV _ _ _ _); (first | refine k_orVT ?_ | refine k_orVF ?_))
  | ((with_reducible show vOrV _ _ _ _); refine u_orV ?_)
  | ((with_reducible show vNotV _ _ _); refine u_notV ?_)
  | ((with_reducible show kNotV _ _ _); refine k_notV ?_)
  | ((with_reducible show vIfE _ _ _ _ _); refine u_ifE ?_)
  | ((with_reducible show kIfE _ _ _ _ _); (first | refine k_ifET ?_ | refine k_ifEF ?_))
  | ((with_reducible show vLst _ _ _); refine u_lst ?_)
  | ((with_reducible show kLst _ _ _); refine k_lst rfl (by simp only [List.length_cons, List.length_nil]; decide) ?_)
  | ((with_reducible show vTup _ _ _); refine u_tup ?_)
  | ((with_reducible show kTup _ _ _); refine k_tup rfl (by simp only [List.length_cons, List.length_nil]; decide) ?_)
  | ((with_reducible show vNewD _ _); refine u_newD ?_)
  | ((with_reducible show vSl _ _ _ _ _); refine u_sl ?_)
  | ((with_reducible show kSl0 _ _ _ _ _); refine k_sl0 ?_)
  | ((with_reducible show kSl1 _ _ _ _ _); refine k_sl1 ?_)
  | ((with_reducible show kSl2 _ _ _ _ _); refine k_sl2 rfl ?_)
  | ((with_reducible show vNoPart _ _); refine u_noPart ?_)
  | ((with_reducible show vPart _ _ _); refine u_part ?_)
  | ((with_reducible show kPart _ _ _); refine k_part ?_)
  | ((with_reducible show vApp _ _ _ _); refine u_app rfl ?_)
  | ((with_reducible show vPopAt _ _ _ _); refine u_popAt rfl ?_)
  | ((with_reducible show vExt _ _ _ _); refine u_ext rfl ?_)
  | ((with_reducible show vM1 _ _ _ _ _); refine u_m1 ?_)
  | ((with_reducible show kM1a _ _ _ _ _); refine k_m1a rfl ?_)
  | ((with_reducible show kM1b _ _ _ _ _); refine k_m1b rfl rfl ?_)
  | ((with_reducible show vGet2 _ _ _ _ _); refine u_get2 ?_)
  | ((with_reducible show kGet1 _ _ _ _ _); refine k_get1 rfl ?_)
  | ((with_reducible show kGet2 _ _ _ _ _); refine k_get2 ?_)
  | ((with_reducible show vSetL _ _ _ _ _); refine u_setL ?_)
  | ((with_reducible show kSetL1 _ _ _ _ _); refine k_setL1 rfl ?_)
  | ((with_reducible show kSetL2 _ _ _ _ _); (first | refine k_setL2j 0 rfl rfl (by simp) rfl ?_ | refine k_setL2j 1 rfl rfl (by simp) rfl ?_ | refine k_setL2j 2 rfl rfl (by simp) rfl ?_))
  | ((with_reducible show vPutD _ _ _ _ _); refine u_putD ?_)
  | ((with_reducible show kPutD1 _ _ _ _ _); refine k_putD1 rfl ?_)
  | ((with_reducible show vAugL _ _ _ _ _ _); refine u_augL rfl ?_)
  | ((with_reducible show kAugL1 _ _ _ _ _ _); (first | refine k_augL1j 0 rfl rfl rfl ?_ | refine k_augL1j 1 rfl rfl rfl ?_ | refine k_augL1j 2 rfl rfl rfl ?_))
  | ((with_reducible show kAugL2 _ _ _ _ _ _ _); refine k_augL2j rfl (by simp) ?_)
  | ((with_reducible show vAug _ _ _ _ _); refine u_aug rfl ?_)
  | ((with_reducible show kAug _ _ _ _ _ _); (first | refine k_augAdd rfl ?_ | refine k_augSub rfl ?_))
  | ((with_reducible show vCall _ _ _ _); refine u_call ?_)
  | ((with_reducible show gN _ _ _ _); refine u_gN rfl rfl ?_)
  | ((with_reducible show gT _ _ _ _); refine u_gT rfl ?_)
  | ((with_reducible show gL _ _ _ _); refine u_gL rfl rfl ?_)
  | ((with_reducible show gTs _ _ _ _); (first | refine u_gTs0 ?_ | refine u_gTs ?_))
  | ((with_reducible show vItL _ _ _); refine u_itL ?_)
  | ((with_reducible show kItL _ _ _); refine k_itL rfl rfl ?_)
  | ((with_reducible show vItT _ _ _); refine u_itT ?_)
  | ((with_reducible show kItT _ _ _); refine k_itT rfl rfl ?_)
  | ((with_reducible show vItR1 _ _ _); refine u_itR1 ?_)
  | ((with_reducible show vItR2 _ _ _); refine u_itR2 ?_)
  | ((with_reducible show vFor _ _ _ _ _); refine u_for ?_)
  | ((with_reducible show vLc _ _ _ _ _ _ _); refine u_lc ?_)
  | ((with_reducible show vLcK _ _ _ _ _ _ _); refine u_lcK rfl ?_)
  | ((with_reducible show vYes _ _); refine u_yes ?_)
  | ((with_reducible show kLcT _ _ _ _ _ _); refine k_lcTT ?_)
  | ((with_reducible show addP _ _); refine p_addI ?_)
  | ((with_reducible show subP _ _); refine p_subI ?_)
  | ((with_reducible show mulP _ _); (first | refine p_mulI (.inl (.inl (by omega))) ?_ | refine p_mulI (.inl (.inr (by omega))) ?_))
  | ((with_reducible show modP _ _); refine p_modI (by omega) ?_)
  | ((with_reducible show divP _ _); refine p_divI (.inl (by constructor <;> omega)) ?_)
  | ((with_reducible show negP _ _); refine p_negI ?_)
  | ((with_reducible show ltP _ _); refine p_ltI ?_)
  | ((with_reducible show leP _ _); refine p_leI ?_)
  | ((with_reducible show gtP _ _); refine p_gtI ?_)
  | ((with_reducible show geP _ _); refine p_geI ?_)
  | ((with_reducible show eqP _ _); (first | refine p_eqI ?_ | refine p_eqS ?_ | refine p_eqB ?_ | refine p_eqN ?_))
  | ((with_reducible show neP _ _); (first | refine p_neI ?_ | refine p_neS ?_ | refine p_neB ?_))
  | ((with_reducible show isNP _ _); (first | refine p_isNn ?_ | refine p_isNi ?_ | refine p_isNs ?_ | refine p_isNb ?_ | refine p_isNl ?_ | refine p_isNt ?_ | refine p_isNd ?_))
  | ((with_reducible show notNP _ _); (first | refine p_notNn ?_ | refine p_notNi ?_ | refine p_notNs ?_ | refine p_notNb ?_ | refine p_notNl ?_ | refine p_notNt ?_ | refine p_notNd ?_))
  | ((with_reducible show isiP _ _); refine p_isi rfl rfl ?_)
  | ((with_reducible show isiTP _ _); refine p_isiT rfl rfl ?_)
  | ((with_reducible show reprP _ _); (first | refine p_reprB ?_ | refine p_reprN ?_))
  | ((with_reducible show lenP _ _); (first | refine p_lenL ?_ | refine p_lenF ?_ | refine p_lenT ?_ | refine p_lenD ?_))
  | ((with_reducible show absP _ _); refine p_absI ?_)
  | ((with_reducible show intP _ _); refine p_intI ?_)
  | ((with_reducible show listP _ _); (first | refine p_listL ?_ | refine p_listF ?_ | refine p_listD ?_))
  | ((with_reducible show ixP _ _); (first | refine p_ixLj 0 rfl rfl ?_ | refine p_ixLj 1 rfl rfl ?_ | refine p_ixLj 2 rfl rfl ?_ | refine p_ixLj 3 rfl rfl ?_ | refine p_ixTj 0 rfl rfl ?_ | refine p_ixTj 1 rfl rfl ?_ | refine p_ixTj 2 rfl rfl ?_ | refine p_ixTj 3 rfl rfl ?_))
  | ((with_reducible show inP _ _ _); (first | refine p_inS0 ?_ | refine p_inS1 ?_ | refine p_inI0 ?_ | refine p_inI1 ?_ | refine p_inD0 rfl ?_ | refine p_inD1 rfl ?_))
  | ((with_reducible show slP _ _ _ _); (first | refine p_slL ?_ | refine p_slF ?_))
  | ((with_reducible show sumP _ _); refine p_sum ?_)
  | ((with_reducible show maxP _ _); refine p_max2 ?_)
  | ((with_reducible show minP _ _); refine p_min2 ?_)
  | ((with_reducible show allP _ _); refine p_all ?_)
  | ((with_reducible show anyP _ _); refine p_any ?_))
local macro_rules | `(tactic| walk_at "ss") => `(tactic| repeat walk_at "s")
local macro_rules | `(tactic| walk_at "back") => `(tactic| refine k_back ?_ (by dsimp only [takeBack, backS, List.set, List.getElem?_cons_zero, List.getElem?_cons_succ]))
def v_reached_names : VS :=
  vSeq (vSet 2 (vNewD))
    (vSeq (vSet 3 (vPrim listP (vCons (vVal (vGet2 (vPk 0) (vVar 1) (vLst (vNil)))) (vNil))))
    (vSeq (vWhile (vT (vBin gtP (vVal (vPrim lenP (vCons (vPk 3) (vNil)))) (vVal (vC (.int 0))))) (vSeq (vSet 4 (vPop 3))
    (vIf (vT (vBin (inP true) (vPk 4) (vPk 2))) (vSeq (vPutD 2 (vVar 4) (vC (.bl true)))
    (vExpr (vExt 3 (vPrim listP (vCons (vVal (vGet2 (vPk 0) (vVar 4) (vLst (vNil)))) (vNil)))))) (vNext))))
    (vRet (vMv 2))))
def v_reached : VS :=
  vSeq (vSet 2 (vLst (vNil)))
    (vSeq (vSet 3 (vPrim listP (vCons (vVal (vGet2 (vPk 0) (vVar 1) (vLst (vNil)))) (vNil))))
    (vSeq (vWhile (vT (vBin gtP (vVal (vPrim lenP (vCons (vPk 3) (vNil)))) (vVal (vC (.int 0))))) (vSeq (vSet 4 (vPop 3))
    (vIf (vT (vBin (inP true) (vPk 4) (vPk 2))) (vSeq (vExpr (vApp 2 (vVar 4)))
    (vSet 3 (vBin addP (vPk 3) (vVal (vPrim listP (vCons (vVal (vGet2 (vPk 0) (vVar 4) (vLst (vNil)))) (vNil))))))) (vNext))))
    (vRet (vMv 2))))
/-! K11P: what the texts of k11 are told of: graphs of waits as data, gets, steps of primitives. -/
abbrev sL (ss : List Str) : D := .lst (ss.map D.str)
def encG (g : List (Str × List Str)) : D := .dct (g.map fun p => (Sum.inr p.1, sL p.2))
def getW (g : List (Str × List Str)) (n : Str) : List Str := (g.lookup n).getD []
def keysG (g : List (Str × List Str)) : List Str := g.map (·.1)
def dTrue (L : List Str) : List (Key × D) := L.map fun x => (Sum.inr x, .bl true)
theorem lookK_map {ν : Type} {f : ν → D} {n : Str} : ∀ {g : List (Str × ν)}, lookK (g.map fun p => ((Sum.inr p.1 : Key), f p.2)) (.inr n) = (g.lookup n).map f
  | [] => rfl
  | (k, v) :: g => by
    rw [List.map_cons, List.lookup_cons]
    have ih := lookK_map (f := f) (n := n) (g := g)
    unfold lookK at ih ⊢
    by_cases e : k = n
    · subst e; simp
    · have e2 : (n == k) = false := by simp [Ne.symm e]
      rw [e2, List.find?_cons_of_neg (by simp [e])]
      exact ih
theorem lookK_G {g : List (Str × List Str)} {n : Str} : lookK (g.map fun p => ((Sum.inr p.1 : Key), sL p.2)) (.inr n) = (g.lookup n).map sL := lookK_map
theorem lookK_true {L : List Str} {n : Str} : (lookK (dTrue L) (.inr n)).isSome = decide (n ∈ L) := by
  unfold dTrue
  induction L with
  | nil => rfl
  | cons a r ih =>
    unfold lookK at ih ⊢
    rw [List.map_cons]
    by_cases e : a = n
    · subst e; simp
    · rw [List.find?_cons_of_neg (by simp [e]), ih]
      simp [Ne.symm e]
structure GOk (g : List (Str × List Str)) : Prop where
  nd : (keysG g).Nodup
  len : g.length ≤ 40
  tx : ∀ p ∈ g, SText p.1 ∧ ∀ x ∈ p.2, SText x
  small : ∃ U : List Str, U.length ≤ 100 ∧ Small (getW g) U 100
section
variable {g : List (Str × List Str)} {i : Nat} {ρ : Rho} {tk : VE} {n : Str} {Q : VK0}
theorem argD_pk {s : Slot} (e : ρ[i]? = some s) : argD ρ (.pk i) = slotD s := by
  show (match ρ[i]? with | some s => slotD s | none => none) = _
  rw [e]
theorem k_getW {a : Arg} (e : argD ρ a = some (encG g)) (h : ∀ s, slotD s = some (sL (getW g n)) → Q s ρ) : kGet3 a (.sh (.str n)) Q (.ow false (.lst [])) ρ := by
  have e' : argD ρ a = some (.dct (g.map fun p => ((Sum.inr p.1 : Key), sL p.2))) := e
  refine k_get3 (key := .inr n) rfl e' (fun d hd => ?_) (fun hd => ?_)
  · rw [lookK_G] at hd
    obtain ⟨l, h1, h2⟩ := Option.map_eq_some_iff.mp hd
    subst h2
    exact h _ (by unfold getW; rw [h1]; rfl)
  · rw [lookK_G] at hd
    have h1 : g.lookup n = none := by cases z : g.lookup n with
      | none => rfl
      | some l => rw [z] at hd; cases hd
    exact h _ (by unfold getW; rw [h1]; rfl)
/-- list(waits.get(n, [])) -/
theorem k_listW {a : Arg} (e : argD ρ a = some (encG g)) (h : Q (.ow false (.lst ((getW g n).map D.str))) ρ) : kGet3 a (.sh (.str n)) (kVal (kCons1 vNil (kPrim listP Q))) (.ow false (.lst [])) ρ :=
  k_getW e fun s hs => k_val (k_cons1 (u_nil (k_cons2 (k_prim1 (da := sL (getW g n)) hs (p_listL (k_retL h))))))
end
section
variable {R : Ret → Prop} {a b x n : Str} {ρ : Rho} {Q : VK0} {ds : List D}
theorem p_gtS (h : R (.val (.bl (decide (slt b a))))) : gtP [.str a, .str b] R := h
theorem p_inT {L : List Str} (h : R (.val (.bl (decide (n ∈ L))))) : inP false [.str n, .dct (dTrue L)] R := p_inD0 rfl (by rw [lookK_true]; exact h)
theorem p_inT1 {L : List Str} (h : R (.val (.bl (!decide (n ∈ L))))) : inP true [.str n, .dct (dTrue L)] R := p_inD1 rfl (by rw [lookK_true]; exact h)
theorem mem_dTrue {L : List Str} {kv : Key × D} (h : kv ∈ dTrue L) : ∃ x ∈ L, kv = (.inr x, .bl true) := by
  obtain ⟨x, h1, h2⟩ := List.mem_map.mp h
  exact ⟨x, h1, h2.symm⟩
theorem put_true {L : List Str} (h : x ∉ L) : putD (dTrue L) (.inr x) (.bl true) = dTrue (L ++ [x]) := by
  rw [putD_new]
  · unfold dTrue; rw [List.map_append]; rfl
  · intro kv hkv e
    obtain ⟨y, h1, h2⟩ := mem_dTrue hkv
    subst h2
    cases e
    exact h h1
theorem dTrue_len {L : List Str} : (dTrue L).length = L.length := by unfold dTrue; simp
end
theorem strs_last {q : List Str} {x : D} (h : (q.map D.str)[(q.map D.str).length - 1]? = some x) : ∃ n, q[q.length - 1]? = some n ∧ x = .str n := by
  rw [List.getElem?_map, List.length_map] at h
  obtain ⟨n, h1, h2⟩ := Option.map_eq_some_iff.mp h
  exact ⟨n, h1, h2.symm⟩
theorem last_some {q : List Str} (h : 0 < q.length) : ∃ n, q[q.length - 1]? = some n := ⟨q[q.length - 1], List.getElem?_eq_getElem (by omega)⟩

/-! ### reached_names, _law_reached -/
def S_reached_names : VSp := fun ρs R _ => ∃ g s, ρs = [.sh (encG g), .sh (.str s)] ∧ GOk g ∧ ∀ L : List Str, L.Nodup → (∀ x, x ∈ L ↔ Rch (getW g) s x) → L.length ≤ 100 → R (.ow false (.dct (dTrue L))) [.sh (encG g), .sh (.str s)]
def S_reached : VSp := fun ρs R _ => ∃ g s, ρs = [.sh (encG g), .sh (.str s)] ∧ GOk g ∧ ∀ L : List Str, L.Nodup → (∀ x, x ∈ L ↔ Rch (getW g) s x) → L.length ≤ 100 → R (.ow false (.lst (L.map D.str))) [.sh (encG g), .sh (.str s)]
theorem small16 {n : Nat} (h : n < 1000000) : n < sizeLine := by rw [sizeLine_eq]; omega
theorem small16' {n : Nat} (h : n < 1000000) : n ≤ sizeLine := by rw [sizeLine_eq]; omega
theorem rd_reached_names : Reads S_reached_names (fun _ => v_reached_names) 3 := fun ρs R _ h => by
  obtain ⟨g, s, rfl, ok, q⟩ := h
  obtain ⟨U, hU, sm⟩ := ok.small
  unfold v_reached_names
  show vSeq _ _ _ [.sh (encG g), .sh (.str s), .un, .un, .un]
  walk_at "ss"
  refine k_listW rfl ?_
  walk_at "ss"
  refine u_while1 (fun m ρ => ∃ (found qq : List Str) (nm : Slot), ρ = [.sh (encG g), .sh (.str s), .ow false (.dct (dTrue found)), .ow false (.lst (qq.map D.str)), nm] ∧ nm.free = true ∧ ReI (getW g) s found qq ∧ m = reM U 100 found qq ∧ m ≤ 10201) _
    ⟨[], getW g s, .un, rfl, rfl, ReI.first _ _, rfl, by have := reM_first U sm s; have : (U.length + 1) * 101 ≤ 101 * 101 := Nat.mul_le_mul_right _ (by omega); omega⟩ ?_
  rintro m ρ' ⟨found, qq, nm, rfl, hnm, I, rfl, hm⟩
  walk_at "ss"
  have hql : qq.length ≤ 10201 := by have : qq.length ≤ reM U 100 found qq := Nat.le_add_left _ _; omega
  have hfl : found.length ≤ 100 := by have := nodup_le I.nd fun x hx => (I.sound x (.inl hx)).mem sm; omega
  refine k_while (fun hb => ?_) (fun hb => ?_)
  · have hb' : 0 < qq.length := by simpa using of_decide_eq_true hb
    obtain ⟨n, hn⟩ := last_some hb'
    walk_at "ss"
    refine u_pop (d := .str n) rfl (by rw [List.getElem?_map, List.length_map, hn]; rfl) ?_
    have ed : (qq.map D.str).dropLast = qq.dropLast.map D.str := List.map_dropLast.symm
    rw [ed]
    refine k_set rfl hnm ?_
    walk_at "ss"
    rw [lookK_true]
    refine k_ifN (fun hnf => ?_) (fun hf => ?_)
    · walk_at "ss"
      refine k_putD2 rfl rfl (by rw [dTrue_len]; exact small16 (by omega)) rfl ?_
      rw [put_true hnf]
      walk_at "ss"
      refine k_listW rfl ?_
      have hl := sm.len n
      refine k_ext rfl rfl (small16' (by simp; omega)) ?_
      walk_at "ss"
      rw [← List.map_append]
      exact ⟨_, reM_new sm I hn hnf, _, _, _, rfl, rfl, I.new hn hnf, rfl, by have := reM_new sm I hn hnf; omega⟩
    · walk_at "ss"
      exact ⟨_, reM_old (List.length_pos_iff.mp hb'), _, _, _, rfl, rfl, I.old hn hf, rfl, by have := reM_old (U := U) (M := 100) (found := found) (List.length_pos_iff.mp hb'); omega⟩
  · have hb' : qq = [] := by
      have := of_decide_eq_false hb
      simp at this
      exact this
    subst hb'
    walk_at "ss"
    exact q found I.nd I.done hfl
end WL

set_option Elab.async false
set_option linter.all false
set_option maxRecDepth 100000
set_option maxHeartbeats 4000000
namespace WL
open PySem PySem.Spec PyProof.Rows L2
local macro_rules | `(tactic| walk_at "s") => `(tactic| first
  | ((with_reducible show vSeq _ _ _ _); refine u_seq ?_)
  | ((with_reducible show vSet _ _ _ _); refine u_set ?_)
  | ((with_reducible show kSet _ _ _ _); refine k_set rfl rfl ?_)
  | ((with_reducible show vRet _ _ _); refine u_ret ?_)
  | ((with_reducible show vIf _ _ _ _ _); refine u_if ?_)
  | ((with_reducible show vExpr _ _ _); refine u_expr ?_)
  | ((with_reducible show kExpr _ _ _); refine k_expr ?_)
  | ((with_reducible show vRetN _ _); refine u_retN ?_)
  | ((with_reducible show vAsg _ _ _ _); refine u_asg ?_)
  | ((with_reducible show kAsg _ _ _ _); refine k_asg rfl ?_)
  | ((with_reducible show vNext _ _); refine u_next ?_)
  | ((with_reducible show vBreak _ _); refine u_break ?_)
  | ((with_reducible show vCont _ _); refine u_cont ?_)
  | ((with_reducible show kIf _ _ _ _ _); (first | refine k_ifT ?_ | refine k_ifF ?_))
  | ((with_reducible show vVal _ _ _); refine u_val ?_)
  | ((with_reducible show kVal _ _ _); refine k_val ?_)
  | ((with_reducible show vPk _ _ _); refine u_pk rfl rfl ?_)
  | ((with_reducible show vC _ _ _); refine u_c ?_)
  | ((with_reducible show vVar _ _ _); (first | refine u_var rfl ?_ | refine u_varL rfl ?_ | refine u_varD rfl ?_ | refine u_varE rfl ?_))
  | ((with_reducible show vMv _ _ _); (first | refine u_mv rfl ?_ | refine u_mvO rfl ?_))
  | ((with_reducible show vBin _ _ _ _ _); refine u_bin ?_)
  | ((with_reducible show kBin1 _ _ _ _ _); refine k_bin1 ?_)
  | ((with_reducible show kBin2 _ _ _ _ _); refine k_bin2 rfl rfl ?_)
  | ((with_reducible show vUn _ _ _ _); refine u_un ?_)
  | ((with_reducible show kUn _ _ _ _); refine k_un rfl ?_)
  | ((with_reducible show vCons _ _ _ _); refine u_cons ?_)
  | ((with_reducible show kCons1 _ _ _ _); refine k_cons1 ?_)
  | ((with_reducible show vNil _ _); refine u_nil ?_)
  | ((with_reducible show kCons2 _ _ _ _); refine k_cons2 ?_)
  | ((with_reducible show vPrim _ _ _ _); refine u_prim ?_)
  | ((with_reducible show kPrim _ _ _ _); (first | refine k_prim1 rfl ?_ | refine k_prim2 rfl rfl ?_))
  | ((with_reducible show kRet _ _ _); (first | refine k_retV ?_ | refine k_retL ?_ | refine k_retT ?_ | refine k_retD ?_))
  | ((with_reducible show vSh _ _ _); refine u_sh ?_)
  | ((with_reducible show kSh _ _ _); (first | refine k_sh ?_ | refine k_shL ?_ | refine k_shD ?_))
  | ((with_reducible show vT _ _ _); refine u_t ?_)
  | ((with_reducible show kT _ _ _); refine k_t ?_)
  | ((with_reducible show vTru _ _ _); refine u_tru ?_)
  | ((with_reducible show kTru _ _ _); refine k_tru rfl rfl ?_)
  | ((with_reducible show vAnd _ _ _ _); refine u_and ?_)
  | ((with_reducible show kAnd _ _ _ _); (first | refine k_andT ?_ | refine k_andF ?_))
  | ((with_reducible show vOr _ _ _ _); refine u_or ?_)
  | ((with_reducible show kOr _ _ _ _); (first | refine k_orT ?_ | refine k_orF ?_))
  | ((with_reducible show vNot _ _ _); refine u_not ?_)
  | ((with_reducible show kNot _ _ _); refine k_not ?_)
  | ((with_reducible show vAndV _ _ _ _); refine u_andV ?_)
  | ((with_reducible show kAndV _ _ _ _); (first | refine k_andVT ?_ | refine k_andVF ?_))
  | ((with_reducible show kOrV _ _ _ _); (first | refine k_orVT ?_ | refine k_orVF ?_))
  | ((with_reducible show vOrV _ _ _ _); refine u_orV ?_)
  | ((with_reducible show vNotV _ _ _); refine u_notV ?_)
  | ((with_reducible show kNotV _ _ _); refine k_notV ?_)
  | ((with_reducible show vIfE _ _ _ _ _); refine u_ifE ?_)
  | ((with_reducible show kIfE _ _ _ _ _); (first | refine k_ifET ?_ | refine k_ifEF ?_))
  | ((with_reducible show vLst _ _ _); refine u_lst ?_)
  | ((with_reducible show kLst _ _ _); refine k_lst rfl (by simp only [List.length_cons, List.length_nil]; decide) ?_)
  | ((with_reducible show vTup _ _ _); refine u_tup ?_)
  | ((with_reducible show kTup _ _ _); refine k_tup rfl (by simp only [List.length_cons, List.length_nil]; decide) ?_)
  | ((with_reducible show vNewD _ _); refine u_newD ?_)
  | ((with_reducible show vSl _ _ _ _ _); refine u_sl ?_)
  | ((with_reducible show kSl0 _ _ _ _ _); refine k_sl0 ?_)
  | ((with_reducible show kSl1 _ _ _ _ _); refine k_sl1 ?_)
  | ((with_reducible show kSl2 _ _ _ _ _); refine k_sl2 rfl ?_)
  | ((with_reducible show vNoPart _ _); refine u_noPart ?_)
  | ((with_reducible show vPart _ _ _); refine u_part ?_)
  | ((with_reducible show kPart _ _ _); refine k_part ?_)
  | ((with_reducible show vApp _ _ _ _); refine u_app rfl ?_)
  | ((with_reducible show vPopAt _ _ _ _); refine u_popAt rfl ?_)
  | ((with_reducible show vExt _ _ _ _); refine u_ext rfl ?_)
  | ((with_reducible show vM1 _ _ _ _ _); refine u_m1 ?_)
  | ((with_reducible show kM1a _ _ _ _ _); refine k_m1a rfl ?_)
  | ((with_reducible show kM1b _ _ _ _ _); refine k_m1b rfl rfl ?_)
  | ((with_reducible show vGet2 _ _ _ _ _); refine u_get2 ?_)
  | ((with_reducible show kGet1 _ _ _ _ _); refine k_get1 rfl ?_)
  | ((with_reducible show kGet2 _ _ _ _ _); refine k_get2 ?_)
  | ((with_reducible show vSetL _ _ _ _ _); refine u_setL ?_)
  | ((with_reducible show kSetL1 _ _ _ _ _); refine k_setL1 rfl ?_)
  | ((with_reducible show kSetL2 _ _ _ _ _); (first | refine k_setL2j 0 rfl rfl (by simp) rfl ?_ | refine k_setL2j 1 rfl rfl (by simp) rfl ?_ | refine k_setL2j 2 rfl rfl (by simp) rfl ?_))
  | ((with_reducible show vPutD _ _ _ _ _); refine u_putD ?_)
  | ((with_reducible show kPutD1 _ _ _ _ _); refine k_putD1 rfl ?_)
  | ((with_reducible show vAugL _ _ _ _ _ _); refine u_augL rfl ?_)
  | ((with_reducible show kAugL1 _ _ _ _ _ _); (first | refine k_augL1j 0 rfl rfl rfl ?_ | refine k_augL1j 1 rfl rfl rfl ?_ | refine k_augL1j 2 rfl rfl rfl ?_))
  | ((with_reducible show kAugL2 _ _ _ _ _ _ _); refine k_augL2j rfl (by simp) ?_)
  | ((with_reducible show vAug _ _ _ _ _); refine u_aug rfl ?_)
  | ((with_reducible show kAug _ _ _ _ _ _); (first | refine k_augAdd rfl ?_ | refine k_augSub rfl ?_))
  | ((with_reducible show vCall _ _ _ _); refine u_call ?_)
  | ((with_reducible show gN _ _ _ _); refine u_gN rfl rfl ?_)
  | ((with_reducible show gT _ _ _ _); refine u_gT rfl ?_)
  | ((with_reducible show gL _ _ _ _); refine u_gL rfl rfl ?_)
  | ((with_reducible show gTs _ _ _ _); (first | refine u_gTs0 ?_ | refine u_gTs ?_))
  | ((with_reducible show vItL _ _ _); refine u_itL ?_)
  | ((with_reducible show kItL _ _ _); refine k_itL rfl rfl ?_)
  | ((with_reducible show vItT _ _ _); refine u_itT ?_)
  | ((with_reducible show kItT _ _ _); refine k_itT rfl rfl ?_)
  | ((with_reducible show vItR1 _ _ _); refine u_itR1 ?_)
  | ((with_reducible show vItR2 _ _ _); refine u_itR2 ?_)
  | ((with_reducible show vFor _ _ _ _ _); refine u_for ?_)
  | ((with_reducible show vLc _ _ _ _ _ _ _); refine u_lc ?_)
  | ((with_reducible show vLcK _ _ _ _ _ _ _); refine u_lcK rfl ?_)
  | ((with_reducible show vYes _ _); refine u_yes ?_)
  | ((with_reducible show kLcT _ _ _ _ _ _); refine k_lcTT ?_)
  | ((with_reducible show addP _ _); refine p_addI ?_)
  | ((with_reducible show subP _ _); refine p_subI ?_)
  | ((with_reducible show mulP _ _); (first | refine p_mulI (.inl (.inl (by omega))) ?_ | refine p_mulI (.inl (.inr (by omega))) ?_))
  | ((with_reducible show modP _ _); refine p_modI (by omega) ?_)
  | ((with_reducible show divP _ _); refine p_divI (.inl (by constructor <;> omega)) ?_)
  | ((with_reducible show negP _ _); refine p_negI ?_)
  | ((with_reducible show ltP _ _); refine p_ltI ?_)
  | ((with_reducible show leP _ _); refine p_leI ?_)
  | ((with_reducible show gtP _ _); refine p_gtI ?_)
  | ((with_reducible show geP _ _); refine p_geI ?_)
  | ((with_reducible show eqP _ _); (first | refine p_eqI ?_ | refine p_eqS ?_ | refine p_eqB ?_ | refine p_eqN ?_))
  | ((with_reducible show neP _ _); (first | refine p_neI ?_ | refine p_neS ?_ | refine p_neB ?_))
  | ((with_reducible show isNP _ _); (first | refine p_isNn ?_ | refine p_isNi ?_ | refine p_isNs ?_ | refine p_isNb ?_ | refine p_isNl ?_ | refine p_isNt ?_ | refine p_isNd ?_))
  | ((with_reducible show notNP _ _); (first | refine p_notNn ?_ | refine p_notNi ?_ | refine p_notNs ?_ | refine p_notNb ?_ | refine p_notNl ?_ | refine p_notNt ?_ | refine p_notNd ?_))
  | ((with_reducible show isiP _ _); refine p_isi rfl rfl ?_)
  | ((with_reducible show isiTP _ _); refine p_isiT rfl rfl ?_)
  | ((with_reducible show reprP _ _); (first | refine p_reprB ?_ | refine p_reprN ?_))
  | ((with_reducible show lenP _ _); (first | refine p_lenL ?_ | refine p_lenF ?_ | refine p_lenT ?_ | refine p_lenD ?_))
  | ((with_reducible show absP _ _); refine p_absI ?_)
  | ((with_reducible show intP _ _); refine p_intI ?_)
  | ((with_reducible show listP _ _); (first | refine p_listL ?_ | refine p_listF ?_ | refine p_listD ?_))
  | ((with_reducible show ixP _ _); (first | refine p_ixLj 0 rfl rfl ?_ | refine p_ixLj 1 rfl rfl ?_ | refine p_ixLj 2 rfl rfl ?_ | refine p_ixLj 3 rfl rfl ?_ | refine p_ixTj 0 rfl rfl ?_ | refine p_ixTj 1 rfl rfl ?_ | refine p_ixTj 2 rfl rfl ?_ | refine p_ixTj 3 rfl rfl ?_))
  | ((with_reducible show inP _ _ _); (first | refine p_inS0 ?_ | refine p_inS1 ?_ | refine p_inI0 ?_ | refine p_inI1 ?_ | refine p_inD0 rfl ?_ | refine p_inD1 rfl ?_))
  | ((with_reducible show slP _ _ _ _); (first | refine p_slL ?_ | refine p_slF ?_))
  | ((with_reducible show sumP _ _); refine p_sum ?_)
  | ((with_reducible show maxP _ _); refine p_max2 ?_)
  | ((with_reducible show minP _ _); refine p_min2 ?_)
  | ((with_reducible show allP _ _); refine p_all ?_)
  | ((with_reducible show anyP _ _); refine p_any ?_))
local macro_rules | `(tactic| walk_at "ss") => `(tactic| repeat walk_at "s")
local macro_rules | `(tactic| walk_at "back") => `(tactic| refine k_back ?_ (by dsimp only [takeBack, backS, List.set, List.getElem?_cons_zero, List.getElem?_cons_succ]))
theorem rd_reached : Reads S_reached (fun _ => v_reached) 3 := fun ρs R _ h => by
  obtain ⟨g, s, rfl, ok, q⟩ := h
  obtain ⟨U, hU, sm⟩ := ok.small
  unfold v_reached
  show vSeq _ _ _ [.sh (encG g), .sh (.str s), .un, .un, .un]
  walk_at "ss"
  refine k_listW rfl ?_
  walk_at "ss"
  refine u_while1 (fun m ρ => ∃ (found qq : List Str) (nm : Slot), ρ = [.sh (encG g), .sh (.str s), .ow false (.lst (found.map D.str)), .ow false (.lst (qq.map D.str)), nm] ∧ nm.free = true ∧ ReI (getW g) s found qq ∧ m = reM U 100 found qq ∧ m ≤ 10201) _
    ⟨[], getW g s, .un, rfl, rfl, ReI.first _ _, rfl, by have := reM_first U sm s; have : (U.length + 1) * 101 ≤ 101 * 101 := Nat.mul_le_mul_right _ (by omega); omega⟩ ?_
  rintro m ρ' ⟨found, qq, nm, rfl, hnm, I, rfl, hm⟩
  walk_at "ss"
  have hql : qq.length ≤ 10201 := by have : qq.length ≤ reM U 100 found qq := Nat.le_add_left _ _; omega
  have hfl : found.length ≤ 100 := by have := nodup_le I.nd fun x hx => (I.sound x (.inl hx)).mem sm; omega
  refine k_while (fun hb => ?_) (fun hb => ?_)
  · have hb' : 0 < qq.length := by simpa using of_decide_eq_true hb
    obtain ⟨n, hn⟩ := last_some hb'
    walk_at "ss"
    refine u_pop (d := .str n) rfl (by rw [List.getElem?_map, List.length_map, hn]; rfl) ?_
    have ed : (qq.map D.str).dropLast = qq.dropLast.map D.str := List.map_dropLast.symm
    rw [ed]
    refine k_set rfl hnm ?_
    walk_at "ss"
    refine k_ifN (fun hnf => ?_) (fun hf => ?_)
    · walk_at "ss"
      refine k_app rfl rfl (small16 (by simp; omega)) ?_
      have ea : found.map D.str ++ [D.str n] = (found ++ [n]).map D.str := by rw [List.map_append]; rfl
      rw [ea]
      walk_at "ss"
      refine k_listW rfl ?_
      have hl := sm.len n
      walk_at "ss"
      refine p_addL (small16' (by simp; omega)) ?_
      rw [← List.map_append]
      walk_at "ss"
      exact ⟨_, reM_new sm I hn hnf, _, _, _, rfl, rfl, I.new hn hnf, rfl, by have := reM_new sm I hn hnf; omega⟩
    · walk_at "ss"
      exact ⟨_, reM_old (List.length_pos_iff.mp hb'), _, _, _, rfl, rfl, I.old hn hf, rfl, by have := reM_old (U := U) (M := 100) (found := found) (List.length_pos_iff.mp hb'); omega⟩
  · have hb' : qq = [] := by
      have := of_decide_eq_false hb
      simp at this
      exact this
    subst hb'
    walk_at "ss"
    exact q found I.nd I.done hfl
end WL

set_option Elab.async false
set_option linter.all false
set_option maxRecDepth 100000
set_option maxHeartbeats 4000000
namespace WL
open PySem PySem.Spec PyProof.Rows L2
local macro_rules | `(tactic| walk_at "s") => `(tactic| first
  | ((with_reducible show vSeq _ _ _ _); refine u_seq ?_)
  | ((with_reducible show vSet _ _ _ _); refine u_set ?_)
  | ((with_reducible show kSet _ _ _ _); refine k_set rfl rfl ?_)
  | ((with_reducible show vRet _ _ _); refine u_ret ?_)
  | ((with_reducible show vIf _ _ _ _ _); refine u_if ?_)
  | ((with_reducible show vExpr _ _ _); refine u_expr ?_)
  | ((with_reducible show kExpr _ _ _); refine k_expr ?_)
  | ((with_reducible show vRetN _ _); refine u_retN ?_)
  | ((with_reducible show vAsg _ _ _ _); refine u_asg ?_)
  | ((with_reducible show kAsg _ _ _ _); refine k_asg rfl ?_)
  | ((with_reducible show vNext _ _); refine u_next ?_)
  | ((with_reducible show vBreak _ _); refine u_break ?_)
  | ((with_reducible show vCont _ _); refine u_cont ?_)
  | ((with_reducible show kIf _ _ _ _ _); (first | refine k_ifT ?_ | refine k_ifF ?_))
  | ((with_reducible show vVal _ _ _); refine u_val ?_)
  | ((with_reducible show kVal _ _ _); refine k_val ?_)
  | ((with_reducible show vPk _ _ _); refine u_pk rfl rfl ?_)
  | ((with_reducible show vC _ _ _); refine u_c ?_)
  | ((with_reducible show vVar _ _ _); (first | refine u_var rfl ?_ | refine u_varL rfl ?_ | refine u_varD rfl ?_ | refine u_varE rfl ?_))
  | ((with_reducible show vMv _ _ _); (first | refine u_mv rfl ?_ | refine u_mvO rfl ?_))
  | ((with_reducible show vBin _ _ _ _ _); refine u_bin ?_)
  | ((with_reducible show kBin1 _ _ _ _ _); refine k_bin1 ?_)
  | ((with_reducible show kBin2 _ _ _ _ _); refine k_bin2 rfl rfl ?_)
  | ((with_reducible show vUn _ _ _ _); refine u_un ?_)
  | ((with_reducible show kUn _ _ _ _); refine k_un rfl ?_)
  | ((with_reducible show vCons _ _ _ _); refine u_cons ?_)
  | ((with_reducible show kCons1 _ _ _ _); refine k_cons1 ?_)
  | ((with_reducible show vNil _ _); refine u_nil ?_)
  | ((with_reducible show kCons2 _ _ _ _); refine k_cons2 ?_)
  | ((with_reducible show vPrim _ _ _ _); refine u_prim ?_)
  | ((with_reducible show kPrim _ _ _ _); (first | refine k_prim1 rfl ?_ | refine k_prim2 rfl rfl ?_))
  | ((with_reducible show kRet _ _ _); (first | refine k_retV ?_ | refine k_retL ?_ | refine k_retT ?_ | refine k_retD ?_))
  | ((with_reducible show vSh _ _ _); refine u_sh ?_)
  | ((with_reducible show kSh _ _ _); (first | refine k_sh ?_ | refine k_shL ?_ | refine k_shD ?_))
  | ((with_reducible show vT _ _ _); refine u_t ?_)
  | ((with_reducible show kT _ _ _); refine k_t ?_)
  | ((with_reducible show vTru _ _ _); refine u_tru ?_)
  | ((with_reducible show kTru _ _ _); refine k_tru rfl rfl ?_)
  | ((with_reducible show vAnd _ _ _ _); refine u_and ?_)
  | ((with_reducible show kAnd _ _ _ _); (first | refine k_andT ?_ | refine k_andF ?_))
  | ((with_reducible show vOr _ _ _ _); refine u_or ?_)
  | ((with_reducible show kOr _ _ _ _); (first | refine k_orT ?_ | refine k_orF ?_))
  | ((with_reducible show vNot _ _ _); refine u_not ?_)
  | ((with_reducible show kNot _ _ _); refine k_not ?_)
  | ((with_reducible show vAndV _ _ _ _); refine u_andV ?_)
  | ((with_reducible show kAndV _ _ _ _); (first | refine k_andVT ?_ | refine k_andVF ?_))
  | ((with_reducible show kOrV _ _ _ _); (first | refine k_orVT ?_ | refine k_orVF ?_))
  | ((with_reducible show vOrV _ _ _ _); refine u_orV ?_)
  | ((with_reducible show vNotV _ _ _); refine u_notV ?_)
  | ((with_reducible show kNotV _ _ _); refine k_notV ?_)
  | ((with_reducible show vIfE _ _ _ _ _); refine u_ifE ?_)
  | ((with_reducible show kIfE _ _ _ _ _); (first | refine k_ifET ?_ | refine k_ifEF ?_))
  | ((with_reducible show vLst _ _ _); refine u_lst ?_)
  | ((with_reducible show kLst _ _ _); refine k_lst rfl (by simp only [List.length_cons, List.length_nil]; decide) ?_)
  | ((with_reducible show vTup _ _ _); refine u_tup ?_)
  | ((with_reducible show kTup _ _ _); refine k_tup rfl (by simp only [List.length_cons, List.length_nil]; decide) ?_)
  | ((with_reducible show vNewD _ _); refine u_newD ?_)
  | ((with_reducible show vSl _ _ _ _ _); refine u_sl ?_)
  | ((with_reducible show kSl0 _ _ _ _ _); refine k_sl0 ?_)
  | ((with_reducible show kSl1 _ _ _ _ _); refine k_sl1 ?_)
  | ((with_reducible show kSl2 _ _ _ _ _); refine k_sl2 rfl ?_)
  | ((with_reducible show vNoPart _ _); refine u_noPart ?_)
  | ((with_reducible show vPart _ _ _); refine u_part ?_)
  | ((with_reducible show kPart _ _ _); refine k_part ?_)
  | ((with_reducible show vApp _ _ _ _); refine u_app rfl ?_)
  | ((with_reducible show vPopAt _ _ _ _); refine u_popAt rfl ?_)
  | ((with_reducible show vExt _ _ _ _); refine u_ext rfl ?_)
  | ((with_reducible show vM1 _ _ _ _ _); refine u_m1 ?_)
  | ((with_reducible show kM1a _ _ _ _ _); refine k_m1a rfl ?_)
  | ((with_reducible show kM1b _ _ _ _ _); refine k_m1b rfl rfl ?_)
  | ((with_reducible show vGet2 _ _ _ _ _); refine u_get2 ?_)
  | ((with_reducible show kGet1 _ _ _ _ _); refine k_get1 rfl ?_)
  | ((with_reducible show kGet2 _ _ _ _ _); refine k_get2 ?_)
  | ((with_reducible show vSetL _ _ _ _ _); refine u_setL ?_)
  | ((with_reducible show kSetL1 _ _ _ _ _); refine k_setL1 rfl ?_)
  | ((with_reducible show kSetL2 _ _ _ _ _); (first | refine k_setL2j 0 rfl rfl (by simp) rfl ?_ | refine k_setL2j 1 rfl rfl (by simp) rfl ?_ | refine k_setL2j 2 rfl rfl (by simp) rfl ?_))
  | ((with_reducible show vPutD _ _ _ _ _); refine u_putD ?_)
  | ((with_reducible show kPutD1 _ _ _ _ _); refine k_putD1 rfl ?_)
  | ((with_reducible show vAugL _ _ _ _ _ _); refine u_augL rfl ?_)
  | ((with_reducible show kAugL1 _ _ _ _ _ _); (first | refine k_augL1j 0 rfl rfl rfl ?_ | refine k_augL1j 1 rfl rfl rfl ?_ | refine k_augL1j 2 rfl rfl rfl ?_))
  | ((with_reducible show kAugL2 _ _ _ _ _ _ _); refine k_augL2j rfl (by simp) ?_)
  | ((with_reducible show vAug _ _ _ _ _); refine u_aug rfl ?_)
  | ((with_reducible show kAug _ _ _ _ _ _); (first | refine k_augAdd rfl ?_ | refine k_augSub rfl ?_))
  | ((with_reducible show vCall _ _ _ _); refine u_call ?_)
  | ((with_reducible show gN _ _ _ _); refine u_gN rfl rfl ?_)
  | ((with_reducible show gT _ _ _ _); refine u_gT rfl ?_)
  | ((with_reducible show gL _ _ _ _); refine u_gL rfl rfl ?_)
  | ((with_reducible show gTs _ _ _ _); (first | refine u_gTs0 ?_ | refine u_gTs ?_))
  | ((with_reducible show vItL _ _ _); refine u_itL ?_)
  | ((with_reducible show kItL _ _ _); refine k_itL rfl rfl ?_)
  | ((with_reducible show vItT _ _ _); refine u_itT ?_)
  | ((with_reducible show kItT _ _ _); refine k_itT rfl rfl ?_)
  | ((with_reducible show vItR1 _ _ _); refine u_itR1 ?_)
  | ((with_reducible show vItR2 _ _ _); refine u_itR2 ?_)
  | ((with_reducible show vFor _ _ _ _ _); refine u_for ?_)
  | ((with_reducible show vLc _ _ _ _ _ _ _); refine u_lc ?_)
  | ((with_reducible show vLcK _ _ _ _ _ _ _); refine u_lcK rfl ?_)
  | ((with_reducible show vYes _ _); refine u_yes ?_)
  | ((with_reducible show kLcT _ _ _ _ _ _); refine k_lcTT ?_)
  | ((with_reducible show addP _ _); refine p_addI ?_)
  | ((with_reducible show subP _ _); refine p_subI ?_)
  | ((with_reducible show mulP _ _); (first | refine p_mulI (.inl (.inl (by omega))) ?_ | refine p_mulI (.inl (.inr (by omega))) ?_))
  | ((with_reducible show modP _ _); refine p_modI (by omega) ?_)
  | ((with_reducible show divP _ _); refine p_divI (.inl (by constructor <;> omega)) ?_)
  | ((with_reducible show negP _ _); refine p_negI ?_)
  | ((with_reducible show ltP _ _); refine p_ltI ?_)
  | ((with_reducible show leP _ _); refine p_leI ?_)
  | ((with_reducible show gtP _ _); refine p_gtI ?_)
  | ((with_reducible show geP _ _); refine p_geI ?_)
  | ((with_reducible show eqP _ _); (first | refine p_eqI ?_ | refine p_eqS ?_ | refine p_eqB ?_ | refine p_eqN ?_))
  | ((with_reducible show neP _ _); (first | refine p_neI ?_ | refine p_neS ?_ | refine p_neB ?_))
  | ((with_reducible show isNP _ _); (first | refine p_isNn ?_ | refine p_isNi ?_ | refine p_isNs ?_ | refine p_isNb ?_ | refine p_isNl ?_ | refine p_isNt ?_ | refine p_isNd ?_))
  | ((with_reducible show notNP _ _); (first | refine p_notNn ?_ | refine p_notNi ?_ | refine p_notNs ?_ | refine p_notNb ?_ | refine p_notNl ?_ | refine p_notNt ?_ | refine p_notNd ?_))
  | ((with_reducible show isiP _ _); refine p_isi rfl rfl ?_)
  | ((with_reducible show isiTP _ _); refine p_isiT rfl rfl ?_)
  | ((with_reducible show reprP _ _); (first | refine p_reprB ?_ | refine p_reprN ?_))
  | ((with_reducible show lenP _ _); (first | refine p_lenL ?_ | refine p_lenF ?_ | refine p_lenT ?_ | refine p_lenD ?_))
  | ((with_reducible show absP _ _); refine p_absI ?_)
  | ((with_reducible show intP _ _); refine p_intI ?_)
  | ((with_reducible show listP _ _); (first | refine p_listL ?_ | refine p_listF ?_ | refine p_listD ?_))
  | ((with_reducible show ixP _ _); (first | refine p_ixLj 0 rfl rfl ?_ | refine p_ixLj 1 rfl rfl ?_ | refine p_ixLj 2 rfl rfl ?_ | refine p_ixLj 3 rfl rfl ?_ | refine p_ixTj 0 rfl rfl ?_ | refine p_ixTj 1 rfl rfl ?_ | refine p_ixTj 2 rfl rfl ?_ | refine p_ixTj 3 rfl rfl ?_))
  | ((with_reducible show inP _ _ _); (first | refine p_inS0 ?_ | refine p_inS1 ?_ | refine p_inI0 ?_ | refine p_inI1 ?_ | refine p_inD0 rfl ?_ | refine p_inD1 rfl ?_))
  | ((with_reducible show slP _ _ _ _); (first | refine p_slL ?_ | refine p_slF ?_))
  | ((with_reducible show sumP _ _); refine p_sum ?_)
  | ((with_reducible show maxP _ _); refine p_max2 ?_)
  | ((with_reducible show minP _ _); refine p_min2 ?_)
  | ((with_reducible show allP _ _); refine p_all ?_)
  | ((with_reducible show anyP _ _); refine p_any ?_))
local macro_rules | `(tactic| walk_at "ss") => `(tactic| repeat walk_at "s")
local macro_rules | `(tactic| walk_at "back") => `(tactic| refine k_back ?_ (by dsimp only [takeBack, backS, List.set, List.getElem?_cons_zero, List.getElem?_cons_succ]))
def v_knots : VS :=
  vSeq (vSet 1 (vPrim dictP (vCons (vVal (vLcK 0 (gN 3) (vYes) (vTup (vCons (vVal (vVar 3)) (vCons (vVal (vCall S_reached (vCons (vVal (vVar 0)) (vCons (vVal (vVar 3)) (vNil))))) (vNil)))) [3])) (vNil))))
    (vSeq (vSet 2 (vLst (vNil)))
    (vSeq (vFor (vItL (vPrim sortDP (vCons (vPk 0) (vNil)))) (gN 3) (vIf (vT (vBin (inP false) (vPk 3) (vVal (vBin ixP (vPk 1) (vPk 3))))) (vSeq (vSet 4 (vPrim sortedP (vCons (vVal (vLc (vItL (vBin ixP (vPk 1) (vPk 3))) (gN 5) (vAnd (vT (vBin (inP false) (vPk 5) (vPk 1))) (vT (vBin (inP false) (vPk 3) (vVal (vBin ixP (vPk 1) (vPk 5)))))) (vVar 5) [5])) (vNil))))
    (vIf (vT (vBin (inDP true) (vPk 4) (vPk 2))) (vExpr (vApp 2 (vVar 4))) (vNext))) (vNext)))
    (vRet (vMv 2))))
/-! dicts made of pairs -/
theorem mergeD_app {α : Type} : ∀ {more kvs : List (Key × α)}, ((kvs ++ more).map (·.1)).Nodup → mergeD kvs more = kvs ++ more
  | [], kvs, _ => by show kvs = _; rw [List.append_nil]
  | (k, v) :: r, kvs, h => by
    have h1 : ∀ kv ∈ kvs, kv.1 ≠ k := fun kv hkv e => by
      rw [List.map_append] at h
      have := (List.nodup_append.mp h).2.2 kv.1 (List.mem_map_of_mem hkv) k (by simp)
      exact this e
    have h2 : putD kvs k v = kvs ++ [(k, v)] := by
      unfold putD
      rw [if_neg]
      intro z
      obtain ⟨kv, a, b⟩ := List.any_eq_true.mp z
      exact h1 kv a (by simpa using b)
    show mergeD (putD kvs k v) r = _
    rw [h2, mergeD_app (more := r) (kvs := kvs ++ [(k, v)]) (by simpa using h)]
    simp
theorem pairsD_of {ν : Type} (f : ν → D) : ∀ RL : List (Str × ν), pairsD (RL.map fun p => D.tup [.str p.1, f p.2]) = some (RL.map fun p => ((Sum.inr p.1 : Key), f p.2))
  | [] => rfl
  | (n, v) :: r => by
    rw [List.map_cons, List.map_cons]
    unfold pairsD
    rw [pairsD_of f r]
    rfl
theorem nodup_inr {l : List Str} (h : l.Nodup) : (l.map (Sum.inr : Str → Key)).Nodup := List.Pairwise.map _ (fun a b h z => h (by cases z; rfl)) h
/-- data of texts, deep -/
theorem toPys_str : ∀ ss : List Str, toPys (ss.map D.str) = some (ss.map PyData.str)
  | [] => rfl
  | s :: r => by rw [List.map_cons]; unfold toPys toPy; rw [toPys_str r]; rfl
theorem toPy_sL (ss : List Str) : toPy (sL ss) = some (.list (ss.map PyData.str)) := by unfold toPy; rw [toPys_str]; rfl
theorem toPys_sL : ∀ F : List (List Str), toPys (F.map sL) = some (F.map fun ss => .list (ss.map PyData.str))
  | [] => rfl
  | s :: r => by rw [List.map_cons]; unfold toPys; rw [toPys_sL r, toPy_sL]; rfl
theorem lay_str : ∀ ss : List Str, (∀ s ∈ ss, PyData.strOk s = true) → PyData.canLayAll0 (ss.map PyData.str) = true
  | [], _ => by simp [PyData.canLayAll0]
  | s :: r, h => by simp [PyData.canLayAll0, PyData.canLay0, lay_str r fun x hx => h x (List.mem_cons_of_mem _ hx), h s (by simp)]
theorem dep_str : ∀ ss : List Str, PyData.depthAll (ss.map PyData.str) = 0
  | [] => by simp [PyData.depthAll]
  | s :: r => by simp [PyData.depthAll, PyData.depth, dep_str r]
theorem shaped_of {d : PyData} (h : d.canLay0 = true) (h2 : d.depth ≤ 64) : SeqAt.shaped d = true := by
  show (d.canLay0 && decide (d.depth ≤ 64)) = true
  rw [Bool.and_eq_true]
  exact ⟨h, decide_eq_true h2⟩
theorem lay_sL : ∀ F : List (List Str), (∀ ss ∈ F, ∀ s ∈ ss, PyData.strOk s = true) → PyData.canLayAll0 (F.map fun ss => PyData.list (ss.map PyData.str)) = true
  | [], _ => by simp [PyData.canLayAll0]
  | s :: r, h => by simp [PyData.canLayAll0, PyData.canLay0, lay_sL r fun x hx => h x (List.mem_cons_of_mem _ hx), lay_str s (h s (by simp))]
theorem dep_sL : ∀ F : List (List Str), PyData.depthAll (F.map fun ss => PyData.list (ss.map PyData.str)) ≤ 1
  | [] => by simp [PyData.depthAll]
  | s :: r => by
    have := dep_sL r
    simp only [List.map_cons, PyData.depthAll, PyData.depth, dep_str]
    omega
theorem eqv_str : ∀ a b : List Str, PyData.eqvAll (a.map PyData.str) (b.map PyData.str) = decide (a = b)
  | [], [] => by simp [PyData.eqvAll]
  | [], _ :: _ => by simp [PyData.eqvAll]
  | _ :: _, [] => by simp [PyData.eqvAll]
  | x :: a, y :: b => by
    rw [List.map_cons, List.map_cons]
    unfold PyData.eqvAll
    rw [eqv_str a b]
    unfold PyData.eqv
    by_cases e : x = y
    · subst e; simp
    · simp [e]
theorem any_sL (k : List Str) (F : List (List Str)) : ((F.map fun ss => PyData.list (ss.map PyData.str)).any fun z => PyData.eqv z (.list (k.map PyData.str))) = decide (k ∈ F) := by
  induction F with
  | nil => rfl
  | cons a r ih =>
    rw [List.map_cons, List.any_cons, ih]
    have : PyData.eqv (.list (a.map PyData.str)) (.list (k.map PyData.str)) = decide (a = k) := by unfold PyData.eqv; exact eqv_str a k
    rw [this]
    by_cases e : a = k
    · subst e; simp
    · have e2 : k ≠ a := fun z => e z.symm
      simp [e, e2]
theorem p_inL {b : Bool} {k : List Str} {F : List (List Str)} {R : Ret → Prop} (hk : ∀ s ∈ k, PyData.strOk s = true) (hF : ∀ ss ∈ F, ∀ s ∈ ss, PyData.strOk s = true) (h : R (.val (.bl (ifN b (decide (k ∈ F)))))) : inDP b [sL k, .lst (F.map sL)] R :=
  .inr ⟨_, _, _, _, _, rfl, rfl, toPy_sL k, toPys_sL F, shaped_of (by simp only [PyData.canLay0]; exact lay_str k hk) (by simp [PyData.depth, dep_str]), shaped_of (by simp only [PyData.canLay0]; exact lay_sL F hF) (by have := dep_sL F; simp only [PyData.depth]; omega), by rw [any_sL]; exact h⟩
theorem p_sortD {ks : List Str} {kvs : List (Key × D)} {R : Ret → Prop} (hk : kvs.map (·.1) = ks.map Sum.inr) (hl : ks.length < 64) (h : R (.newL ((sortS ks).map D.str))) : sortDP [.dct kvs] R :=
  .inr ⟨kvs, ks, rfl, hk, hl, fun ys p s => by rw [sortS_of p s]; exact h⟩
theorem p_sortS' {ks : List Str} {R : Ret → Prop} (hl : ks.length < 64) (h : R (.newL ((sortS ks).map D.str))) : sortedP [.lst (ks.map D.str)] R := p_sortS hl fun ys p s => by rw [sortS_of p s]; exact h
theorem keys_enc {ν : Type} {f : ν → D} {RL : List (Str × ν)} : (RL.map fun p => ((Sum.inr p.1 : Key), f p.2)).map (·.1) = (RL.map (·.1)).map Sum.inr := by rw [List.map_map, List.map_map]; rfl

/-! ### _law_knots -/
noncomputable def theKnots (g : List (Str × List Str)) : List (List Str) := knotsF (getW g) (keysG g) (sortS (keysG g))
def S_knots : VSp := fun ρs R _ => ∃ g, ρs = [.sh (encG g)] ∧ GOk g ∧ R (.ow false (.lst ((theKnots g).map sL))) [.sh (encG g)]
/-- the told reaches of the first names -/
structure ROk (g : List (Str × List Str)) (ks : List Str) (RL : List (Str × List Str)) : Prop where
  keys : RL.map (·.1) = ks
  each : ∀ p ∈ RL, p.2.Nodup ∧ (∀ x, x ∈ p.2 ↔ Rch (getW g) p.1 x) ∧ p.2.length ≤ 100
theorem ROk.look {g : List (Str × List Str)} {ks : List Str} {RL : List (Str × List Str)} (h : ROk g ks RL) {n : Str} (hn : n ∈ ks) : ∃ L, RL.lookup n = some L ∧ L.Nodup ∧ (∀ x, x ∈ L ↔ Rch (getW g) n x) ∧ L.length ≤ 100 := by
  cases e : RL.lookup n with
  | none => exact absurd (h.keys ▸ hn) (lookup_none_iff.mp e)
  | some L =>
    have : (n, L) ∈ RL := by
      have g1 : ∀ {RL : List (Str × List Str)}, RL.lookup n = some L → (n, L) ∈ RL := by
        intro RL
        induction RL with
        | nil => intro z; cases z
        | cons a r ih =>
          intro z
          obtain ⟨k, v⟩ := a
          rw [List.lookup_cons] at z
          by_cases e : n = k
          · subst e
            simp at z; subst z; simp
          · have e2 : (n == k) = false := by simp [e]
            rw [e2] at z
            exact List.mem_cons_of_mem _ (ih z)
      exact g1 e
    obtain ⟨a, b, c⟩ := h.each _ this
    exact ⟨L, rfl, a, b, c⟩
theorem free1 {ρ : Rho} {v : Nat} {s : Slot} (e : ρ[v]? = some s) (f : s.free = true) : ∀ w ∈ [v], ∃ s, ρ[w]? = some s ∧ s.free = true := fun w hw => by
  rw [List.mem_singleton.mp hw]; exact ⟨s, e, f⟩
theorem keyAt {g : List (Str × List Str)} {f : Str × List Str → D} {j : Nat} {d : D} (h : (List.map (fun kv => dK kv.fst) (List.map (fun p => ((Sum.inr p.1 : Key), f p)) g))[j]? = some d) : ∃ n, (keysG g)[j]? = some n ∧ d = .str n := by
  rw [List.map_map, List.getElem?_map] at h
  obtain ⟨p, h1, h2⟩ := Option.map_eq_some_iff.mp h
  exact ⟨p.1, by unfold keysG; rw [List.getElem?_map, h1]; rfl, h2.symm⟩
theorem keysAll {g : List (Str × List Str)} {f : Str × List Str → D} : (List.map (fun kv => dK kv.fst) (List.map (fun p => ((Sum.inr p.1 : Key), f p)) g)).length = (keysG g).length := by unfold keysG; simp
theorem take_snoc {α : Type} {l : List α} {j : Nat} {x : α} (h : l[j]? = some x) : l.take (j + 1) = l.take j ++ [x] := by rw [List.take_add_one, h]; rfl
theorem ROk.snoc {g : List (Str × List Str)} {ks : List Str} {RL : List (Str × List Str)} (h : ROk g ks RL) {n : Str} {L : List Str} (h1 : L.Nodup) (h2 : ∀ x, x ∈ L ↔ Rch (getW g) n x) (h3 : L.length ≤ 100) : ROk g (ks ++ [n]) (RL ++ [(n, L)]) :=
  ⟨by rw [List.map_append, h.keys]; rfl, fun p hp => (List.mem_append.mp hp).elim (h.each p) fun z => by
    have : p = (n, L) := by simpa using z
    subst this; exact ⟨h1, h2, h3⟩⟩
theorem ROk.len {g : List (Str × List Str)} {ks : List Str} {RL : List (Str × List Str)} (h : ROk g ks RL) : RL.length = ks.length := by rw [← h.keys, List.length_map]
theorem mem_knotsF_ok {g : List (Str × List Str)} (ok : GOk g) {ns k : List Str} (h : k ∈ knotsF (getW g) (keysG g) ns) : ∀ s ∈ k, PyData.strOk s = true := fun s hs => by
  obtain ⟨m, _, _, e⟩ := knotsF_mem _ _ h
  subst e
  have := (mem_knotF.mp hs).1
  obtain ⟨p, hp, e⟩ := List.mem_map.mp this
  exact e ▸ (ok.tx p hp).1.ok
theorem keys_len {g : List (Str × List Str)} (ok : GOk g) : (keysG g).length ≤ 40 := by unfold keysG; rw [List.length_map]; exact ok.len
open Classical in
theorem rd_knots : Reads S_knots (fun _ => v_knots) 5 := fun ρs R _ h => by
  obtain ⟨g, rfl, ok, q⟩ := h
  have kl := keys_len ok
  unfold v_knots
  show vSeq _ _ _ [.sh (encG g), .un, .un, .un, .un, .un]
  walk_at "ss"
  refine k_lc (free1 rfl rfl) (fun j acc ρ => ρ = [.sh (encG g), .un, .un, .un, .un, .un] ∧ ∃ RL, ROk g ((keysG g).take j) RL ∧ acc = RL.map fun p => D.tup [.str p.1, sL p.2]) ⟨rfl, [], ⟨by simp, by simp⟩, rfl⟩ ?_ ?_
  · rintro j acc d ρ' hj ⟨rfl, RL, rok, rfl⟩
    obtain ⟨n, hn, rfl⟩ := keyAt hj
    walk_at "ss"
    refine k_call rfl ⟨g, n, rfl, ok, fun L l1 l2 l3 => ?_⟩
    walk_at "back"
    walk_at "ss"
    refine k_lcE rfl ?_ ?_
    · have := rok.len
      rw [List.length_map, this, List.length_take]; exact small16 (by omega)
    · refine ⟨rfl, RL ++ [(n, L)], by rw [take_snoc hn]; exact rok.snoc l1 l2 l3, by rw [List.map_append]; rfl⟩
  · rintro acc ρ' ⟨rfl, RL, rok, rfl⟩
    rw [keysAll, List.take_length] at rok
    walk_at "ss"
    refine p_dict (pairsD_of sL RL) ?_
    rw [mergeD_app (kvs := []) (by rw [List.nil_append, keys_enc, rok.keys]; exact nodup_inr ok.nd), List.nil_append]
    walk_at "ss"
    refine p_sortD (ks := keysG g) keys_enc (by omega) ?_
    walk_at "ss"
    refine k_for (fun j ρ => ∃ n3 n4 n5, ρ = [.sh (encG g), .ow false (.dct (RL.map fun p => (Sum.inr p.1, sL p.2))), .ow false (.lst ((knotsF (getW g) (keysG g) ((sortS (keysG g)).take j)).map sL)), n3, n4, n5] ∧ n3.free = true ∧ n4.free = true ∧ n5.free = true) ⟨.un, .un, .un, rfl, rfl, rfl, rfl⟩ ?_ ?_
    · rintro j d ρ' hj ⟨n3, n4, n5, rfl, f3, f4, f5⟩
      rw [List.getElem?_map] at hj
      obtain ⟨n, hn, ed⟩ := Option.map_eq_some_iff.mp hj
      subst ed
      have hnk : n ∈ keysG g := mem_sortS.mp (List.mem_of_getElem? hn)
      obtain ⟨L, e1, e2, e3, e4⟩ := rok.look hnk
      have ef : knotsF (getW g) (keysG g) ((sortS (keysG g)).take (j + 1)) = stepK (getW g) (keysG g) (knotsF (getW g) (keysG g) ((sortS (keysG g)).take j)) n := by rw [take_snoc hn, knotsF_snoc]
      refine u_gN rfl f3 ?_
      walk_at "ss"
      refine p_ixD (key := .inr n) (d := sL L) rfl (by rw [lookK_map, e1]; rfl) ?_
      walk_at "ss"
      refine k_ifD (fun hL => ?_) (fun hL => ?_)
      · have hself := (e3 n).mp hL
        walk_at "ss"
        refine p_ixD (key := .inr n) (d := sL L) rfl (by rw [lookK_map, e1]; rfl) ?_
        walk_at "ss"
        have hlk : ∀ o ∈ keysG g, ∃ Lo, RL.lookup o = some Lo ∧ (n ∈ Lo ↔ Rch (getW g) o n) := fun o ho => by
          obtain ⟨Lo, a1, _, a3, _⟩ := rok.look ho
          exact ⟨Lo, a1, a3 n⟩
        refine k_lcM L D.str (fun o => decide (o ∈ keysG g ∧ Rch (getW g) o n)) D.str [.sh (encG g), .ow false (.dct (RL.map fun p => (Sum.inr p.1, sL p.2))), .ow false (.lst ((knotsF (getW g) (keysG g) ((sortS (keysG g)).take j)).map sL)), .sh (.str n), n4, .un] rfl (small16 (by omega)) (free1 rfl f5) rfl ?_ ?_
        · intro o acc I ho _ h1 h2
          walk_at "ss"
          rw [lookK_map]
          by_cases hok : o ∈ keysG g
          · obtain ⟨Lo, a1, a2⟩ := hlk o hok
            rw [a1]
            refine k_and (fun _ => ?_) (fun z => by cases z)
            walk_at "ss"
            refine p_ixD (key := .inr o) (d := sL Lo) rfl (by rw [lookK_map, a1]; rfl) ?_
            walk_at "ss"
            refine k_lcT (fun hb => ?_) (fun hb => ?_)
            · walk_at "ss"
              refine k_lcE rfl (by assumption) ?_
              exact h1 (decide_eq_true ⟨hok, a2.mp (of_decide_eq_true hb)⟩)
            · exact h2 (decide_eq_false fun z => of_decide_eq_false hb (a2.mpr z.2))
          · have : RL.lookup o = none := lookup_none_iff.mpr (by rw [rok.keys]; exact hok)
            rw [this]
            refine k_and (fun z => by cases z) (fun _ => ?_)
            refine k_lcT (fun z => by cases z) (fun _ => h2 (decide_eq_false fun z => hok z.1))
        · walk_at "ss"
          have hkn : (L.filter fun o => decide (o ∈ keysG g ∧ Rch (getW g) o n)).Nodup := e2.filter _
          have hkm : ∀ x, x ∈ (L.filter fun o => decide (o ∈ keysG g ∧ Rch (getW g) o n)) ↔ x ∈ keysG g ∧ Rch (getW g) n x ∧ Rch (getW g) x n := fun x => by
            rw [List.mem_filter, e3]
            simp
            exact ⟨fun z => ⟨z.2.1, z.1, z.2.2⟩, fun z => ⟨z.2.1, z.1, z.2.2⟩⟩
          have hkl : (L.filter fun o => decide (o ∈ keysG g ∧ Rch (getW g) o n)).length ≤ 40 := Nat.le_trans (nodup_le hkn fun x hx => ((hkm x).mp hx).1) kl
          refine p_sortS (by omega) fun ys hp hs => ?_
          have ey : ys = knotF (getW g) (keysG g) n := knotF_of ok.nd hkn hkm hp hs
          subst ey
          walk_at "ss"
          refine k_set rfl f4 ?_
          walk_at "ss"
          refine p_inL (k := knotF (getW g) (keysG g) n) (fun s hs => ?_) (fun ss hss => mem_knotsF_ok ok hss) ?_
          · obtain ⟨p, hp, e⟩ := List.mem_map.mp (mem_knotF.mp hs).1
            exact e ▸ (ok.tx p hp).1.ok
          walk_at "ss"
          have hpl := placed_iff (W := getW g) (ns := (sortS (keysG g)).take j) hnk hself
          refine k_ifN (fun hno => ?_) (fun hyes => ?_)
          · walk_at "ss"
            refine k_app rfl rfl ?_ ?_
            · have h1 := knotsF_len (W := getW g) (ks := keysG g) ((sortS (keysG g)).take j)
              rw [List.length_map]
              have h2 : ((sortS (keysG g)).take j).length ≤ (sortS (keysG g)).length := by rw [List.length_take]; omega
              have h3 := (sortS_perm (keysG g)).length_eq
              exact small16 (by omega)
            · walk_at "ss"
              refine ⟨.sh (.str n), .sh (sL (knotF (getW g) (keysG g) n)), .un, ?_, rfl, rfl, rfl⟩
              rw [ef]
              unfold stepK
              rw [if_pos ⟨hself, fun k hk hn => hno (hpl.mp ⟨k, hk, hn⟩)⟩, List.map_append]
              rfl
          · walk_at "ss"
            refine ⟨.sh (.str n), .ow false (.lst ((knotF (getW g) (keysG g) n).map D.str)), .un, ?_, rfl, rfl, rfl⟩
            rw [ef]
            unfold stepK
            rw [if_neg]
            rintro ⟨_, z⟩
            obtain ⟨k, hk, hn⟩ := hpl.mpr hyes
            exact z k hk hn
      · walk_at "ss"
        refine ⟨.sh (.str n), n4, n5, ?_, rfl, f4, f5⟩
        rw [ef]
        unfold stepK
        rw [if_neg]
        exact fun z => hL ((e3 n).mpr z.1)
    · rintro ρ' ⟨n3, n4, n5, rfl, f3, f4, f5⟩
      rw [List.length_map, List.take_length]
      walk_at "ss"
      exact q
end WL

set_option Elab.async false
set_option linter.all false
set_option maxRecDepth 100000
set_option maxHeartbeats 4000000
namespace WL
open PySem PySem.Spec PyProof.Rows L2
local macro_rules | `(tactic| walk_at "s") => `(tactic| first
  | ((with_reducible show vSeq _ _ _ _); refine u_seq ?_)
  | ((with_reducible show vSet _ _ _ _); refine u_set ?_)
  | ((with_reducible show kSet _ _ _ _); refine k_set rfl rfl ?_)
  | ((with_reducible show vRet _ _ _); refine u_ret ?_)
  | ((with_reducible show vIf _ _ _ _ _); refine u_if ?_)
  | ((with_reducible show vExpr _ _ _); refine u_expr ?_)
  | ((with_reducible show kExpr _ _ _); refine k_expr ?_)
  | ((with_reducible show vRetN _ _); refine u_retN ?_)
  | ((with_reducible show vAsg _ _ _ _); refine u_asg ?_)
  | ((with_reducible show kAsg _ _ _ _); refine k_asg rfl ?_)
  | ((with_reducible show vNext _ _); refine u_next ?_)
  | ((with_reducible show vBreak _ _); refine u_break ?_)
  | ((with_reducible show vCont _ _); refine u_cont ?_)
  | ((with_reducible show kIf _ _ _ _ _); (first | refine k_ifT ?_ | refine k_ifF ?_))
  | ((with_reducible show vVal _ _ _); refine u_val ?_)
  | ((with_reducible show kVal _ _ _); refine k_val ?_)
  | ((with_reducible show vPk _ _ _); refine u_pk rfl rfl ?_)
  | ((with_reducible show vC _ _ _); refine u_c ?_)
  | ((with_reducible show vVar _ _ _); (first | refine u_var rfl ?_ | refine u_varL rfl ?_ | refine u_varD rfl ?_ | refine u_varE rfl ?_))
  | ((with_reducible show vMv _ _ _); (first | refine u_mv rfl ?_ | refine u_mvO rfl ?_))
  | ((with_reducible show vBin _ _ _ _ _); refine u_bin ?_)
  | ((with_reducible show kBin1 _ _ _ _ _); refine k_bin1 ?_)
  | ((with_reducible show kBin2 _ _ _ _ _); refine k_bin2 rfl rfl ?_)
  | ((with_reducible show vUn _ _ _ _); refine u_un ?_)
  | ((with_reducible show kUn _ _ _ _); refine k_un rfl ?_)
  | ((with_reducible show vCons _ _ _ _); refine u_cons ?_)
  | ((with_reducible show kCons1 _ _ _ _); refine k_cons1 ?_)
  | ((with_reducible show vNil _ _); refine u_nil ?_)
  | ((with_reducible show kCons2 _ _ _ _); refine k_cons2 ?_)
  | ((with_reducible show vPrim _ _ _ _); refine u_prim ?_)
  | ((with_reducible show kPrim _ _ _ _); (first | refine k_prim1 rfl ?_ | refine k_prim2 rfl rfl ?_))
  | ((with_reducible show kRet _ _ _); (first | refine k_retV ?_ | refine k_retL ?_ | refine k_retT ?_ | refine k_retD ?_))
  | ((with_reducible show vSh _ _ _); refine u_sh ?_)
  | ((with_reducible show kSh _ _ _); (first | refine k_sh ?_ | refine k_shL ?_ | refine k_shD ?_))
  | ((with_reducible show vT _ _ _); refine u_t ?_)
  | ((with_reducible show kT _ _ _); refine k_t ?_)
  | ((with_reducible show vTru _ _ _); refine u_tru ?_)
  | ((with_reducible show kTru _ _ _); refine k_tru rfl rfl ?_)
  | ((with_reducible show vAnd _ _ _ _); refine u_and ?_)
  | ((with_reducible show kAnd _ _ _ _); (first | refine k_andT ?_ | refine k_andF ?_))
  | ((with_reducible show vOr _ _ _ _); refine u_or ?_)
  | ((with_reducible show kOr _ _ _ _); (first | refine k_orT ?_ | refine k_orF ?_))
  | ((with_reducible show vNot _ _ _); refine u_not ?_)
  | ((with_reducible show kNot _ _ _); refine k_not ?_)
  | ((with_reducible show vAndV _ _ _ _); refine u_andV ?_)
  | ((with_reducible show kAndV _ _ _ _); (first | refine k_andVT ?_ | refine k_andVF ?_))
  | ((with_reducible show kOrV _ _ _ _); (first | refine k_orVT ?_ | refine k_orVF ?_))
  | ((with_reducible show vOrV _ _ _ _); refine u_orV ?_)
  | ((with_reducible show vNotV _ _ _); refine u_notV ?_)
  | ((with_reducible show kNotV _ _ _); refine k_notV ?_)
  | ((with_reducible show vIfE _ _ _ _ _); refine u_ifE ?_)
  | ((with_reducible show kIfE _ _ _ _ _); (first | refine k_ifET ?_ | refine k_ifEF ?_))
  | ((with_reducible show vLst _ _ _); refine u_lst ?_)
  | ((with_reducible show kLst _ _ _); refine k_lst rfl (by simp only [List.length_cons, List.length_nil]; decide) ?_)
  | ((with_reducible show vTup _ _ _); refine u_tup ?_)
  | ((with_reducible show kTup _ _ _); refine k_tup rfl (by simp only [List.length_cons, List.length_nil]; decide) ?_)
  | ((with_reducible show vNewD _ _); refine u_newD ?_)
  | ((with_reducible show vSl _ _ _ _ _); refine u_sl ?_)
  | ((with_reducible show kSl0 _ _ _ _ _); refine k_sl0 ?_)
  | ((with_reducible show kSl1 _ _ _ _ _); refine k_sl1 ?_)
  | ((with_reducible show kSl2 _ _ _ _ _); refine k_sl2 rfl ?_)
  | ((with_reducible show vNoPart _ _); refine u_noPart ?_)
  | ((with_reducible show vPart _ _ _); refine u_part ?_)
  | ((with_reducible show kPart _ _ _); refine k_part ?_)
  | ((with_reducible show vApp _ _ _ _); refine u_app rfl ?_)
  | ((with_reducible show vPopAt _ _ _ _); refine u_popAt rfl ?_)
  | ((with_reducible show vExt _ _ _ _); refine u_ext rfl ?_)
  | ((with_reducible show vM1 _ _ _ _ _); refine u_m1 ?_)
  | ((with_reducible show kM1a _ _ _ _ _); refine k_m1a rfl ?_)
  | ((with_reducible show kM1b _ _ _ _ _); refine k_m1b rfl rfl ?_)
  | ((with_reducible show vGet2 _ _ _ _ _); refine u_get2 ?_)
  | ((with_reducible show kGet1 _ _ _ _ _); refine k_get1 rfl ?_)
  | ((with_reducible show kGet2 _ _ _ _ _); refine k_get2 ?_)
  | ((with_reducible show vSetL _ _ _ _ _); refine u_setL ?_)
  | ((with_reducible show kSetL1 _ _ _ _ _); refine k_setL1 rfl ?_)
  | ((with_reducible show kSetL2 _ _ _ _ _); (first | refine k_setL2j 0 rfl rfl (by simp) rfl ?_ | refine k_setL2j 1 rfl rfl (by simp) rfl ?_ | refine k_setL2j 2 rfl rfl (by simp) rfl ?_))
  | ((with_reducible show vPutD _ _ _ _ _); refine u_putD ?_)
  | ((with_reducible show kPutD1 _ _ _ _ _); refine k_putD1 rfl ?_)
  | ((with_reducible show vAugL _ _ _ _ _ _); refine u_augL rfl ?_)
  | ((with_reducible show kAugL1 _ _ _ _ _ _); (first | refine k_augL1j 0 rfl rfl rfl ?_ | refine k_augL1j 1 rfl rfl rfl ?_ | refine k_augL1j 2 rfl rfl rfl ?_))
  | ((with_reducible show kAugL2 _ _ _ _ _ _ _); refine k_augL2j rfl (by simp) ?_)
  | ((with_reducible show vAug _ _ _ _ _); refine u_aug rfl ?_)
  | ((with_reducible show kAug _ _ _ _ _ _); (first | refine k_augAdd rfl ?_ | refine k_augSub rfl ?_))
  | ((with_reducible show vCall _ _ _ _); refine u_call ?_)
  | ((with_reducible show gN _ _ _ _); refine u_gN rfl rfl ?_)
  | ((with_reducible show gT _ _ _ _); refine u_gT rfl ?_)
  | ((with_reducible show gL _ _ _ _); refine u_gL rfl rfl ?_)
  | ((with_reducible show gTs _ _ _ _); (first | refine u_gTs0 ?_ | refine u_gTs ?_))
  | ((with_reducible show vItL _ _ _); refine u_itL ?_)
  | ((with_reducible show kItL _ _ _); refine k_itL rfl rfl ?_)
  | ((with_reducible show vItT _ _ _); refine u_itT ?_)
  | ((with_reducible show kItT _ _ _); refine k_itT rfl rfl ?_)
  | ((with_reducible show vItR1 _ _ _); refine u_itR1 ?_)
  | ((with_reducible show vItR2 _ _ _); refine u_itR2 ?_)
  | ((with_reducible show vFor _ _ _ _ _); refine u_for ?_)
  | ((with_reducible show vLc _ _ _ _ _ _ _); refine u_lc ?_)
  | ((with_reducible show vLcK _ _ _ _ _ _ _); refine u_lcK rfl ?_)
  | ((with_reducible show vYes _ _); refine u_yes ?_)
  | ((with_reducible show kLcT _ _ _ _ _ _); refine k_lcTT ?_)
  | ((with_reducible show addP _ _); refine p_addI ?_)
  | ((with_reducible show subP _ _); refine p_subI ?_)
  | ((with_reducible show mulP _ _); (first | refine p_mulI (.inl (.inl (by omega))) ?_ | refine p_mulI (.inl (.inr (by omega))) ?_))
  | ((with_reducible show modP _ _); refine p_modI (by omega) ?_)
  | ((with_reducible show divP _ _); refine p_divI (.inl (by constructor <;> omega)) ?_)
  | ((with_reducible show negP _ _); refine p_negI ?_)
  | ((with_reducible show ltP _ _); refine p_ltI ?_)
  | ((with_reducible show leP _ _); refine p_leI ?_)
  | ((with_reducible show gtP _ _); refine p_gtI ?_)
  | ((with_reducible show geP _ _); refine p_geI ?_)
  | ((with_reducible show eqP _ _); (first | refine p_eqI ?_ | refine p_eqS ?_ | refine p_eqB ?_ | refine p_eqN ?_))
  | ((with_reducible show neP _ _); (first | refine p_neI ?_ | refine p_neS ?_ | refine p_neB ?_))
  | ((with_reducible show isNP _ _); (first | refine p_isNn ?_ | refine p_isNi ?_ | refine p_isNs ?_ | refine p_isNb ?_ | refine p_isNl ?_ | refine p_isNt ?_ | refine p_isNd ?_))
  | ((with_reducible show notNP _ _); (first | refine p_notNn ?_ | refine p_notNi ?_ | refine p_notNs ?_ | refine p_notNb ?_ | refine p_notNl ?_ | refine p_notNt ?_ | refine p_notNd ?_))
  | ((with_reducible show isiP _ _); refine p_isi rfl rfl ?_)
  | ((with_reducible show isiTP _ _); refine p_isiT rfl rfl ?_)
  | ((with_reducible show reprP _ _); (first | refine p_reprB ?_ | refine p_reprN ?_))
  | ((with_reducible show lenP _ _); (first | refine p_lenL ?_ | refine p_lenF ?_ | refine p_lenT ?_ | refine p_lenD ?_))
  | ((with_reducible show absP _ _); refine p_absI ?_)
  | ((with_reducible show intP _ _); refine p_intI ?_)
  | ((with_reducible show listP _ _); (first | refine p_listL ?_ | refine p_listF ?_ | refine p_listD ?_))
  | ((with_reducible show ixP _ _); (first | refine p_ixLj 0 rfl rfl ?_ | refine p_ixLj 1 rfl rfl ?_ | refine p_ixLj 2 rfl rfl ?_ | refine p_ixLj 3 rfl rfl ?_ | refine p_ixTj 0 rfl rfl ?_ | refine p_ixTj 1 rfl rfl ?_ | refine p_ixTj 2 rfl rfl ?_ | refine p_ixTj 3 rfl rfl ?_))
  | ((with_reducible show inP _ _ _); (first | refine p_inS0 ?_ | refine p_inS1 ?_ | refine p_inI0 ?_ | refine p_inI1 ?_ | refine p_inD0 rfl ?_ | refine p_inD1 rfl ?_))
  | ((with_reducible show slP _ _ _ _); (first | refine p_slL ?_ | refine p_slF ?_))
  | ((with_reducible show sumP _ _); refine p_sum ?_)
  | ((with_reducible show maxP _ _); refine p_max2 ?_)
  | ((with_reducible show minP _ _); refine p_min2 ?_)
  | ((with_reducible show allP _ _); refine p_all ?_)
  | ((with_reducible show anyP _ _); refine p_any ?_))
local macro_rules | `(tactic| walk_at "s") => `(tactic| first
  | ((with_reducible show vDc _ _ _ _ _ _ _ _); refine u_dc ?_)
  | ((with_reducible show vDcK _ _ _ _ _ _ _ _); refine u_dcK rfl ?_)
  | ((with_reducible show kDcT _ _ _ _ _ _ _); refine k_dcTT ?_)
  | ((with_reducible show kDcK _ _ _ _ _ _); refine k_dcK ?_)
  | ((with_reducible show vDisp1 _ _ _ _); refine u_disp1 ?_)
  | ((with_reducible show kDisp1 _ _ _ _); refine k_disp1 ?_)
  | ((with_reducible show kDisp2 _ _ _ _); refine k_disp2 rfl rfl ?_)
  | ((with_reducible show vShR _ _ _); refine u_shR ?_)
  | ((with_reducible show kShR _ _ _); refine k_shR ?_)
  | ((with_reducible show vPutR _ _ _ _ _); refine u_putR ?_))
local macro_rules | `(tactic| walk_at "ss") => `(tactic| repeat walk_at "s")
local macro_rules | `(tactic| walk_at "back") => `(tactic| refine k_back ?_ (by dsimp only [takeBack, backS, List.set, List.getElem?_cons_zero, List.getElem?_cons_succ]))
def v_knots_of : VS :=
  vSeq (vSet 1 (vDcK 0 (gN 4) vYes (vVar 4) (vCall S_reached_names (vCons (vVal (vVar 0)) (vCons (vVal (vVar 4)) (vNil)))) [4]))
    (vSeq (vSet 2 (vNewD))
    (vSeq (vSet 3 (vLst (vNil)))
    (vSeq (vFor (vItL (vPrim sortDP (vCons (vPk 1) (vNil)))) (gN 4) (vSeq (vIf (vOr (vT (vBin (inP false) (vPk 4) (vPk 2))) (vT (vBin (inP true) (vPk 4) (vVal (vBin ixP (vPk 1) (vPk 4)))))) (vCont) (vNext))
    (vSeq (vSet 5 (vPrim sortedP (vCons (vVal (vLcKix 1 4 (gN 6) (vAnd (vT (vBin (inP false) (vPk 6) (vPk 1))) (vT (vBin (inP false) (vPk 4) (vVal (vBin ixP (vPk 1) (vPk 6)))))) (vVar 6) [6])) (vNil))))
    (vSeq (vForO 5 (gN 6) (vPutD 2 (vVar 6) (vC (.bl true))))
    (vExpr (vAppR 3 (vMv 5)))))))
    (vRet (vMvR 3)))))
/-! knots_of -/
theorem put_true_old {L : List Str} {x : Str} (h : x ∈ L) : putD (dTrue L) (.inr x) (.bl true) = dTrue L := by
  unfold putD
  rw [if_pos (List.any_eq_true.mpr ⟨(.inr x, .bl true), by unfold dTrue; exact List.mem_map_of_mem h, by simp⟩)]
  unfold dTrue
  rw [List.map_map]
  refine List.map_congr_left fun y _ => ?_
  show (if (Sum.inr y : Key) = Sum.inr x then _ else _) = _
  split <;> rfl
def S_knots_of : VSp := fun ρs R _ => ∃ g, ρs = [.sh (encG g)] ∧ GOk g ∧ R (.rw none ((theKnots g).map fun k => k.map D.str)) [.sh (encG g)]
open Classical in
theorem rd_knots_of : Reads S_knots_of (fun _ => v_knots_of) 6 := fun ρs R _ h => by
  obtain ⟨g, rfl, ok, q⟩ := h
  have kl := keys_len ok
  unfold v_knots_of
  show vSeq _ _ _ [.sh (encG g), .un, .un, .un, .un, .un, .un]
  walk_at "ss"
  refine k_dc (free1 rfl rfl) (fun j acc ρ => ρ = [.sh (encG g), .un, .un, .un, .un, .un, .un] ∧ ∃ RL, ROk g ((keysG g).take j) RL ∧ acc = RL.map fun p => ((Sum.inr p.1 : Key), D.dct (dTrue p.2))) ⟨rfl, [], ⟨by simp, by simp⟩, rfl⟩ ?_ ?_
  · rintro j acc d ρ' hj ⟨rfl, RL, rok, rfl⟩
    obtain ⟨n, hn, rfl⟩ := keyAt hj
    walk_at "ss"
    refine k_call rfl ⟨g, n, rfl, ok, fun L l1 l2 l3 => ?_⟩
    walk_at "back"
    have rl := rok.len
    refine k_dcV (key := .inr n) rfl rfl (by rw [List.length_map, rl, List.length_take]; exact small16 (by omega)) ?_
    refine ⟨rfl, RL ++ [(n, L)], by rw [take_snoc hn]; exact rok.snoc l1 l2 l3, ?_⟩
    rw [putD_new, List.map_append]
    · rfl
    · intro kv hkv e
      obtain ⟨p, hp, rfl⟩ := List.mem_map.mp hkv
      have e' : p.1 = n := by cases e; rfl
      have h1 : n ∈ (keysG g).take j := by rw [← rok.keys, ← e']; exact List.mem_map_of_mem hp
      have hnd : ((keysG g).take j ++ [n]).Nodup := by rw [← take_snoc hn]; exact ok.nd.sublist (List.take_sublist _ _)
      exact (List.nodup_append.mp hnd).2.2 n h1 n (by simp) rfl
  · rintro acc ρ' ⟨rfl, RL, rok, rfl⟩
    rw [keysAll, List.take_length] at rok
    walk_at "ss"
    refine p_sortD (ks := keysG g) (by rw [← rok.keys, List.map_map, List.map_map]; rfl) (by omega) ?_
    walk_at "ss"
    refine k_for (fun j ρ => ∃ (P : List Str) (n3 n4 n5 n6 : Slot), ρ = [.sh (encG g), .ow false (.dct (RL.map fun p => ((Sum.inr p.1 : Key), D.dct (dTrue p.2)))), .ow false (.dct (dTrue P)), n3, n4, n5, n6] ∧
        (n3 = .rw none ((knotsF (getW g) (keysG g) ((sortS (keysG g)).take j)).map fun k => k.map D.str) ∨ ((knotsF (getW g) (keysG g) ((sortS (keysG g)).take j)).map (fun k => k.map D.str) = [] ∧ n3 = .ow false (.lst []))) ∧
        P.Nodup ∧ (∀ x, x ∈ P ↔ ∃ k ∈ knotsF (getW g) (keysG g) ((sortS (keysG g)).take j), x ∈ k) ∧ n4.free = true ∧ n5.free = true ∧ n6.free = true)
      ⟨[], .ow false (.lst []), .un, .un, .un, rfl, .inr ⟨rfl, rfl⟩, .nil, fun x => by simp [knotsF], rfl, rfl, rfl⟩ ?_ ?_
    · rintro j d ρ' hj ⟨P, n3, n4, n5, n6, rfl, h3, pnd, pmem, f4, f5, f6⟩
      rw [List.getElem?_map] at hj
      obtain ⟨n, hn, ed⟩ := Option.map_eq_some_iff.mp hj
      subst ed
      have hnk : n ∈ keysG g := mem_sortS.mp (List.mem_of_getElem? hn)
      obtain ⟨L, e1, e2, e3, e4⟩ := rok.look hnk
      have hlook : ∀ o Lo, RL.lookup o = some Lo → lookK (RL.map fun p => ((Sum.inr p.1 : Key), D.dct (dTrue p.2))) (.inr o) = some (.dct (dTrue Lo)) := fun o Lo z => by
        rw [lookK_map (f := fun L => D.dct (dTrue L)), z]; rfl
      have ef : knotsF (getW g) (keysG g) ((sortS (keysG g)).take (j + 1)) = stepK (getW g) (keysG g) (knotsF (getW g) (keysG g) ((sortS (keysG g)).take j)) n := by rw [take_snoc hn, knotsF_snoc]
      have pk : ∀ x ∈ P, x ∈ keysG g := fun x hx => by
        obtain ⟨k, hk, hxk⟩ := (pmem x).mp hx
        obtain ⟨m, _, _, e⟩ := knotsF_mem _ _ hk
        subst e
        exact (mem_knotF.mp hxk).1
      refine u_gN rfl f4 ?_
      walk_at "ss"
      rw [lookK_true]
      have stay : (¬ (Rch (getW g) n n ∧ ∀ k ∈ knotsF (getW g) (keysG g) ((sortS (keysG g)).take j), n ∉ k)) → knotsF (getW g) (keysG g) ((sortS (keysG g)).take (j + 1)) = knotsF (getW g) (keysG g) ((sortS (keysG g)).take j) := fun z => by
        rw [ef]; unfold stepK; rw [if_neg z]
      refine k_or (fun hb => ?_) (fun hb => ?_)
      · have hp := (pmem n).mp (of_decide_eq_true hb)
        obtain ⟨k, hk, hnk'⟩ := hp
        have es := stay fun z => z.2 k hk hnk'
        walk_at "ss"
        exact ⟨P, n3, .sh (.str n), n5, n6, rfl, by rw [es]; exact h3, pnd, by rw [es]; exact pmem, rfl, f5, f6⟩
      · have hnp : n ∉ P := of_decide_eq_false hb
        walk_at "ss"
        refine p_ixD (key := .inr n) (d := .dct (dTrue L)) rfl (hlook n L e1) ?_
        walk_at "ss"
        rw [lookK_true]
        refine k_ifN (fun hL => ?_) (fun hL => ?_)
        · have es := stay fun z => hL ((e3 n).mpr z.1)
          walk_at "ss"
          exact ⟨P, n3, .sh (.str n), n5, n6, rfl, by rw [es]; exact h3, pnd, by rw [es]; exact pmem, rfl, f5, f6⟩
        · have hself := (e3 n).mp hL
          have hgo : Rch (getW g) n n ∧ ∀ k ∈ knotsF (getW g) (keysG g) ((sortS (keysG g)).take j), n ∉ k := ⟨hself, fun k hk z => hnp ((pmem n).mpr ⟨k, hk, z⟩)⟩
          walk_at "ss"
          refine u_lcKix (kvs := dTrue L) rfl rfl rfl rfl (hlook n L e1) ?_
          have hlk : ∀ o ∈ keysG g, ∃ Lo, RL.lookup o = some Lo ∧ (n ∈ Lo ↔ Rch (getW g) o n) := fun o ho => by
            obtain ⟨Lo, a1, _, a3, _⟩ := rok.look ho
            exact ⟨Lo, a1, a3 n⟩
          refine k_lcM L D.str (fun o => decide (o ∈ keysG g ∧ Rch (getW g) o n)) D.str [.sh (encG g), .ow false (.dct (RL.map fun p => ((Sum.inr p.1 : Key), D.dct (dTrue p.2)))), .ow false (.dct (dTrue P)), n3, .sh (.str n), n5, .un] (by unfold dTrue; rw [List.map_map]; rfl) (small16 (by omega)) (free1 rfl f6) rfl ?_ ?_
          · intro o acc I ho _ h1 h2
            walk_at "ss"
            rw [lookK_map (f := fun L => D.dct (dTrue L))]
            by_cases hok : o ∈ keysG g
            · obtain ⟨Lo, a1, a2⟩ := hlk o hok
              rw [a1]
              refine k_and (fun _ => ?_) (fun z => by cases z)
              walk_at "ss"
              refine p_ixD (key := .inr o) (d := .dct (dTrue Lo)) rfl (hlook o Lo a1) ?_
              walk_at "ss"
              rw [lookK_true]
              refine k_lcT (fun hb => ?_) (fun hb => ?_)
              · walk_at "ss"
                refine k_lcE rfl (by assumption) ?_
                exact h1 (decide_eq_true ⟨hok, a2.mp (of_decide_eq_true hb)⟩)
              · exact h2 (decide_eq_false fun z => of_decide_eq_false hb (a2.mpr z.2))
            · have : RL.lookup o = none := lookup_none_iff.mpr (by rw [rok.keys]; exact hok)
              rw [this]
              refine k_and (fun z => by cases z) (fun _ => ?_)
              refine k_lcT (fun z => by cases z) (fun _ => h2 (decide_eq_false fun z => hok z.1))
          · walk_at "ss"
            have hkn : (L.filter fun o => decide (o ∈ keysG g ∧ Rch (getW g) o n)).Nodup := e2.filter _
            have hkm : ∀ x, x ∈ (L.filter fun o => decide (o ∈ keysG g ∧ Rch (getW g) o n)) ↔ x ∈ keysG g ∧ Rch (getW g) n x ∧ Rch (getW g) x n := fun x => by
              rw [List.mem_filter, e3]
              simp
              exact ⟨fun z => ⟨z.2.1, z.1, z.2.2⟩, fun z => ⟨z.2.1, z.1, z.2.2⟩⟩
            have hkl : (L.filter fun o => decide (o ∈ keysG g ∧ Rch (getW g) o n)).length ≤ 40 := Nat.le_trans (nodup_le hkn fun x hx => ((hkm x).mp hx).1) kl
            refine p_sortS (by omega) fun ys hp hs => ?_
            have ey : ys = knotF (getW g) (keysG g) n := knotF_of ok.nd hkn hkm hp hs
            subst ey
            walk_at "ss"
            refine k_set rfl f5 ?_
            walk_at "ss"
            refine u_forO rfl (fun j2 ρ => ∃ (P2 : List Str) (m6 : Slot), ρ = [.sh (encG g), .ow false (.dct (RL.map fun p => ((Sum.inr p.1 : Key), D.dct (dTrue p.2)))), .ow false (.dct (dTrue P2)), n3, .sh (.str n), .ow true (.lst ((knotF (getW g) (keysG g) n).map D.str)), m6] ∧ P2.Nodup ∧ (∀ x, x ∈ P2 ↔ x ∈ P ∨ x ∈ (knotF (getW g) (keysG g) n).take j2) ∧ m6.free = true)
              ⟨P, .un, rfl, pnd, fun x => by simp, rfl⟩ ?_ ?_
            · rintro j2 d ρ' hj2 ⟨P2, m6, rfl, p2nd, p2mem, g6⟩
              rw [List.getElem?_map] at hj2
              obtain ⟨o, ho, ed⟩ := Option.map_eq_some_iff.mp hj2
              subst ed
              refine ⟨rfl, u_gN rfl g6 ?_⟩
              walk_at "ss"
              have p2l : P2.length ≤ 40 := Nat.le_trans (nodup_le p2nd fun x hx => by
                rcases (p2mem x).mp hx with z | z
                · exact pk x z
                · exact (mem_knotF.mp (List.mem_of_mem_take z)).1) kl
              refine k_putD2 rfl rfl (by rw [dTrue_len]; exact small16 (by omega)) rfl ?_
              by_cases hop : o ∈ P2
              · rw [put_true_old hop]
                refine ⟨P2, .sh (.str o), rfl, p2nd, fun x => ?_, rfl⟩
                rw [p2mem, take_snoc ho, List.mem_append]
                constructor
                · rintro (z | z)
                  · exact .inl z
                  · exact .inr (.inl z)
                · rintro (z | z | z)
                  · exact .inl z
                  · exact .inr z
                  · have : x = o := by simpa using z
                    subst this; exact (p2mem x).mp hop
              · rw [put_true hop]
                refine ⟨P2 ++ [o], .sh (.str o), rfl, ?_, fun x => ?_, rfl⟩
                · exact List.nodup_append.mpr ⟨p2nd, by simp, fun a ha b hb z => by
                    have : b = o := by simpa using hb
                    subst this; subst z; exact hop ha⟩
                · rw [List.mem_append, p2mem, take_snoc ho, List.mem_append, or_assoc]
            · rintro ρ' ⟨P2, m6, rfl, p2nd, p2mem, g6⟩
              refine ⟨rfl, ?_⟩
              rw [List.length_map, List.take_length] at p2mem
              dsimp only [List.set]
              walk_at "ss"
              have hfl : (knotsF (getW g) (keysG g) ((sortS (keysG g)).take j)).length < 1000000 := by
                have h1 := knotsF_len (W := getW g) (ks := keysG g) ((sortS (keysG g)).take j)
                have h2 : ((sortS (keysG g)).take j).length ≤ (sortS (keysG g)).length := by rw [List.length_take]; omega
                have h3 := (sortS_perm (keysG g)).length_eq
                omega
              have ir : ∀ {a b c : Slot} {r : List Slot}, isRows (a :: b :: c :: n3 :: r) 3 ((knotsF (getW g) (keysG g) ((sortS (keysG g)).take j)).map fun k => k.map D.str) := fun {a b c r} => h3.imp (fun e => by rw [e]; rfl) (fun e => ⟨e.1, by rw [e.2]; rfl⟩)
              refine u_appR ir ?_
              walk_at "ss"
              refine k_appR ir (by rw [List.length_map]; exact small16 hfl) ?_
              dsimp only [List.set]
              walk_at "ss"
              have en : knotsF (getW g) (keysG g) ((sortS (keysG g)).take (j + 1)) = knotsF (getW g) (keysG g) ((sortS (keysG g)).take j) ++ [knotF (getW g) (keysG g) n] := by
                rw [ef]; unfold stepK; rw [if_pos hgo]
              refine ⟨P2, _, .sh (.str n), .un, m6, rfl, .inl (by rw [en, List.map_append]; rfl), p2nd, fun x => ?_, rfl, rfl, g6⟩
              rw [p2mem, en, pmem]
              constructor
              · rintro (⟨k, hk, z⟩ | z)
                · exact ⟨k, List.mem_append_left _ hk, z⟩
                · exact ⟨_, List.mem_append_right _ (by simp), z⟩
              · rintro ⟨k, hk, z⟩
                rcases List.mem_append.mp hk with y | y
                · exact .inl ⟨k, y, z⟩
                · have : k = knotF (getW g) (keysG g) n := by simpa using y
                  subst this; exact .inr z
    · rintro ρ' ⟨P, n3, n4, n5, n6, rfl, h3, pnd, pmem, f4, f5, f6⟩
      rw [List.length_map, List.take_length] at h3
      walk_at "ss"
      refine u_mvR (rows := (theKnots g).map fun k => k.map D.str) (h3.imp (fun e => by rw [e]; rfl) (fun e => ⟨e.1, by rw [e.2]; rfl⟩)) ?_
      exact q
end WL

set_option Elab.async false
set_option linter.all false
set_option maxRecDepth 100000
set_option maxHeartbeats 4000000
namespace WL
open PySem PySem.Spec PyProof.Rows L2
local macro_rules | `(tactic| walk_at "s") => `(tactic| first
  | ((with_reducible show vSeq _ _ _ _); refine u_seq ?_)
  | ((with_reducible show vSet _ _ _ _); refine u_set ?_)
  | ((with_reducible show kSet _ _ _ _); refine k_set rfl rfl ?_)
  | ((with_reducible show vRet _ _ _); refine u_ret ?_)
  | ((with_reducible show vIf _ _ _ _ _); refine u_if ?_)
  | ((with_reducible show vExpr _ _ _); refine u_expr ?_)
  | ((with_reducible show kExpr _ _ _); refine k_expr ?_)
  | ((with_reducible show vRetN _ _); refine u_retN ?_)
  | ((with_reducible show vAsg _ _ _ _); refine u_asg ?_)
  | ((with_reducible show kAsg _ _ _ _); refine k_asg rfl ?_)
  | ((with_reducible show vNext _ _); refine u_next ?_)
  | ((with_reducible show vBreak _ _); refine u_break ?_)
  | ((with_reducible show vCont _ _); refine u_cont ?_)
  | ((with_reducible show kIf _ _ _ _ _); (first | refine k_ifT ?_ | refine k_ifF ?_))
  | ((with_reducible show vVal _ _ _); refine u_val ?_)
  | ((with_reducible show kVal _ _ _); refine k_val ?_)
  | ((with_reducible show vPk _ _ _); refine u_pk rfl rfl ?_)
  | ((with_reducible show vC _ _ _); refine u_c ?_)
  | ((with_reducible show vVar _ _ _); (first | refine u_var rfl ?_ | refine u_varL rfl ?_ | refine u_varD rfl ?_ | refine u_varE rfl ?_))
  | ((with_reducible show vMv _ _ _); (first | refine u_mv rfl ?_ | refine u_mvO rfl ?_))
  | ((with_reducible show vBin _ _ _ _ _); refine u_bin ?_)
  | ((with_reducible show kBin1 _ _ _ _ _); refine k_bin1 ?_)
  | ((with_reducible show kBin2 _ _ _ _ _); refine k_bin2 rfl rfl ?_)
  | ((with_reducible show vUn _ _ _ _); refine u_un ?_)
  | ((with_reducible show kUn _ _ _ _); refine k_un rfl ?_)
  | ((with_reducible show vCons _ _ _ _); refine u_cons ?_)
  | ((with_reducible show kCons1 _ _ _ _); refine k_cons1 ?_)
  | ((with_reducible show vNil _ _); refine u_nil ?_)
  | ((with_reducible show kCons2 _ _ _ _); refine k_cons2 ?_)
  | ((with_reducible show vPrim _ _ _ _); refine u_prim ?_)
  | ((with_reducible show kPrim _ _ _ _); (first | refine k_prim1 rfl ?_ | refine k_prim2 rfl rfl ?_))
  | ((with_reducible show kRet _ _ _); (first | refine k_retV ?_ | refine k_retL ?_ | refine k_retT ?_ | refine k_retD ?_))
  | ((with_reducible show vSh _ _ _); refine u_sh ?_)
  | ((with_reducible show kSh _ _ _); (first | refine k_sh ?_ | refine k_shL ?_ | refine k_shD ?_))
  | ((with_reducible show vT _ _ _); refine u_t ?_)
  | ((with_reducible show kT _ _ _); refine k_t ?_)
  | ((with_reducible show vTru _ _ _); refine u_tru ?_)
  | ((with_reducible show kTru _ _ _); refine k_tru rfl rfl ?_)
  | ((with_reducible show vAnd _ _ _ _); refine u_and ?_)
  | ((with_reducible show kAnd _ _ _ _); (first | refine k_andT ?_ | refine k_andF ?_))
  | ((with_reducible show vOr _ _ _ _); refine u_or ?_)
  | ((with_reducible show kOr _ _ _ _); (first | refine k_orT ?_ | refine k_orF ?_))
  | ((with_reducible show vNot _ _ _); refine u_not ?_)
  | ((with_reducible show kNot _ _ _); refine k_not ?_)
  | ((with_reducible show vAndV _ _ _ _); refine u_andV ?_)
  | ((with_reducible show kAndV _ _ _ _); (first | refine k_andVT ?_ | refine k_andVF ?_))
  | ((with_reducible show kOrV _ _ _ _); (first | refine k_orVT ?_ | refine k_orVF ?_))
  | ((with_reducible show vOrV _ _ _ _); refine u_orV ?_)
  | ((with_reducible show vNotV _ _ _); refine u_notV ?_)
  | ((with_reducible show kNotV _ _ _); refine k_notV ?_)
  | ((with_reducible show vIfE _ _ _ _ _); refine u_ifE ?_)
  | ((with_reducible show kIfE _ _ _ _ _); (first | refine k_ifET ?_ | refine k_ifEF ?_))
  | ((with_reducible show vLst _ _ _); refine u_lst ?_)
  | ((with_reducible show kLst _ _ _); refine k_lst rfl (by simp only [List.length_cons, List.length_nil]; decide) ?_)
  | ((with_reducible show vTup _ _ _); refine u_tup ?_)
  | ((with_reducible show kTup _ _ _); refine k_tup rfl (by simp only [List.length_cons, List.length_nil]; decide) ?_)
  | ((with_reducible show vNewD _ _); refine u_newD ?_)
  | ((with_reducible show vSl _ _ _ _ _); refine u_sl ?_)
  | ((with_reducible show kSl0 _ _ _ _ _); refine k_sl0 ?_)
  | ((with_reducible show kSl1 _ _ _ _ _); refine k_sl1 ?_)
  | ((with_reducible show kSl2 _ _ _ _ _); refine k_sl2 rfl ?_)
  | ((with_reducible show vNoPart _ _); refine u_noPart ?_)
  | ((with_reducible show vPart _ _ _); refine u_part ?_)
  | ((with_reducible show kPart _ _ _); refine k_part ?_)
  | ((with_reducible show vApp _ _ _ _); refine u_app rfl ?_)
  | ((with_reducible show vPopAt _ _ _ _); refine u_popAt rfl ?_)
  | ((with_reducible show vExt _ _ _ _); refine u_ext rfl ?_)
  | ((with_reducible show vM1 _ _ _ _ _); refine u_m1 ?_)
  | ((with_reducible show kM1a _ _ _ _ _); refine k_m1a rfl ?_)
  | ((with_reducible show kM1b _ _ _ _ _); refine k_m1b rfl rfl ?_)
  | ((with_reducible show vGet2 _ _ _ _ _); refine u_get2 ?_)
  | ((with_reducible show kGet1 _ _ _ _ _); refine k_get1 rfl ?_)
  | ((with_reducible show kGet2 _ _ _ _ _); refine k_get2 ?_)
  | ((with_reducible show vSetL _ _ _ _ _); refine u_setL ?_)
  | ((with_reducible show kSetL1 _ _ _ _ _); refine k_setL1 rfl ?_)
  | ((with_reducible show kSetL2 _ _ _ _ _); (first | refine k_setL2j 0 rfl rfl (by simp) rfl ?_ | refine k_setL2j 1 rfl rfl (by simp) rfl ?_ | refine k_setL2j 2 rfl rfl (by simp) rfl ?_))
  | ((with_reducible show vPutD _ _ _ _ _); refine u_putD ?_)
  | ((with_reducible show kPutD1 _ _ _ _ _); refine k_putD1 rfl ?_)
  | ((with_reducible show vAugL _ _ _ _ _ _); refine u_augL rfl ?_)
  | ((with_reducible show kAugL1 _ _ _ _ _ _); (first | refine k_augL1j 0 rfl rfl rfl ?_ | refine k_augL1j 1 rfl rfl rfl ?_ | refine k_augL1j 2 rfl rfl rfl ?_))
  | ((with_reducible show kAugL2 _ _ _ _ _ _ _); refine k_augL2j rfl (by simp) ?_)
  | ((with_reducible show vAug _ _ _ _ _); refine u_aug rfl ?_)
  | ((with_reducible show kAug _ _ _ _ _ _); (first | refine k_augAdd rfl ?_ | refine k_augSub rfl ?_))
  | ((with_reducible show vCall _ _ _ _); refine u_call ?_)
  | ((with_reducible show gN _ _ _ _); refine u_gN rfl rfl ?_)
  | ((with_reducible show gT _ _ _ _); refine u_gT rfl ?_)
  | ((with_reducible show gL _ _ _ _); refine u_gL rfl rfl ?_)
  | ((with_reducible show gTs _ _ _ _); (first | refine u_gTs0 ?_ | refine u_gTs ?_))
  | ((with_reducible show vItL _ _ _); refine u_itL ?_)
  | ((with_reducible show kItL _ _ _); refine k_itL rfl rfl ?_)
  | ((with_reducible show vItT _ _ _); refine u_itT ?_)
  | ((with_reducible show kItT _ _ _); refine k_itT rfl rfl ?_)
  | ((with_reducible show vItR1 _ _ _); refine u_itR1 ?_)
  | ((with_reducible show vItR2 _ _ _); refine u_itR2 ?_)
  | ((with_reducible show vFor _ _ _ _ _); refine u_for ?_)
  | ((with_reducible show vLc _ _ _ _ _ _ _); refine u_lc ?_)
  | ((with_reducible show vLcK _ _ _ _ _ _ _); refine u_lcK rfl ?_)
  | ((with_reducible show vYes _ _); refine u_yes ?_)
  | ((with_reducible show kLcT _ _ _ _ _ _); refine k_lcTT ?_)
  | ((with_reducible show addP _ _); refine p_addI ?_)
  | ((with_reducible show subP _ _); refine p_subI ?_)
  | ((with_reducible show mulP _ _); (first | refine p_mulI (.inl (.inl (by omega))) ?_ | refine p_mulI (.inl (.inr (by omega))) ?_))
  | ((with_reducible show modP _ _); refine p_modI (by omega) ?_)
  | ((with_reducible show divP _ _); refine p_divI (.inl (by constructor <;> omega)) ?_)
  | ((with_reducible show negP _ _); refine p_negI ?_)
  | ((with_reducible show ltP _ _); refine p_ltI ?_)
  | ((with_reducible show leP _ _); refine p_leI ?_)
  | ((with_reducible show gtP _ _); refine p_gtI ?_)
  | ((with_reducible show geP _ _); refine p_geI ?_)
  | ((with_reducible show eqP _ _); (first | refine p_eqI ?_ | refine p_eqS ?_ | refine p_eqB ?_ | refine p_eqN ?_))
  | ((with_reducible show neP _ _); (first | refine p_neI ?_ | refine p_neS ?_ | refine p_neB ?_))
  | ((with_reducible show isNP _ _); (first | refine p_isNn ?_ | refine p_isNi ?_ | refine p_isNs ?_ | refine p_isNb ?_ | refine p_isNl ?_ | refine p_isNt ?_ | refine p_isNd ?_))
  | ((with_reducible show notNP _ _); (first | refine p_notNn ?_ | refine p_notNi ?_ | refine p_notNs ?_ | refine p_notNb ?_ | refine p_notNl ?_ | refine p_notNt ?_ | refine p_notNd ?_))
  | ((with_reducible show isiP _ _); refine p_isi rfl rfl ?_)
  | ((with_reducible show isiTP _ _); refine p_isiT rfl rfl ?_)
  | ((with_reducible show reprP _ _); (first | refine p_reprB ?_ | refine p_reprN ?_))
  | ((with_reducible show lenP _ _); (first | refine p_lenL ?_ | refine p_lenF ?_ | refine p_lenT ?_ | refine p_lenD ?_))
  | ((with_reducible show absP _ _); refine p_absI ?_)
  | ((with_reducible show intP _ _); refine p_intI ?_)
  | ((with_reducible show listP _ _); (first | refine p_listL ?_ | refine p_listF ?_ | refine p_listD ?_))
  | ((with_reducible show ixP _ _); (first | refine p_ixLj 0 rfl rfl ?_ | refine p_ixLj 1 rfl rfl ?_ | refine p_ixLj 2 rfl rfl ?_ | refine p_ixLj 3 rfl rfl ?_ | refine p_ixTj 0 rfl rfl ?_ | refine p_ixTj 1 rfl rfl ?_ | refine p_ixTj 2 rfl rfl ?_ | refine p_ixTj 3 rfl rfl ?_))
  | ((with_reducible show inP _ _ _); (first | refine p_inS0 ?_ | refine p_inS1 ?_ | refine p_inI0 ?_ | refine p_inI1 ?_ | refine p_inD0 rfl ?_ | refine p_inD1 rfl ?_))
  | ((with_reducible show slP _ _ _ _); (first | refine p_slL ?_ | refine p_slF ?_))
  | ((with_reducible show sumP _ _); refine p_sum ?_)
  | ((with_reducible show maxP _ _); refine p_max2 ?_)
  | ((with_reducible show minP _ _); refine p_min2 ?_)
  | ((with_reducible show allP _ _); refine p_all ?_)
  | ((with_reducible show anyP _ _); refine p_any ?_))
local macro_rules | `(tactic| walk_at "s") => `(tactic| first
  | ((with_reducible show vDc _ _ _ _ _ _ _ _); refine u_dc ?_)
  | ((with_reducible show vDcK _ _ _ _ _ _ _ _); refine u_dcK rfl ?_)
  | ((with_reducible show kDcT _ _ _ _ _ _ _); refine k_dcTT ?_)
  | ((with_reducible show kDcK _ _ _ _ _ _); refine k_dcK ?_)
  | ((with_reducible show vDisp1 _ _ _ _); refine u_disp1 ?_)
  | ((with_reducible show kDisp1 _ _ _ _); refine k_disp1 ?_)
  | ((with_reducible show kDisp2 _ _ _ _); refine k_disp2 rfl rfl ?_)
  | ((with_reducible show vShR _ _ _); refine u_shR ?_)
  | ((with_reducible show kShR _ _ _); refine k_shR ?_)
  | ((with_reducible show vPutR _ _ _ _ _); refine u_putR ?_))
local macro_rules | `(tactic| walk_at "ss") => `(tactic| repeat walk_at "s")
local macro_rules | `(tactic| walk_at "back") => `(tactic| refine k_back ?_ (by dsimp only [takeBack, backS, List.set, List.getElem?_cons_zero, List.getElem?_cons_succ]))
def v_steps_back : VS :=
  vSeq (vSet 3 (vDisp1 (vVar 2) (vC (.int 0))))
    (vSeq (vSet 4 (vSh (vDisp1 (vVar 2) (vC (.bl true)))))
    (vSeq (vSet 5 (vC (.int 0)))
    (vSeq (vWhile (vT (vBin gtP (vVal (vPrim lenP (vCons (vPk 4) (vNil)))) (vVal (vC (.int 0))))) (vSeq (vAug 5 iaddP (vC (.int 1)))
    (vSeq (vSet 6 (vNewD))
    (vSeq (vForK 1 (gN 7) (vIf (vAnd (vT (vBin gtP (vPk 7) (vPk 2))) (vT (vBin (inP true) (vPk 7) (vPk 3)))) (vIf (vT (vBin gtP (vVal (vPrim lenP (vCons (vVal (vLc (vItL (vGet2 (vPk 0) (vVar 7) (vLst (vNil)))) (gN 8) (vT (vBin (inP false) (vPk 8) (vPk 4))) (vVar 8) [8])) (vNil)))) (vVal (vC (.int 0))))) (vPutD 6 (vVar 7) (vC (.bl true))) (vNext)) (vNext)))
    (vSeq (vKnow 6 (vForK 6 (gN 7) (vPutD 3 (vVar 7) (vVar 5))))
    (vSet 4 (vSh (vVar 6))))))))
    (vRet (vMv 3)))))
theorem filter_snoc_no {α : Type} {p : α → Bool} {l : List α} {a : α} (h : p a = false) : (l ++ [a]).filter p = l.filter p := by rw [List.filter_append]; simp [h]
theorem filter_snoc_yes {α : Type} {p : α → Bool} {l : List α} {a : α} (h : p a = true) : (l ++ [a]).filter p = l.filter p ++ [a] := by rw [List.filter_append]; simp [h]
/-! ### the least of data -/
theorem minD_enc {α : Type} (enc : α → PyData) (lt : α → α → Prop) (h : ∀ a b, PySem.W.dataLt (enc a) (enc b) = true ↔ lt a b) (ir : ∀ a, ¬ lt a a) (tr : ∀ a b c, lt a b → lt b c → lt a c) (tri : ∀ a b, a = b ∨ lt a b ∨ lt b a) :
    ∀ (xs : List α) (x : α), ∃ m, m ∈ x :: xs ∧ PySem.W.minD (enc x) (xs.map enc) = enc m ∧ ∀ y ∈ x :: xs, ¬ lt y m
  | [], x => ⟨x, by simp, rfl, fun y hy => by rw [List.mem_singleton.mp hy]; exact ir x⟩
  | z :: xs, x => by
    by_cases e : lt z x
    · obtain ⟨m, h1, h2, h3⟩ := minD_enc enc lt h ir tr tri xs z
      refine ⟨m, List.mem_cons_of_mem _ h1, ?_, fun y hy => ?_⟩
      · rw [← h2]
        show (List.foldl _ (if PySem.W.dataLt (enc z) (enc x) = true then enc z else enc x) _) = _
        rw [if_pos ((h z x).mpr e)]; rfl
      · rcases List.mem_cons.mp hy with e2 | hy
        · subst e2
          intro w
          exact h3 z (by simp) (tr _ _ _ e w)
        · exact h3 y hy
    · obtain ⟨m, h1, h2, h3⟩ := minD_enc enc lt h ir tr tri xs x
      refine ⟨m, ?_, ?_, fun y hy => ?_⟩
      · rcases List.mem_cons.mp h1 with e2 | e2
        · simp [e2]
        · exact List.mem_cons_of_mem _ (List.mem_cons_of_mem _ e2)
      · rw [← h2]
        show (List.foldl _ (if PySem.W.dataLt (enc z) (enc x) = true then enc z else enc x) _) = _
        rw [if_neg (fun w => e ((h z x).mp w))]; rfl
      · rcases List.mem_cons.mp hy with e2 | hy
        · subst e2; exact h3 _ (by simp)
        · rcases List.mem_cons.mp hy with e2 | hy
          · subst e2
            intro w
            have hx : ¬ lt x m := h3 x (by simp)
            rcases tri x m with e3 | e3 | e3
            · rw [e3] at e; exact e w
            · exact hx e3
            · exact e (tr _ _ _ w e3)
          · exact h3 y (List.mem_cons_of_mem _ hy)

theorem alike_strs : ∀ xs : List Str, PySem.W.AlikeAll (xs.map PyData.str) := fun xs => by
  refine ⟨fun a ha b hb => ?_, fun a ha e => ?_⟩
  · obtain ⟨x, _, rfl⟩ := List.mem_map.mp ha
    obtain ⟨y, _, rfl⟩ := List.mem_map.mp hb
    simp [PySem.W.alike]
  · obtain ⟨x, _, rfl⟩ := List.mem_map.mp ha
    cases e
theorem p_minS {ss : List Str} {R : Ret → Prop} (hs : ss ≠ []) (h : ∀ m ∈ ss, (∀ y ∈ ss, ¬ slt y m) → R (.val (.str m))) : minDP [.lst (ss.map D.str)] R := by
  cases ss with
  | nil => exact absurd rfl hs
  | cons x xs =>
    obtain ⟨m, h1, h2, h3⟩ := minD_enc PyData.str slt (fun a b => by rw [PySem.W.dataLt_str]; exact ⟨fun z => of_decide_eq_true z, fun z => decide_eq_true z⟩) slt_irrefl (fun _ _ _ => slt_trans) slt_tri xs x
    refine .inr ⟨_, _, .str x, xs.map PyData.str, rfl, rfl, toPys_str (x :: xs), alike_strs (x :: xs), by rw [show (PyData.str x :: xs.map PyData.str) = (x :: xs).map PyData.str from rfl, dep_str]; omega, fun j e he hj => ?_⟩
    rw [h2] at hj
    rw [List.getElem?_map] at he
    obtain ⟨y, hy, ey⟩ := Option.map_eq_some_iff.mp he
    subst ey
    have : (PyData.str x :: xs.map PyData.str).getD j .none = PyData.str y := by
      rw [show (PyData.str x :: xs.map PyData.str) = (x :: xs).map PyData.str from rfl, List.getD_eq_getElem?_getD, List.getElem?_map, hy]; rfl
    rw [this] at hj
    have em : y = m := by simpa using hj
    rw [em]
    exact h m h1 h3
/-! numbers by names -/
def encN (st : List (Str × Nat)) : List (Key × D) := st.map fun p => (Sum.inr p.1, D.int (p.2 : Int))
theorem lookK_N {st : List (Str × Nat)} {n : Str} : lookK (encN st) (.inr n) = (st.lookup n).map (fun k : Nat => D.int (k : Int)) := lookK_map (f := fun k : Nat => D.int (k : Int))
theorem k_getN {st : List (Str × Nat)} {a : Arg} {n : Str} {ρ : Rho} {Q : VK0} (e : argD ρ a = some (.dct (encN st))) (h : Q (.sh (.int ((st.lookup n).getD 0 : Nat))) ρ) : kGet3 a (.sh (.str n)) Q (.sh (.int 0)) ρ := by
  refine k_get3 (key := .inr n) rfl e (fun d hd => ?_) (fun hd => ?_)
  · rw [lookK_N] at hd
    obtain ⟨k, h1, h2⟩ := Option.map_eq_some_iff.mp hd
    subst h2
    rw [h1] at h; exact h
  · rw [lookK_N] at hd
    have h1 : st.lookup n = none := by cases z : st.lookup n with
      | none => rfl
      | some l => rw [z] at hd; cases hd
    rw [h1] at h; exact h
/-! ### steps_back -/
structure IOk (I : List Str) : Prop where
  nd : I.Nodup
  len : I.length ≤ 60
def S_steps_back : VSp := fun ρs R _ => ∃ g I s, ρs = [.sh (encG g), .sh (.dct (dTrue I)), .sh (.str s)] ∧ GOk g ∧ IOk I ∧ ∀ st : List (Str × Nat), (∀ x k, st.lookup x = some k ↔ Lay (getW g) I s k x) → (∀ x k, st.lookup x = some k → k ≤ 61) → R (.ow false (.dct (encN st))) [.sh (encG g), .sh (.dct (dTrue I)), .sh (.str s)]
open Classical in
theorem rd_steps_back : Reads S_steps_back (fun _ => v_steps_back) 6 := fun ρs R _ h => by
  obtain ⟨g, I, s, rfl, ok, iok, q⟩ := h
  obtain ⟨U, hU, sm⟩ := ok.small
  have hI := iok.len
  unfold v_steps_back
  show vSeq _ _ _ [.sh (encG g), .sh (.dct (dTrue I)), .sh (.str s), .un, .un, .un, .un, .un, .un]
  walk_at "ss"
  refine u_while1 (fun m ρ => ∃ (k : Nat) (st : List (Str × Nat)) (Ly : List Str) (n6 n7 n8 : Slot), ρ = [.sh (encG g), .sh (.dct (dTrue I)), .sh (.str s), .ow false (.dct (encN st)), .sh (.dct (dTrue Ly)), .sh (.int k), n6, n7, n8] ∧ n6.free = true ∧ n7.free = true ∧ n8.free = true ∧
      Told (getW g) I s k st ∧ (∀ x, x ∈ Ly ↔ Lay (getW g) I s k x) ∧ Ly.Nodup ∧ m = (I.length + 2 - st.length) + (if Ly = [] then 0 else 1) ∧ k + (if Ly = [] then 0 else 1) ≤ st.length) _
    ⟨0, [(s, 0)], [s], .un, .un, .un, rfl, rfl, rfl, rfl, told_first, fun x => ?_, by simp, rfl, by simp⟩ ?_
  · rw [List.mem_singleton]
    exact ⟨fun e => .inl ⟨rfl, e⟩, fun z => z.elim (fun z => z.2) fun z => by omega⟩
  rintro m ρ' ⟨k, st, Ly, n6, n7, n8, rfl, f6, f7, f8, t, hly, lnd, rfl, hkl⟩
  have hsl := told_len t
  walk_at "ss"
  rw [dTrue_len]
  refine k_while (fun hb => ?_) (fun hb => ?_)
  · have hne : Ly ≠ [] := by
      have := of_decide_eq_true hb
      intro z; subst z; simp at this
    walk_at "ss"
    refine k_set rfl f6 ?_
    walk_at "ss"
    refine u_forK rfl (fun j ρ => ∃ (m7 m8 : Slot), ρ = [.sh (encG g), .sh (.dct (dTrue I)), .sh (.str s), .ow false (.dct (encN st)), .sh (.dct (dTrue Ly)), .sh (.int (k + 1)), .ow false (.dct (dTrue ((I.take j).filter fun x => decide (slt s x ∧ st.lookup x = none ∧ ∃ o ∈ getW g x, o ∈ Ly)))), m7, m8] ∧ m7.free = true ∧ m8.free = true) ⟨n7, n8, rfl, f7, f8⟩ ?_ ?_
    · rintro j key v ρ' hj ⟨m7, m8, rfl, g7, g8⟩
      obtain ⟨x, hx, ex⟩ : ∃ x, I[j]? = some x ∧ (Sum.inr x, D.bl true) = (key, v) := by
        unfold dTrue at hj
        rw [List.getElem?_map] at hj
        obtain ⟨x, a, b⟩ := Option.map_eq_some_iff.mp hj
        exact ⟨x, a, b⟩
      cases ex
      have hxI := List.mem_of_getElem? hx
      have et : I.take (j + 1) = I.take j ++ [x] := take_snoc hx
      have hxn : x ∉ I.take j := fun z => by
        have hnd : (I.take j ++ [x]).Nodup := by rw [← et]; exact iok.nd.sublist (List.take_sublist _ _)
        exact (List.nodup_append.mp hnd).2.2 x z x (by simp) rfl
      have no : ¬ (slt s x ∧ st.lookup x = none ∧ ∃ o ∈ getW g x, o ∈ Ly) → (I.take (j + 1)).filter (fun x => decide (slt s x ∧ st.lookup x = none ∧ ∃ o ∈ getW g x, o ∈ Ly)) = (I.take j).filter fun x => decide (slt s x ∧ st.lookup x = none ∧ ∃ o ∈ getW g x, o ∈ Ly) := fun z => by
        rw [et]; exact filter_snoc_no (decide_eq_false z)
      have yes : (slt s x ∧ st.lookup x = none ∧ ∃ o ∈ getW g x, o ∈ Ly) → (I.take (j + 1)).filter (fun x => decide (slt s x ∧ st.lookup x = none ∧ ∃ o ∈ getW g x, o ∈ Ly)) = ((I.take j).filter fun x => decide (slt s x ∧ st.lookup x = none ∧ ∃ o ∈ getW g x, o ∈ Ly)) ++ [x] := fun z => by
        rw [et]; exact filter_snoc_yes (decide_eq_true z)
      show gN 7 (.str x) _ _
      refine u_gN rfl g7 ?_
      walk_at "ss"
      refine p_gtS ?_
      walk_at "ss"
      refine k_and (fun h1 => ?_) (fun h1 => ?_)
      · walk_at "ss"
        rw [lookK_N]
        refine k_if (fun h2 => ?_) (fun h2 => ?_)
        · have hst : st.lookup x = none := by
            cases z : st.lookup x with
            | none => rfl
            | some w => rw [z] at h2; cases h2
          walk_at "ss"
          refine k_getW rfl fun sg hsg => ?_
          refine k_itL hsg rfl ?_
          refine k_lcM (getW g x) D.str (fun o => decide (o ∈ Ly)) D.str [.sh (encG g), .sh (.dct (dTrue I)), .sh (.str s), .ow false (.dct (encN st)), .sh (.dct (dTrue Ly)), .sh (.int (k + 1)), .ow false (.dct (dTrue ((I.take j).filter fun x => decide (slt s x ∧ st.lookup x = none ∧ ∃ o ∈ getW g x, o ∈ Ly)))), .sh (.str x), .un] rfl (small16 (by have := sm.len x; omega)) (free1 rfl g8) rfl ?_ ?_
          · intro o acc I2 ho _ a1 a2
            walk_at "ss"
            rw [lookK_true]
            refine k_lcT (fun hb => ?_) (fun hb => a2 hb)
            walk_at "ss"
            exact k_lcE rfl (by assumption) (a1 hb)
          · walk_at "ss"
            rw [List.length_map]
            refine k_ifD (fun hlen => ?_) (fun hlen => ?_)
            · have hex : ∃ o ∈ getW g x, o ∈ Ly := by
                obtain ⟨o, ho⟩ := List.exists_mem_of_length_pos (show 0 < ((getW g x).filter fun o => decide (o ∈ Ly)).length by omega)
                have := List.mem_filter.mp ho
                exact ⟨o, this.1, of_decide_eq_true this.2⟩
              walk_at "ss"
              refine k_putD2 rfl rfl ?_ rfl ?_
              · rw [dTrue_len]
                refine small16 ?_
                have := List.length_filter_le (fun x => decide (slt s x ∧ st.lookup x = none ∧ ∃ o ∈ getW g x, o ∈ Ly)) (I.take j)
                have h5 : (I.take j).length ≤ I.length := by rw [List.length_take]; omega
                omega
              · rw [put_true (fun z => hxn (List.mem_filter.mp z).1), ← yes ⟨of_decide_eq_true h1, hst, hex⟩]
                exact ⟨_, _, rfl, rfl, rfl⟩
            · walk_at "ss"
              have en := no fun ⟨_, _, o, ho, hl⟩ => hlen (by
                have hm : o ∈ (getW g x).filter (fun o => decide (o ∈ Ly)) := List.mem_filter.mpr ⟨ho, by simpa using hl⟩
                have := List.length_pos_of_mem hm
                omega)
              rw [en]
              exact ⟨_, _, rfl, rfl, rfl⟩
        · walk_at "ss"
          have en := no fun ⟨_, z, _⟩ => by
            rw [z] at h2; cases h2
          rw [en]
          exact ⟨.sh (.str x), m8, rfl, rfl, g8⟩
      · walk_at "ss"
        have en := no fun ⟨z, _⟩ => of_decide_eq_false h1 z
        rw [en]
        exact ⟨.sh (.str x), m8, rfl, rfl, g8⟩
    · rintro ρ' ⟨m7, m8, rfl, g7, g8⟩
      rw [dTrue_len, List.take_length]
      have hfm : ∀ x, x ∈ (I.filter fun x => decide (slt s x ∧ st.lookup x = none ∧ ∃ o ∈ getW g x, o ∈ Ly)) ↔ Least (getW g) I s (k + 1) x := fun x => by
        rw [List.mem_filter, ← fresh_iff t hly x]
        simp
      have fnd : (I.filter fun x => decide (slt s x ∧ st.lookup x = none ∧ ∃ o ∈ getW g x, o ∈ Ly)).Nodup := iok.nd.filter _
      revert hfm fnd
      generalize (I.filter fun x => decide (slt s x ∧ st.lookup x = none ∧ ∃ o ∈ getW g x, o ∈ Ly)) = Fr
      intro hfm fnd
      have t2 := told_next t hfm fnd
      have hs2 := told_len t2
      walk_at "ss"
      refine u_know rfl ?_
      refine u_forK rfl (fun j ρ => ∃ (m7 m8 : Slot), ρ = [.sh (encG g), .sh (.dct (dTrue I)), .sh (.str s), .ow false (.dct (encN (st ++ (Fr.take j).map fun y => (y, k + 1)))), .sh (.dct (dTrue Ly)), .sh (.int (k + 1)), .sh (.dct (dTrue Fr)), m7, m8] ∧ m7.free = true ∧ m8.free = true) ⟨m7, m8, by simp, g7, g8⟩ ?_ ?_
      · rintro j key v ρ' hj ⟨m7, m8, rfl, g7, g8⟩
        obtain ⟨x, hx, ex⟩ : ∃ x, Fr[j]? = some x ∧ (Sum.inr x, D.bl true) = (key, v) := by
          unfold dTrue at hj
          rw [List.getElem?_map] at hj
          obtain ⟨x, a, b⟩ := Option.map_eq_some_iff.mp hj
          exact ⟨x, a, b⟩
        cases ex
        have et : Fr.take (j + 1) = Fr.take j ++ [x] := take_snoc hx
        show gN 7 (.str x) _ _
        refine u_gN rfl g7 ?_
        walk_at "ss"
        have hnew : ∀ kv ∈ encN (st ++ (Fr.take j).map fun y => (y, k + 1)), kv.1 ≠ (Sum.inr x : Key) := fun kv hkv e => by
          obtain ⟨p, hp, rfl⟩ := List.mem_map.mp hkv
          have e' : p.1 = x := by cases e; rfl
          have hnd : ((st ++ (Fr.take (j + 1)).map fun y => (y, k + 1)).map (·.1)).Nodup := by
            refine t2.2.sublist ?_
            refine List.Sublist.map _ (List.Sublist.append (List.Sublist.refl _) (List.Sublist.map _ (List.take_sublist _ _)))
          have e3 : st ++ ((Fr.take j ++ [x]).map fun y => (y, k + 1)) = (st ++ (Fr.take j).map fun y => (y, k + 1)) ++ [(x, k + 1)] := by simp
          rw [et, e3, List.map_append] at hnd
          exact (List.nodup_append.mp hnd).2.2 p.1 (List.mem_map_of_mem hp) x (by simp) e'
        refine k_putD2 rfl rfl ?_ rfl ?_
        · unfold encN
          rw [List.length_map, List.length_append, List.length_map, List.length_take]
          simp only [List.length_append, List.length_map] at hs2
          exact small16 (by omega)
        · rw [putD_new hnew]
          refine ⟨.sh (.str x), m8, ?_, rfl, g8⟩
          rw [et]
          unfold encN
          simp
      · rintro ρ' ⟨m7, m8, rfl, g7, g8⟩
        rw [dTrue_len, List.take_length]
        walk_at "ss"
        refine ⟨_, ?_, k + 1, _, Fr, _, m7, m8, rfl, rfl, g7, g8, t2, fun x => ?_, fnd, rfl, ?_⟩
        · rw [if_neg hne]
          simp only [List.length_append, List.length_map] at hs2 ⊢
          by_cases hF : Fr = []
          · subst hF; simp
          · rw [if_neg hF]
            have := List.length_pos_iff.mpr hF
            omega
        · rw [hfm]
          exact ⟨fun z => .inr ⟨by omega, z⟩, fun z => z.elim (fun w => by omega) fun w => w.2⟩
        · rw [if_neg hne] at hkl
          simp only [List.length_append, List.length_map]
          by_cases hF : Fr = []
          · subst hF; simp; omega
          · rw [if_neg hF]
            have := List.length_pos_iff.mpr hF
            omega
  · have hb' : Ly = [] := by
      have := of_decide_eq_false hb
      simp at this
      exact this
    subst hb'
    walk_at "ss"
    refine q st (told_end t fun x z => ?_) (fun x k' e => ?_)
    · have := (hly x).mpr z
      cases this
    · have h1 := ((t.1 x k').mp e).2
      rw [if_pos rfl] at hkl
      omega
end WL

set_option Elab.async false
set_option linter.all false
set_option maxRecDepth 100000
set_option maxHeartbeats 4000000
namespace WL
open PySem PySem.Spec PyProof.Rows L2
local macro_rules | `(tactic| walk_at "s") => `(tactic| first
  | ((with_reducible show vSeq _ _ _ _); refine u_seq ?_)
  | ((with_reducible show vSet _ _ _ _); refine u_set ?_)
  | ((with_reducible show kSet _ _ _ _); refine k_set rfl rfl ?_)
  | ((with_reducible show vRet _ _ _); refine u_ret ?_)
  | ((with_reducible show vIf _ _ _ _ _); refine u_if ?_)
  | ((with_reducible show vExpr _ _ _); refine u_expr ?_)
  | ((with_reducible show kExpr _ _ _); refine k_expr ?_)
  | ((with_reducible show vRetN _ _); refine u_retN ?_)
  | ((with_reducible show vAsg _ _ _ _); refine u_asg ?_)
  | ((with_reducible show kAsg _ _ _ _); refine k_asg rfl ?_)
  | ((with_reducible show vNext _ _); refine u_next ?_)
  | ((with_reducible show vBreak _ _); refine u_break ?_)
  | ((with_reducible show vCont _ _); refine u_cont ?_)
  | ((with_reducible show kIf _ _ _ _ _); (first | refine k_ifT ?_ | refine k_ifF ?_))
  | ((with_reducible show vVal _ _ _); refine u_val ?_)
  | ((with_reducible show kVal _ _ _); refine k_val ?_)
  | ((with_reducible show vPk _ _ _); refine u_pk rfl rfl ?_)
  | ((with_reducible show vC _ _ _); refine u_c ?_)
  | ((with_reducible show vVar _ _ _); (first | refine u_var rfl ?_ | refine u_varL rfl ?_ | refine u_varD rfl ?_ | refine u_varE rfl ?_))
  | ((with_reducible show vMv _ _ _); (first | refine u_mv rfl ?_ | refine u_mvO rfl ?_))
  | ((with_reducible show vBin _ _ _ _ _); refine u_bin ?_)
  | ((with_reducible show kBin1 _ _ _ _ _); refine k_bin1 ?_)
  | ((with_reducible show kBin2 _ _ _ _ _); refine k_bin2 rfl rfl ?_)
  | ((with_reducible show vUn _ _ _ _); refine u_un ?_)
  | ((with_reducible show kUn _ _ _ _); refine k_un rfl ?_)
  | ((with_reducible show vCons _ _ _ _); refine u_cons ?_)
  | ((with_reducible show kCons1 _ _ _ _); refine k_cons1 ?_)
  | ((with_reducible show vNil _ _); refine u_nil ?_)
  | ((with_reducible show kCons2 _ _ _ _); refine k_cons2 ?_)
  | ((with_reducible show vPrim _ _ _ _); refine u_prim ?_)
  | ((with_reducible show kPrim _ _ _ _); (first | refine k_prim1 rfl ?_ | refine k_prim2 rfl rfl ?_))
  | ((with_reducible show kRet _ _ _); (first | refine k_retV ?_ | refine k_retL ?_ | refine k_retT ?_ | refine k_retD ?_))
  | ((with_reducible show vSh _ _ _); refine u_sh ?_)
  | ((with_reducible show kSh _ _ _); (first | refine k_sh ?_ | refine k_shL ?_ | refine k_shD ?_))
  | ((with_reducible show vT _ _ _); refine u_t ?_)
  | ((with_reducible show kT _ _ _); refine k_t ?_)
  | ((with_reducible show vTru _ _ _); refine u_tru ?_)
  | ((with_reducible show kTru _ _ _); refine k_tru rfl rfl ?_)
  | ((with_reducible show vAnd _ _ _ _); refine u_and ?_)
  | ((with_reducible show kAnd _ _ _ _); (first | refine k_andT ?_ | refine k_andF ?_))
  | ((with_reducible show vOr _ _ _ _); refine u_or ?_)
  | ((with_reducible show kOr _ _ _ _); (first | refine k_orT ?_ | refine k_orF ?_))
  | ((with_reducible show vNot _ _ _); refine u_not ?_)
  | ((with_reducible show kNot _ _ _); refine k_not ?_)
  | ((with_reducible show vAndV _ _ _ _); refine u_andV ?_)
  | ((with_reducible show kAndV _ _ _ _); (first | refine k_andVT ?_ | refine k_andVF ?_))
  | ((with_reducible show kOrV _ _ _ _); (first | refine k_orVT ?_ | refine k_orVF ?_))
  | ((with_reducible show vOrV _ _ _ _); refine u_orV ?_)
  | ((with_reducible show vNotV _ _ _); refine u_notV ?_)
  | ((with_reducible show kNotV _ _ _); refine k_notV ?_)
  | ((with_reducible show vIfE _ _ _ _ _); refine u_ifE ?_)
  | ((with_reducible show kIfE _ _ _ _ _); (first | refine k_ifET ?_ | refine k_ifEF ?_))
  | ((with_reducible show vLst _ _ _); refine u_lst ?_)
  | ((with_reducible show kLst _ _ _); refine k_lst rfl (by simp only [List.length_cons, List.length_nil]; decide) ?_)
  | ((with_reducible show vTup _ _ _); refine u_tup ?_)
  | ((with_reducible show kTup _ _ _); refine k_tup rfl (by simp only [List.length_cons, List.length_nil]; decide) ?_)
  | ((with_reducible show vNewD _ _); refine u_newD ?_)
  | ((with_reducible show vSl _ _ _ _ _); refine u_sl ?_)
  | ((with_reducible show kSl0 _ _ _ _ _); refine k_sl0 ?_)
  | ((with_reducible show kSl1 _ _ _ _ _); refine k_sl1 ?_)
  | ((with_reducible show kSl2 _ _ _ _ _); refine k_sl2 rfl ?_)
  | ((with_reducible show vNoPart _ _); refine u_noPart ?_)
  | ((with_reducible show vPart _ _ _); refine u_part ?_)
  | ((with_reducible show kPart _ _ _); refine k_part ?_)
  | ((with_reducible show vApp _ _ _ _); refine u_app rfl ?_)
  | ((with_reducible show vPopAt _ _ _ _); refine u_popAt rfl ?_)
  | ((with_reducible show vExt _ _ _ _); refine u_ext rfl ?_)
  | ((with_reducible show vM1 _ _ _ _ _); refine u_m1 ?_)
  | ((with_reducible show kM1a _ _ _ _ _); refine k_m1a rfl ?_)
  | ((with_reducible show kM1b _ _ _ _ _); refine k_m1b rfl rfl ?_)
  | ((with_reducible show vGet2 _ _ _ _ _); refine u_get2 ?_)
  | ((with_reducible show kGet1 _ _ _ _ _); refine k_get1 rfl ?_)
  | ((with_reducible show kGet2 _ _ _ _ _); refine k_get2 ?_)
  | ((with_reducible show vSetL _ _ _ _ _); refine u_setL ?_)
  | ((with_reducible show kSetL1 _ _ _ _ _); refine k_setL1 rfl ?_)
  | ((with_reducible show kSetL2 _ _ _ _ _); (first | refine k_setL2j 0 rfl rfl (by simp) rfl ?_ | refine k_setL2j 1 rfl rfl (by simp) rfl ?_ | refine k_setL2j 2 rfl rfl (by simp) rfl ?_))
  | ((with_reducible show vPutD _ _ _ _ _); refine u_putD ?_)
  | ((with_reducible show kPutD1 _ _ _ _ _); refine k_putD1 rfl ?_)
  | ((with_reducible show vAugL _ _ _ _ _ _); refine u_augL rfl ?_)
  | ((with_reducible show kAugL1 _ _ _ _ _ _); (first | refine k_augL1j 0 rfl rfl rfl ?_ | refine k_augL1j 1 rfl rfl rfl ?_ | refine k_augL1j 2 rfl rfl rfl ?_))
  | ((with_reducible show kAugL2 _ _ _ _ _ _ _); refine k_augL2j rfl (by simp) ?_)
  | ((with_reducible show vAug _ _ _ _ _); refine u_aug rfl ?_)
  | ((with_reducible show kAug _ _ _ _ _ _); (first | refine k_augAdd rfl ?_ | refine k_augSub rfl ?_))
  | ((with_reducible show vCall _ _ _ _); refine u_call ?_)
  | ((with_reducible show gN _ _ _ _); refine u_gN rfl rfl ?_)
  | ((with_reducible show gT _ _ _ _); refine u_gT rfl ?_)
  | ((with_reducible show gL _ _ _ _); refine u_gL rfl rfl ?_)
  | ((with_reducible show gTs _ _ _ _); (first | refine u_gTs0 ?_ | refine u_gTs ?_))
  | ((with_reducible show vItL _ _ _); refine u_itL ?_)
  | ((with_reducible show kItL _ _ _); refine k_itL rfl rfl ?_)
  | ((with_reducible show vItT _ _ _); refine u_itT ?_)
  | ((with_reducible show kItT _ _ _); refine k_itT rfl rfl ?_)
  | ((with_reducible show vItR1 _ _ _); refine u_itR1 ?_)
  | ((with_reducible show vItR2 _ _ _); refine u_itR2 ?_)
  | ((with_reducible show vFor _ _ _ _ _); refine u_for ?_)
  | ((with_reducible show vLc _ _ _ _ _ _ _); refine u_lc ?_)
  | ((with_reducible show vLcK _ _ _ _ _ _ _); refine u_lcK rfl ?_)
  | ((with_reducible show vYes _ _); refine u_yes ?_)
  | ((with_reducible show kLcT _ _ _ _ _ _); refine k_lcTT ?_)
  | ((with_reducible show addP _ _); refine p_addI ?_)
  | ((with_reducible show subP _ _); refine p_subI ?_)
  | ((with_reducible show mulP _ _); (first | refine p_mulI (.inl (.inl (by omega))) ?_ | refine p_mulI (.inl (.inr (by omega))) ?_))
  | ((with_reducible show modP _ _); refine p_modI (by omega) ?_)
  | ((with_reducible show divP _ _); refine p_divI (.inl (by constructor <;> omega)) ?_)
  | ((with_reducible show negP _ _); refine p_negI ?_)
  | ((with_reducible show ltP _ _); refine p_ltI ?_)
  | ((with_reducible show leP _ _); refine p_leI ?_)
  | ((with_reducible show gtP _ _); refine p_gtI ?_)
  | ((with_reducible show geP _ _); refine p_geI ?_)
  | ((with_reducible show eqP _ _); (first | refine p_eqI ?_ | refine p_eqS ?_ | refine p_eqB ?_ | refine p_eqN ?_))
  | ((with_reducible show neP _ _); (first | refine p_neI ?_ | refine p_neS ?_ | refine p_neB ?_))
  | ((with_reducible show isNP _ _); (first | refine p_isNn ?_ | refine p_isNi ?_ | refine p_isNs ?_ | refine p_isNb ?_ | refine p_isNl ?_ | refine p_isNt ?_ | refine p_isNd ?_))
  | ((with_reducible show notNP _ _); (first | refine p_notNn ?_ | refine p_notNi ?_ | refine p_notNs ?_ | refine p_notNb ?_ | refine p_notNl ?_ | refine p_notNt ?_ | refine p_notNd ?_))
  | ((with_reducible show isiP _ _); refine p_isi rfl rfl ?_)
  | ((with_reducible show isiTP _ _); refine p_isiT rfl rfl ?_)
  | ((with_reducible show reprP _ _); (first | refine p_reprB ?_ | refine p_reprN ?_))
  | ((with_reducible show lenP _ _); (first | refine p_lenL ?_ | refine p_lenF ?_ | refine p_lenT ?_ | refine p_lenD ?_))
  | ((with_reducible show absP _ _); refine p_absI ?_)
  | ((with_reducible show intP _ _); refine p_intI ?_)
  | ((with_reducible show listP _ _); (first | refine p_listL ?_ | refine p_listF ?_ | refine p_listD ?_))
  | ((with_reducible show ixP _ _); (first | refine p_ixLj 0 rfl rfl ?_ | refine p_ixLj 1 rfl rfl ?_ | refine p_ixLj 2 rfl rfl ?_ | refine p_ixLj 3 rfl rfl ?_ | refine p_ixTj 0 rfl rfl ?_ | refine p_ixTj 1 rfl rfl ?_ | refine p_ixTj 2 rfl rfl ?_ | refine p_ixTj 3 rfl rfl ?_))
  | ((with_reducible show inP _ _ _); (first | refine p_inS0 ?_ | refine p_inS1 ?_ | refine p_inI0 ?_ | refine p_inI1 ?_ | refine p_inD0 rfl ?_ | refine p_inD1 rfl ?_))
  | ((with_reducible show slP _ _ _ _); (first | refine p_slL ?_ | refine p_slF ?_))
  | ((with_reducible show sumP _ _); refine p_sum ?_)
  | ((with_reducible show maxP _ _); refine p_max2 ?_)
  | ((with_reducible show minP _ _); refine p_min2 ?_)
  | ((with_reducible show allP _ _); refine p_all ?_)
  | ((with_reducible show anyP _ _); refine p_any ?_))
local macro_rules | `(tactic| walk_at "s") => `(tactic| first
  | ((with_reducible show vDc _ _ _ _ _ _ _ _); refine u_dc ?_)
  | ((with_reducible show vDcK _ _ _ _ _ _ _ _); refine u_dcK rfl ?_)
  | ((with_reducible show kDcT _ _ _ _ _ _ _); refine k_dcTT ?_)
  | ((with_reducible show kDcK _ _ _ _ _ _); refine k_dcK ?_)
  | ((with_reducible show vDisp1 _ _ _ _); refine u_disp1 ?_)
  | ((with_reducible show kDisp1 _ _ _ _); refine k_disp1 ?_)
  | ((with_reducible show kDisp2 _ _ _ _); refine k_disp2 rfl rfl ?_)
  | ((with_reducible show vShR _ _ _); refine u_shR ?_)
  | ((with_reducible show kShR _ _ _); refine k_shR ?_)
  | ((with_reducible show vPutR _ _ _ _ _); refine u_putR ?_))
local macro_rules | `(tactic| walk_at "ss") => `(tactic| repeat walk_at "s")
local macro_rules | `(tactic| walk_at "back") => `(tactic| refine k_back ?_ (by dsimp only [takeBack, backS, List.set, List.getElem?_cons_zero, List.getElem?_cons_succ]))
def v_ring_from : VS :=
  vSeq (vIf (vT (vBin (inP false) (vPk 2) (vVal (vGet2 (vPk 0) (vVar 2) (vLst (vNil)))))) (vRet (vTup (vCons (vVal (vVar 2)) (vNil)))) (vNext))
    (vSeq (vSet 3 (vCall S_steps_back (vCons (vVal (vVar 0)) (vCons (vVal (vVar 1)) (vCons (vVal (vVar 2)) (vNil))))))
    (vSeq (vSet 4 (vLc (vItL (vGet2 (vPk 0) (vVar 2) (vLst (vNil)))) (gN 8) (vAnd (vT (vBin (inP false) (vPk 8) (vPk 3))) (vT (vBin neP (vPk 8) (vPk 2)))) (vBin ixP (vPk 3) (vPk 8)) [8]))
    (vSeq (vIf (vT (vBin eqP (vVal (vPrim lenP (vCons (vPk 4) (vNil)))) (vVal (vC (.int 0))))) (vRet (vC .non)) (vNext))
    (vSeq (vSet 5 (vLst (vCons (vVal (vVar 2)) (vNil))))
    (vSeq (vSet 6 (vPrim minP (vCons (vPk 4) (vNil))))
    (vSeq (vWhile (vT (vBin gtP (vPk 6) (vVal (vC (.int 0))))) (vSeq (vSet 7 (vLc (vItL (vBin ixP (vPk 0) (vVal (vBin ixP (vPk 5) (vVal (vUn negP (vVal (vC (.int 1))))))))) (gN 8) (vT (vBin eqP (vVal (vGet2 (vPk 3) (vVar 8) (vC (.int 0)))) (vPk 6))) (vVar 8) [8]))
    (vSeq (vExpr (vApp 5 (vPrim minDP (vCons (vPk 7) (vNil)))))
    (vAug 6 subP (vC (.int 1))))))
    (vRet (vPrim tupleP (vCons (vPk 5) (vNil))))))))))
/-! ### ring_from -/
def encO : Option (List Str) → D
  | none => .non
  | some r => .tup (r.map D.str)
def S_ring_from : VSp := fun ρs R _ => ∃ g I s, ρs = [.sh (encG g), .sh (.dct (dTrue I)), .sh (.str s)] ∧ GOk g ∧ IOk I ∧ ∀ o : Option (List Str), Best1 (getW g) I s o → (∀ r, o = some r → r.length ≤ 100) → R (.sh (encO o)) [.sh (encG g), .sh (.dct (dTrue I)), .sh (.str s)]
theorem look_of_ne {g : List (Str × List Str)} {n z : Str} (h : z ∈ getW g n) : lookK (g.map fun p => ((Sum.inr p.1 : Key), sL p.2)) (.inr n) = some (sL (getW g n)) := by
  rw [lookK_G]
  unfold getW at h ⊢
  cases e : g.lookup n with
  | none => rw [e] at h; cases h
  | some l => rfl
theorem atI_last' {xs : List Str} {v : Str} {a : Str} {p : List Str} (e : a :: p = xs ++ [v]) : L2.atI ((a :: p).map D.str) (-1) = some (.str v) := by
  rw [e, List.map_append]
  exact L2.atI_last _ _
open Classical in
theorem rd_ring_from : Reads S_ring_from (fun _ => v_ring_from) 6 := fun ρs R _ h => by
  obtain ⟨g, I, s, rfl, ok, iok, q⟩ := h
  obtain ⟨U, hU, sm⟩ := ok.small
  have hI := iok.len
  have hWs := sm.len s
  unfold v_ring_from
  show vSeq _ _ _ [.sh (encG g), .sh (.dct (dTrue I)), .sh (.str s), .un, .un, .un, .un, .un, .un]
  walk_at "ss"
  refine k_getW rfl fun sg hsg => ?_
  walk_at "ss"
  refine k_bin2 rfl hsg (p_inS0 ?_)
  walk_at "ss"
  refine k_ifD (fun hs => ?_) (fun hs => ?_)
  · walk_at "ss"
    exact q (some [s]) (best_self hs) fun r e => by cases e; simp
  walk_at "ss"
  refine k_call rfl ⟨g, I, s, rfl, ok, iok, fun st hst hsl => ?_⟩
  walk_at "back"
  walk_at "ss"
  have hlk : ∀ x, x ≠ s → ∀ k, st.lookup x = some k ↔ Least (getW g) I s k x := fun x hx k => by
    rw [hst]
    exact ⟨fun z => z.elim (fun w => absurd w.2 hx) fun w => w.2, fun z => .inr ⟨z.1.pos, z⟩⟩
  refine k_getW rfl fun sg2 hsg2 => ?_
  refine k_itL hsg2 rfl ?_
  refine k_lcM (getW g s) D.str (fun x => (st.lookup x).isSome && decide (x ≠ s)) (fun x => D.int ((st.lookup x).getD 0 : Nat)) [.sh (encG g), .sh (.dct (dTrue I)), .sh (.str s), .ow false (.dct (encN st)), .un, .un, .un, .un, .un] rfl (small16 (by omega)) (free1 rfl rfl) rfl ?_ ?_
  · intro x acc I2 hx _ a1 a2
    walk_at "ss"
    rw [lookK_N, Option.isSome_map]
    refine k_and (fun h1 => ?_) (fun h1 => ?_)
    · walk_at "ss"
      refine k_lcT (fun hb => ?_) (fun hb => ?_)
      · have hne : x ≠ s := fun z => by subst z; simp at hb
        walk_at "ss"
        obtain ⟨k, hk⟩ := Option.isSome_iff_exists.mp h1
        refine p_ixD (key := .inr x) (d := .int (k : Int)) rfl (by rw [lookK_N, hk]; rfl) ?_
        walk_at "ss"
        refine k_lcE rfl (by assumption) ?_
        have := a1 (by rw [h1]; simp [hne])
        rw [hk] at this
        exact this
      · have hne : x = s := Decidable.byContradiction fun z => by simp [z] at hb
        exact a2 (by rw [hne]; simp)
    · refine k_lcT (fun z => by cases z) (fun _ => a2 (by rw [h1]; rfl))
  have ew : (((getW g s).filter fun x => (st.lookup x).isSome && decide (x ≠ s)).map fun x => D.int ((st.lookup x).getD 0 : Nat)) = (((getW g s).filter fun x => (st.lookup x).isSome && decide (x ≠ s)).map fun x => ((st.lookup x).getD 0 : Int)).map D.int := by rw [List.map_map]; rfl
  walk_at "ss"
  rw [List.length_map]
  have hmem : ∀ x, x ∈ (getW g s).filter (fun x => (st.lookup x).isSome && decide (x ≠ s)) ↔ x ∈ getW g s ∧ ∃ k, st.lookup x = some k := fun x => by
    rw [List.mem_filter, Bool.and_eq_true, Option.isSome_iff_exists, decide_eq_true_eq]
    exact ⟨fun z => ⟨z.1, z.2.1⟩, fun z => ⟨z.1, z.2, fun e => hs (e ▸ z.1)⟩⟩
  refine k_ifD (fun h0 => ?_) (fun h0 => ?_)
  · walk_at "ss"
    refine q none (best_none hs fun y hy k l => ?_) fun r e => by cases e
    have hm := (hmem y).mpr ⟨hy, k, (hlk y (fun e => hs (e ▸ hy)) k).mpr l⟩
    have := List.length_pos_of_mem hm
    omega
  walk_at "ss"
  rw [ew]
  refine p_minL ?_ fun m hm hmin => ?_
  · intro e
    have := congrArg List.length e
    simp only [List.length_map, List.length_nil] at this
    omega
  obtain ⟨y0, hy0, ey0⟩ := List.mem_map.mp hm
  obtain ⟨hy0W, k0, hk0⟩ := (hmem y0).mp hy0
  have hy0s : y0 ≠ s := fun e => hs (e ▸ hy0W)
  have l0 := (hlk y0 hy0s k0).mp hk0
  have em : m = (k0 : Int) := by rw [← ey0, hk0]; rfl
  subst em
  have hall : ∀ y ∈ getW g s, ∀ k, Least (getW g) I s k y → k0 ≤ k := fun y hy k l => by
    have hys : y ≠ s := fun e => hs (e ▸ hy)
    have h1 := (hlk y hys k).mpr l
    have h2 := hmin _ (List.mem_map.mpr ⟨y, (hmem y).mpr ⟨hy, k, h1⟩, rfl⟩)
    rw [h1] at h2
    simp at h2
    exact h2
  have hk0p := l0.1.pos
  have hk0l : k0 ≤ 61 := hsl y0 k0 hk0
  walk_at "ss"
  refine u_while1 (fun m ρ => ∃ (l : Nat) (p : List Str) (x : Str) (n7 n8 : Slot) (pre : List Str), ρ = [.sh (encG g), .sh (.dct (dTrue I)), .sh (.str s), .ow false (.dct (encN st)), .ow false (.lst ((((getW g s).filter fun x => (st.lookup x).isSome && decide (x ≠ s)).map fun x => ((st.lookup x).getD 0 : Int)).map D.int)), .ow false (.lst ((s :: p).map D.str)), .sh (.int l), n7, n8] ∧ n7.free = true ∧ n8.free = true ∧
      s :: p = pre ++ [x] ∧ p.length + l = k0 ∧ l = m ∧ (∀ q', Gdy (getW g) I s x l q' → Gdy (getW g) I s s k0 (p ++ q')) ∧ ((x = s ∧ l = k0) ∨ Least (getW g) I s (l + 1) x)) _
    ⟨k0, [], s, .un, .un, [], rfl, rfl, rfl, rfl, by simp, rfl, fun q' h => h, .inl ⟨rfl, rfl⟩⟩ ?_
  rintro m ρ' ⟨l, p, x, n7, n8, pre, rfl, f7, f8, ep, hpl, rfl, hg, hx⟩
  walk_at "ss"
  refine k_while (fun hb => ?_) (fun hb => ?_)
  · have hl : 0 < l := by have := of_decide_eq_true hb; omega
    -- there is a next one
    have hnext : ∃ z ∈ getW g x, Least (getW g) I s l z := by
      rcases hx with ⟨e1, e2⟩ | hx
      · subst e1; subst e2; exact ⟨y0, hy0W, l0⟩
      · exact hx.down hl
    obtain ⟨z0, hz0, lz0⟩ := hnext
    walk_at "ss"
    refine p_ixL (atI_last' ep) ?_
    walk_at "ss"
    refine p_ixD (key := .inr x) (d := sL (getW g x)) rfl (look_of_ne hz0) ?_
    walk_at "ss"
    refine k_lcM (getW g x) D.str (fun z => decide (((st.lookup z).getD 0 : Nat) = l)) D.str [.sh (encG g), .sh (.dct (dTrue I)), .sh (.str s), .ow false (.dct (encN st)), .ow false (.lst ((((getW g s).filter fun x => (st.lookup x).isSome && decide (x ≠ s)).map fun x => ((st.lookup x).getD 0 : Int)).map D.int)), .ow false (.lst ((s :: p).map D.str)), .sh (.int l), n7, .un] rfl (small16 (by have := sm.len x; omega)) (free1 rfl f8) rfl ?_ ?_
    · intro z acc I2 hz _ a1 a2
      walk_at "ss"
      refine k_getN rfl ?_
      walk_at "ss"
      refine k_lcT (fun hb => ?_) (fun hb => ?_)
      · walk_at "ss"
        refine k_lcE rfl (by assumption) (a1 (decide_eq_true ?_))
        have := of_decide_eq_true hb
        omega
      · refine a2 (decide_eq_false ?_)
        have := of_decide_eq_false hb
        omega
    have hfol : ∀ z, z ∈ (getW g x).filter (fun z => decide (((st.lookup z).getD 0 : Nat) = l)) ↔ z ∈ getW g x ∧ Least (getW g) I s l z := fun z => by
      rw [List.mem_filter]
      refine and_congr_right fun hz => ?_
      rw [decide_eq_true_eq]
      constructor
      · intro e
        cases ez : st.lookup z with
        | none => rw [ez] at e; simp at e; omega
        | some w =>
          rw [ez] at e
          have e' : w = l := by simpa using e
          subst e'
          rcases (hst z w).mp ez with y | y
          · omega
          · exact y.2
      · intro lz
        rw [(hlk z lz.1.above.ne l).mpr lz]; rfl
    walk_at "ss"
    refine k_set rfl f7 ?_
    walk_at "ss"
    refine p_minS (fun e => ?_) fun y hy hmy => ?_
    · have := (hfol z0).mpr ⟨hz0, lz0⟩
      rw [e] at this; cases this
    obtain ⟨hyW, ly⟩ := (hfol y).mp hy
    walk_at "ss"
    refine k_app rfl rfl (small16 (by simp; omega)) ?_
    walk_at "ss"
    obtain ⟨l', rfl⟩ : ∃ l', l = l' + 1 := ⟨l - 1, by omega⟩
    refine ⟨l', by omega, l', p ++ [y], y, .ow false (.lst (((getW g x).filter fun z => decide (((st.lookup z).getD 0 : Nat) = l' + 1)).map D.str)), .un, s :: p, ?_, rfl, rfl, by simp, by simp; omega, rfl, fun q' hq' => ?_, .inr ly⟩
    · have e1 : ((l' + 1 : Nat) : Int) - 1 = (l' : Int) := by omega
      rw [e1]
      simp
    · rw [List.append_assoc]
      exact hg _ (.cons hyW ly (fun z hz lz => hmy z ((hfol z).mpr ⟨hz, lz⟩)) hq')
  · have hl : l = 0 := by have := of_decide_eq_false hb; omega
    subst hl
    have hgd : Gdy (getW g) I s s k0 p := by have := hg [] .nil; rwa [List.append_nil] at this
    walk_at "ss"
    show R (.sh (encO (some (s :: p)))) _
    exact q (some (s :: p)) (best_some hs hk0p hall hgd) fun r e => by cases e; simp; omega

end WL

set_option Elab.async false
set_option linter.all false
set_option maxRecDepth 100000
set_option maxHeartbeats 4000000
namespace WL
open PySem PySem.Spec PyProof.Rows L2
local macro_rules | `(tactic| walk_at "s") => `(tactic| first
  | ((with_reducible show vSeq _ _ _ _); refine u_seq ?_)
  | ((with_reducible show vSet _ _ _ _); refine u_set ?_)
  | ((with_reducible show kSet _ _ _ _); refine k_set rfl rfl ?_)
  | ((with_reducible show vRet _ _ _); refine u_ret ?_)
  | ((with_reducible show vIf _ _ _ _ _); refine u_if ?_)
  | ((with_reducible show vExpr _ _ _); refine u_expr ?_)
  | ((with_reducible show kExpr _ _ _); refine k_expr ?_)
  | ((with_reducible show vRetN _ _); refine u_retN ?_)
  | ((with_reducible show vAsg _ _ _ _); refine u_asg ?_)
  | ((with_reducible show kAsg _ _ _ _); refine k_asg rfl ?_)
  | ((with_reducible show vNext _ _); refine u_next ?_)
  | ((with_reducible show vBreak _ _); refine u_break ?_)
  | ((with_reducible show vCont _ _); refine u_cont ?_)
  | ((with_reducible show kIf _ _ _ _ _); (first | refine k_ifT ?_ | refine k_ifF ?_))
  | ((with_reducible show vVal _ _ _); refine u_val ?_)
  | ((with_reducible show kVal _ _ _); refine k_val ?_)
  | ((with_reducible show vPk _ _ _); refine u_pk rfl rfl ?_)
  | ((with_reducible show vC _ _ _); refine u_c ?_)
  | ((with_reducible show vVar _ _ _); (first | refine u_var rfl ?_ | refine u_varL rfl ?_ | refine u_varD rfl ?_ | refine u_varE rfl ?_))
  | ((with_reducible show vMv _ _ _); (first | refine u_mv rfl ?_ | refine u_mvO rfl ?_))
  | ((with_reducible show vBin _ _ _ _ _); refine u_bin ?_)
  | ((with_reducible show kBin1 _ _ _ _ _); refine k_bin1 ?_)
  | ((with_reducible show kBin2 _ _ _ _ _); refine k_bin2 rfl rfl ?_)
  | ((with_reducible show vUn _ _ _ _); refine u_un ?_)
  | ((with_reducible show kUn _ _ _ _); refine k_un rfl ?_)
  | ((with_reducible show vCons _ _ _ _); refine u_cons ?_)
  | ((with_reducible show kCons1 _ _ _ _); refine k_cons1 ?_)
  | ((with_reducible show vNil _ _); refine u_nil ?_)
  | ((with_reducible show kCons2 _ _ _ _); refine k_cons2 ?_)
  | ((with_reducible show vPrim _ _ _ _); refine u_prim ?_)
  | ((with_reducible show kPrim _ _ _ _); (first | refine k_prim1 rfl ?_ | refine k_prim2 rfl rfl ?_))
  | ((with_reducible show kRet _ _ _); (first | refine k_retV ?_ | refine k_retL ?_ | refine k_retT ?_ | refine k_retD ?_))
  | ((with_reducible show vSh _ _ _); refine u_sh ?_)
  | ((with_reducible show kSh _ _ _); (first | refine k_sh ?_ | refine k_shL ?_ | refine k_shD ?_))
  | ((with_reducible show vT _ _ _); refine u_t ?_)
  | ((with_reducible show kT _ _ _); refine k_t ?_)
  | ((with_reducible show vTru _ _ _); refine u_tru ?_)
  | ((with_reducible show kTru _ _ _); refine k_tru rfl rfl ?_)
  | ((with_reducible show vAnd _ _ _ _); refine u_and ?_)
  | ((with_reducible show kAnd _ _ _ _); (first | refine k_andT ?_ | refine k_andF ?_))
  | ((with_reducible show vOr _ _ _ _); refine u_or ?_)
  | ((with_reducible show kOr _ _ _ _); (first | refine k_orT ?_ | refine k_orF ?_))
  | ((with_reducible show vNot _ _ _); refine u_not ?_)
  | ((with_reducible show kNot _ _ _); refine k_not ?_)
  | ((with_reducible show vAndV _ _ _ _); refine u_andV ?_)
  | ((with_reducible show kAndV _ _ _ _); (first | refine k_andVT ?_ | refine k_andVF ?_))
  | ((with_reducible show kOrV _ _ _ _); (first | refine k_orVT ?_ | refine k_orVF ?_))
  | ((with_reducible show vOrV _ _ _ _); refine u_orV ?_)
  | ((with_reducible show vNotV _ _ _); refine u_notV ?_)
  | ((with_reducible show kNotV _ _ _); refine k_notV ?_)
  | ((with_reducible show vIfE _ _ _ _ _); refine u_ifE ?_)
  | ((with_reducible show kIfE _ _ _ _ _); (first | refine k_ifET ?_ | refine k_ifEF ?_))
  | ((with_reducible show vLst _ _ _); refine u_lst ?_)
  | ((with_reducible show kLst _ _ _); refine k_lst rfl (by simp only [List.length_cons, List.length_nil]; decide) ?_)
  | ((with_reducible show vTup _ _ _); refine u_tup ?_)
  | ((with_reducible show kTup _ _ _); refine k_tup rfl (by simp only [List.length_cons, List.length_nil]; decide) ?_)
  | ((with_reducible show vNewD _ _); refine u_newD ?_)
  | ((with_reducible show vSl _ _ _ _ _); refine u_sl ?_)
  | ((with_reducible show kSl0 _ _ _ _ _); refine k_sl0 ?_)
  | ((with_reducible show kSl1 _ _ _ _ _); refine k_sl1 ?_)
  | ((with_reducible show kSl2 _ _ _ _ _); refine k_sl2 rfl ?_)
  | ((with_reducible show vNoPart _ _); refine u_noPart ?_)
  | ((with_reducible show vPart _ _ _); refine u_part ?_)
  | ((with_reducible show kPart _ _ _); refine k_part ?_)
  | ((with_reducible show vApp _ _ _ _); refine u_app rfl ?_)
  | ((with_reducible show vPopAt _ _ _ _); refine u_popAt rfl ?_)
  | ((with_reducible show vExt _ _ _ _); refine u_ext rfl ?_)
  | ((with_reducible show vM1 _ _ _ _ _); refine u_m1 ?_)
  | ((with_reducible show kM1a _ _ _ _ _); refine k_m1a rfl ?_)
  | ((with_reducible show kM1b _ _ _ _ _); refine k_m1b rfl rfl ?_)
  | ((with_reducible show vGet2 _ _ _ _ _); refine u_get2 ?_)
  | ((with_reducible show kGet1 _ _ _ _ _); refine k_get1 rfl ?_)
  | ((with_reducible show kGet2 _ _ _ _ _); refine k_get2 ?_)
  | ((with_reducible show vSetL _ _ _ _ _); refine u_setL ?_)
  | ((with_reducible show kSetL1 _ _ _ _ _); refine k_setL1 rfl ?_)
  | ((with_reducible show kSetL2 _ _ _ _ _); (first | refine k_setL2j 0 rfl rfl (by simp) rfl ?_ | refine k_setL2j 1 rfl rfl (by simp) rfl ?_ | refine k_setL2j 2 rfl rfl (by simp) rfl ?_))
  | ((with_reducible show vPutD _ _ _ _ _); refine u_putD ?_)
  | ((with_reducible show kPutD1 _ _ _ _ _); refine k_putD1 rfl ?_)
  | ((with_reducible show vAugL _ _ _ _ _ _); refine u_augL rfl ?_)
  | ((with_reducible show kAugL1 _ _ _ _ _ _); (first | refine k_augL1j 0 rfl rfl rfl ?_ | refine k_augL1j 1 rfl rfl rfl ?_ | refine k_augL1j 2 rfl rfl rfl ?_))
  | ((with_reducible show kAugL2 _ _ _ _ _ _ _); refine k_augL2j rfl (by simp) ?_)
  | ((with_reducible show vAug _ _ _ _ _); refine u_aug rfl ?_)
  | ((with_reducible show kAug _ _ _ _ _ _); (first | refine k_augAdd rfl ?_ | refine k_augSub rfl ?_))
  | ((with_reducible show vCall _ _ _ _); refine u_call ?_)
  | ((with_reducible show gN _ _ _ _); refine u_gN rfl rfl ?_)
  | ((with_reducible show gT _ _ _ _); refine u_gT rfl ?_)
  | ((with_reducible show gL _ _ _ _); refine u_gL rfl rfl ?_)
  | ((with_reducible show gTs _ _ _ _); (first | refine u_gTs0 ?_ | refine u_gTs ?_))
  | ((with_reducible show vItL _ _ _); refine u_itL ?_)
  | ((with_reducible show kItL _ _ _); refine k_itL rfl rfl ?_)
  | ((with_reducible show vItT _ _ _); refine u_itT ?_)
  | ((with_reducible show kItT _ _ _); refine k_itT rfl rfl ?_)
  | ((with_reducible show vItR1 _ _ _); refine u_itR1 ?_)
  | ((with_reducible show vItR2 _ _ _); refine u_itR2 ?_)
  | ((with_reducible show vFor _ _ _ _ _); refine u_for ?_)
  | ((with_reducible show vLc _ _ _ _ _ _ _); refine u_lc ?_)
  | ((with_reducible show vLcK _ _ _ _ _ _ _); refine u_lcK rfl ?_)
  | ((with_reducible show vYes _ _); refine u_yes ?_)
  | ((with_reducible show kLcT _ _ _ _ _ _); refine k_lcTT ?_)
  | ((with_reducible show addP _ _); refine p_addI ?_)
  | ((with_reducible show subP _ _); refine p_subI ?_)
  | ((with_reducible show mulP _ _); (first | refine p_mulI (.inl (.inl (by omega))) ?_ | refine p_mulI (.inl (.inr (by omega))) ?_))
  | ((with_reducible show modP _ _); refine p_modI (by omega) ?_)
  | ((with_reducible show divP _ _); refine p_divI (.inl (by constructor <;> omega)) ?_)
  | ((with_reducible show negP _ _); refine p_negI ?_)
  | ((with_reducible show ltP _ _); refine p_ltI ?_)
  | ((with_reducible show leP _ _); refine p_leI ?_)
  | ((with_reducible show gtP _ _); refine p_gtI ?_)
  | ((with_reducible show geP _ _); refine p_geI ?_)
  | ((with_reducible show eqP _ _); (first | refine p_eqI ?_ | refine p_eqS ?_ | refine p_eqB ?_ | refine p_eqN ?_))
  | ((with_reducible show neP _ _); (first | refine p_neI ?_ | refine p_neS ?_ | refine p_neB ?_))
  | ((with_reducible show isNP _ _); (first | refine p_isNn ?_ | refine p_isNi ?_ | refine p_isNs ?_ | refine p_isNb ?_ | refine p_isNl ?_ | refine p_isNt ?_ | refine p_isNd ?_))
  | ((with_reducible show notNP _ _); (first | refine p_notNn ?_ | refine p_notNi ?_ | refine p_notNs ?_ | refine p_notNb ?_ | refine p_notNl ?_ | refine p_notNt ?_ | refine p_notNd ?_))
  | ((with_reducible show isiP _ _); refine p_isi rfl rfl ?_)
  | ((with_reducible show isiTP _ _); refine p_isiT rfl rfl ?_)
  | ((with_reducible show reprP _ _); (first | refine p_reprB ?_ | refine p_reprN ?_))
  | ((with_reducible show lenP _ _); (first | refine p_lenL ?_ | refine p_lenF ?_ | refine p_lenT ?_ | refine p_lenD ?_))
  | ((with_reducible show absP _ _); refine p_absI ?_)
  | ((with_reducible show intP _ _); refine p_intI ?_)
  | ((with_reducible show listP _ _); (first | refine p_listL ?_ | refine p_listF ?_ | refine p_listD ?_))
  | ((with_reducible show ixP _ _); (first | refine p_ixLj 0 rfl rfl ?_ | refine p_ixLj 1 rfl rfl ?_ | refine p_ixLj 2 rfl rfl ?_ | refine p_ixLj 3 rfl rfl ?_ | refine p_ixTj 0 rfl rfl ?_ | refine p_ixTj 1 rfl rfl ?_ | refine p_ixTj 2 rfl rfl ?_ | refine p_ixTj 3 rfl rfl ?_))
  | ((with_reducible show inP _ _ _); (first | refine p_inS0 ?_ | refine p_inS1 ?_ | refine p_inI0 ?_ | refine p_inI1 ?_ | refine p_inD0 rfl ?_ | refine p_inD1 rfl ?_))
  | ((with_reducible show slP _ _ _ _); (first | refine p_slL ?_ | refine p_slF ?_))
  | ((with_reducible show sumP _ _); refine p_sum ?_)
  | ((with_reducible show maxP _ _); refine p_max2 ?_)
  | ((with_reducible show minP _ _); refine p_min2 ?_)
  | ((with_reducible show allP _ _); refine p_all ?_)
  | ((with_reducible show anyP _ _); refine p_any ?_))
local macro_rules | `(tactic| walk_at "s") => `(tactic| first
  | ((with_reducible show vDc _ _ _ _ _ _ _ _); refine u_dc ?_)
  | ((with_reducible show vDcK _ _ _ _ _ _ _ _); refine u_dcK rfl ?_)
  | ((with_reducible show kDcT _ _ _ _ _ _ _); refine k_dcTT ?_)
  | ((with_reducible show kDcK _ _ _ _ _ _); refine k_dcK ?_)
  | ((with_reducible show vDisp1 _ _ _ _); refine u_disp1 ?_)
  | ((with_reducible show kDisp1 _ _ _ _); refine k_disp1 ?_)
  | ((with_reducible show kDisp2 _ _ _ _); refine k_disp2 rfl rfl ?_)
  | ((with_reducible show vShR _ _ _); refine u_shR ?_)
  | ((with_reducible show kShR _ _ _); refine k_shR ?_)
  | ((with_reducible show vPutR _ _ _ _ _); refine u_putR ?_))
local macro_rules | `(tactic| walk_at "ss") => `(tactic| repeat walk_at "s")
local macro_rules | `(tactic| walk_at "back") => `(tactic| refine k_back ?_ (by dsimp only [takeBack, backS, List.set, List.getElem?_cons_zero, List.getElem?_cons_succ]))
def v_least_ring : VS :=
  vSeq (vSet 2 (vDc (vItL (vVar 1)) (gN 6) vYes (vVar 6) (vC (.bl true)) [6]))
    (vSeq (vSet 3 (vC .non))
    (vSeq (vKnow 2 (vFor (vItL (vPrim sortDP (vCons (vPk 2) (vNil)))) (gN 4) (vSeq (vSet 5 (vCall S_ring_from (vCons (vVal (vVar 0)) (vCons (vVal (vVar 2)) (vCons (vVal (vVar 4)) (vNil))))))
    (vIf (vAnd (vT (vBin notNP (vPk 5) (vVal (vC .non)))) (vOr (vT (vBin isNP (vPk 3) (vVal (vC .non)))) (vT (vBin ltP (vVal (vPrim lenP (vCons (vPk 5) (vNil)))) (vVal (vPrim lenP (vCons (vPk 3) (vNil)))))))) (vSet 3 (vVar 5)) (vNext)))))
    (vRet (vMv 3))))
/-! ### least_ring -/
def S_least_ring : VSp := fun ρs R _ => ∃ g I, ρs = [.sh (encG g), .sh (sL I)] ∧ GOk g ∧ IOk I ∧ ∀ o : Option (List Str), Best (getW g) I I o → (∀ r, o = some r → r.length ≤ 100) → R (.sh (encO o)) [.sh (encG g), .sh (sL I)]
theorem rd_least_ring : Reads S_least_ring (fun _ => v_least_ring) 5 := fun ρs R _ h => by
  obtain ⟨g, I, rfl, ok, iok, q⟩ := h
  have hI := iok.len
  unfold v_least_ring
  show vSeq _ _ _ [.sh (encG g), .sh (sL I), .un, .un, .un, .un, .un]
  walk_at "ss"
  refine k_dc (free1 rfl rfl) (fun j acc ρ => ρ = [.sh (encG g), .sh (sL I), .un, .un, .un, .un, .un] ∧ acc = dTrue (I.take j)) ⟨rfl, rfl⟩ ?_ ?_
  · rintro j acc d ρ' hj ⟨rfl, rfl⟩
    rw [List.getElem?_map] at hj
    obtain ⟨x, hx, ed⟩ := Option.map_eq_some_iff.mp hj
    subst ed
    walk_at "ss"
    refine k_dcV rfl rfl ?_ ?_
    · rw [dTrue_len, List.length_take]; exact small16 (by omega)
    · refine ⟨rfl, ?_⟩
      have hnd : (I.take j ++ [x]).Nodup := by rw [← take_snoc hx]; exact iok.nd.sublist (List.take_sublist _ _)
      rw [put_true (fun z => (List.nodup_append.mp hnd).2.2 x z x (by simp) rfl), take_snoc hx]
  · rintro acc ρ' ⟨rfl, rfl⟩
    rw [List.length_map, List.take_length]
    walk_at "ss"
    refine u_know rfl ?_
    walk_at "ss"
    refine p_sortD (ks := I) (by unfold dTrue; rw [List.map_map]; rfl) (by omega) ?_
    walk_at "ss"
    refine k_for (fun j ρ => ∃ (o : Option (List Str)) (n4 n5 n6 : Slot), ρ = [.sh (encG g), .sh (sL I), .sh (.dct (dTrue I)), .sh (encO o), n4, n5, n6] ∧ n4.free = true ∧ n5.free = true ∧ n6.free = true ∧ Best (getW g) I ((sortS I).take j) o ∧ ∀ r, o = some r → r.length ≤ 100)
      ⟨none, .un, .un, .un, rfl, rfl, rfl, rfl, best_nil, fun r e => by cases e⟩ ?_ ?_
    · rintro j d ρ' hj ⟨o, n4, n5, n6, rfl, f4, f5, f6, hb, hol⟩
      rw [List.getElem?_map] at hj
      obtain ⟨s, hs, ed⟩ := Option.map_eq_some_iff.mp hj
      subst ed
      have et := take_snoc hs
      have hasc : ∀ x ∈ (sortS I).take j, slt x s := fun x hx => by
        have hp := sorted_asc (sortS_sorted I) ((sortS_perm I).nodup_iff.mpr iok.nd)
        have hp2 : ((sortS I).take j ++ [s]).Pairwise slt := by rw [← et]; exact hp.sublist (List.take_sublist _ _)
        exact (List.pairwise_append.mp hp2).2.2 x hx s (by simp)
      refine u_gN rfl f4 ?_
      walk_at "ss"
      refine k_call rfl ⟨g, I, s, rfl, ok, iok, fun o1 hb1 ho1 => ?_⟩
      walk_at "back"
      refine k_set rfl f5 ?_
      have fin : ∀ o', Best (getW g) I ((sortS I).take (j + 1)) o' → (∀ r, o' = some r → r.length ≤ 100) → ∃ (o : Option (List Str)) (m4 m5 m6 : Slot), [.sh (encG g), .sh (sL I), .sh (.dct (dTrue I)), .sh (encO o'), .sh (.str s), .sh (encO o1), n6] = [.sh (encG g), .sh (sL I), .sh (.dct (dTrue I)), .sh (encO o), m4, m5, m6] ∧ m4.free = true ∧ m5.free = true ∧ m6.free = true ∧ Best (getW g) I ((sortS I).take (j + 1)) o ∧ ∀ r, o = some r → r.length ≤ 100 := fun o' h1 h2 => ⟨o', _, _, _, rfl, rfl, rfl, f6, h1, h2⟩
      rw [et] at fin
      rw [et]
      cases o1 with
      | none =>
        unfold encO
        walk_at "ss"
        exact fin o (best_skip hb hb1) hol
      | some r1 =>
        cases o with
        | none =>
          unfold encO
          walk_at "ss"
          exact fin (some r1) (best_first hb hb1) ho1
        | some r0 =>
          unfold encO
          walk_at "ss"
          refine k_ifD (fun hl => ?_) (fun hl => ?_)
          · walk_at "ss"
            exact fin (some r1) (best_less hb hb1 (by simpa using hl)) ho1
          · walk_at "ss"
            exact fin (some r0) (best_keep hb hb1 (by simpa using hl) hasc) hol
    · rintro ρ' ⟨o, n4, n5, n6, rfl, f4, f5, f6, hb, hol⟩
      rw [List.length_map, List.take_length] at hb
      walk_at "ss"
      refine q o ?_ hol
      cases o with
      | none => exact fun s hs => hb s (mem_sortS.mpr hs)
      | some r => exact ⟨let ⟨s, a, b⟩ := hb.1; ⟨s, mem_sortS.mp a, b⟩, fun s hs => hb.2 s (mem_sortS.mpr hs)⟩
end WL

set_option Elab.async false
set_option linter.all false
set_option maxRecDepth 100000
set_option maxHeartbeats 4000000
namespace WL
open PySem PySem.Spec PyProof.Rows L2
local macro_rules | `(tactic| walk_at "s") => `(tactic| first
  | ((with_reducible show vSeq _ _ _ _); refine u_seq ?_)
  | ((with_reducible show vSet _ _ _ _); refine u_set ?_)
  | ((with_reducible show kSet _ _ _ _); refine k_set rfl rfl ?_)
  | ((with_reducible show vRet _ _ _); refine u_ret ?_)
  | ((with_reducible show vIf _ _ _ _ _); refine u_if ?_)
  | ((with_reducible show vExpr _ _ _); refine u_expr ?_)
  | ((with_reducible show kExpr _ _ _); refine k_expr ?_)
  | ((with_reducible show vRetN _ _); refine u_retN ?_)
  | ((with_reducible show vAsg _ _ _ _); refine u_asg ?_)
  | ((with_reducible show kAsg _ _ _ _); refine k_asg rfl ?_)
  | ((with_reducible show vNext _ _); refine u_next ?_)
  | ((with_reducible show vBreak _ _); refine u_break ?_)
  | ((with_reducible show vCont _ _); refine u_cont ?_)
  | ((with_reducible show kIf _ _ _ _ _); (first | refine k_ifT ?_ | refine k_ifF ?_))
  | ((with_reducible show vVal _ _ _); refine u_val ?_)
  | ((with_reducible show kVal _ _ _); refine k_val ?_)
  | ((with_reducible show vPk _ _ _); refine u_pk rfl rfl ?_)
  | ((with_reducible show vC _ _ _); refine u_c ?_)
  | ((with_reducible show vVar _ _ _); (first | refine u_var rfl ?_ | refine u_varL rfl ?_ | refine u_varD rfl ?_ | refine u_varE rfl ?_))
  | ((with_reducible show vMv _ _ _); (first | refine u_mv rfl ?_ | refine u_mvO rfl ?_))
  | ((with_reducible show vBin _ _ _ _ _); refine u_bin ?_)
  | ((with_reducible show kBin1 _ _ _ _ _); refine k_bin1 ?_)
  | ((with_reducible show kBin2 _ _ _ _ _); refine k_bin2 rfl rfl ?_)
  | ((with_reducible show vUn _ _ _ _); refine u_un ?_)
  | ((with_reducible show kUn _ _ _ _); refine k_un rfl ?_)
  | ((with_reducible show vCons _ _ _ _); refine u_cons ?_)
  | ((with_reducible show kCons1 _ _ _ _); refine k_cons1 ?_)
  | ((with_reducible show vNil _ _); refine u_nil ?_)
  | ((with_reducible show kCons2 _ _ _ _); refine k_cons2 ?_)
  | ((with_reducible show vPrim _ _ _ _); refine u_prim ?_)
  | ((with_reducible show kPrim _ _ _ _); (first | refine k_prim1 rfl ?_ | refine k_prim2 rfl rfl ?_))
  | ((with_reducible show kRet _ _ _); (first | refine k_retV ?_ | refine k_retL ?_ | refine k_retT ?_ | refine k_retD ?_))
  | ((with_reducible show vSh _ _ _); refine u_sh ?_)
  | ((with_reducible show kSh _ _ _); (first | refine k_sh ?_ | refine k_shL ?_ | refine k_shD ?_))
  | ((with_reducible show vT _ _ _); refine u_t ?_)
  | ((with_reducible show kT _ _ _); refine k_t ?_)
  | ((with_reducible show vTru _ _ _); refine u_tru ?_)
  | ((with_reducible show kTru _ _ _); refine k_tru rfl rfl ?_)
  | ((with_reducible show vAnd _ _ _ _); refine u_and ?_)
  | ((with_reducible show kAnd _ _ _ _); (first | refine k_andT ?_ | refine k_andF ?_))
  | ((with_reducible show vOr _ _ _ _); refine u_or ?_)
  | ((with_reducible show kOr _ _ _ _); (first | refine k_orT ?_ | refine k_orF ?_))
  | ((with_reducible show vNot _ _ _); refine u_not ?_)
  | ((with_reducible show kNot _ _ _); refine k_not ?_)
  | ((with_reducible show vAndV _ _ _ _); refine u_andV ?_)
  | ((with_reducible show kAndV _ _ _ _); (first | refine k_andVT ?_ | refine k_andVF ?_))
  | ((with_reducible show kOrV _ _ _ _); (first | refine k_orVT ?_ | refine k_orVF ?_))
  | ((with_reducible show vOrV _ _ _ _); refine u_orV ?_)
  | ((with_reducible show vNotV _ _ _); refine u_notV ?_)
  | ((with_reducible show kNotV _ _ _); refine k_notV ?_)
  | ((with_reducible show vIfE _ _ _ _ _); refine u_ifE ?_)
  | ((with_reducible show kIfE _ _ _ _ _); (first | refine k_ifET ?_ | refine k_ifEF ?_))
  | ((with_reducible show vLst _ _ _); refine u_lst ?_)
  | ((with_reducible show kLst _ _ _); refine k_lst rfl (by simp only [List.length_cons, List.length_nil]; decide) ?_)
  | ((with_reducible show vTup _ _ _); refine u_tup ?_)
  | ((with_reducible show kTup _ _ _); refine k_tup rfl (by simp only [List.length_cons, List.length_nil]; decide) ?_)
  | ((with_reducible show vNewD _ _); refine u_newD ?_)
  | ((with_reducible show vSl _ _ _ _ _); refine u_sl ?_)
  | ((with_reducible show kSl0 _ _ _ _ _); refine k_sl0 ?_)
  | ((with_reducible show kSl1 _ _ _ _ _); refine k_sl1 ?_)
  | ((with_reducible show kSl2 _ _ _ _ _); refine k_sl2 rfl ?_)
  | ((with_reducible show vNoPart _ _); refine u_noPart ?_)
  | ((with_reducible show vPart _ _ _); refine u_part ?_)
  | ((with_reducible show kPart _ _ _); refine k_part ?_)
  | ((with_reducible show vApp _ _ _ _); refine u_app rfl ?_)
  | ((with_reducible show vPopAt _ _ _ _); refine u_popAt rfl ?_)
  | ((with_reducible show vExt _ _ _ _); refine u_ext rfl ?_)
  | ((with_reducible show vM1 _ _ _ _ _); refine u_m1 ?_)
  | ((with_reducible show kM1a _ _ _ _ _); refine k_m1a rfl ?_)
  | ((with_reducible show kM1b _ _ _ _ _); refine k_m1b rfl rfl ?_)
  | ((with_reducible show vGet2 _ _ _ _ _); refine u_get2 ?_)
  | ((with_reducible show kGet1 _ _ _ _ _); refine k_get1 rfl ?_)
  | ((with_reducible show kGet2 _ _ _ _ _); refine k_get2 ?_)
  | ((with_reducible show vSetL _ _ _ _ _); refine u_setL ?_)
  | ((with_reducible show kSetL1 _ _ _ _ _); refine k_setL1 rfl ?_)
  | ((with_reducible show kSetL2 _ _ _ _ _); (first | refine k_setL2j 0 rfl rfl (by simp) rfl ?_ | refine k_setL2j 1 rfl rfl (by simp) rfl ?_ | refine k_setL2j 2 rfl rfl (by simp) rfl ?_))
  | ((with_reducible show vPutD _ _ _ _ _); refine u_putD ?_)
  | ((with_reducible show kPutD1 _ _ _ _ _); refine k_putD1 rfl ?_)
  | ((with_reducible show vAugL _ _ _ _ _ _); refine u_augL rfl ?_)
  | ((with_reducible show kAugL1 _ _ _ _ _ _); (first | refine k_augL1j 0 rfl rfl rfl ?_ | refine k_augL1j 1 rfl rfl rfl ?_ | refine k_augL1j 2 rfl rfl rfl ?_))
  | ((with_reducible show kAugL2 _ _ _ _ _ _ _); refine k_augL2j rfl (by simp) ?_)
  | ((with_reducible show vAug _ _ _ _ _); refine u_aug rfl ?_)
  | ((with_reducible show kAug _ _ _ _ _ _); (first | refine k_augAdd rfl ?_ | refine k_augSub rfl ?_))
  | ((with_reducible show vCall _ _ _ _); refine u_call ?_)
  | ((with_reducible show gN _ _ _ _); refine u_gN rfl rfl ?_)
  | ((with_reducible show gT _ _ _ _); refine u_gT rfl ?_)
  | ((with_reducible show gL _ _ _ _); refine u_gL rfl rfl ?_)
  | ((with_reducible show gTs _ _ _ _); (first | refine u_gTs0 ?_ | refine u_gTs ?_))
  | ((with_reducible show vItL _ _ _); refine u_itL ?_)
  | ((with_reducible show kItL _ _ _); refine k_itL rfl rfl ?_)
  | ((with_reducible show vItT _ _ _); refine u_itT ?_)
  | ((with_reducible show kItT _ _ _); refine k_itT rfl rfl ?_)
  | ((with_reducible show vItR1 _ _ _); refine u_itR1 ?_)
  | ((with_reducible show vItR2 _ _ _); refine u_itR2 ?_)
  | ((with_reducible show vFor _ _ _ _ _); refine u_for ?_)
  | ((with_reducible show vLc _ _ _ _ _ _ _); refine u_lc ?_)
  | ((with_reducible show vLcK _ _ _ _ _ _ _); refine u_lcK rfl ?_)
  | ((with_reducible show vYes _ _); refine u_yes ?_)
  | ((with_reducible show kLcT _ _ _ _ _ _); refine k_lcTT ?_)
  | ((with_reducible show addP _ _); refine p_addI ?_)
  | ((with_reducible show subP _ _); refine p_subI ?_)
  | ((with_reducible show mulP _ _); (first | refine p_mulI (.inl (.inl (by omega))) ?_ | refine p_mulI (.inl (.inr (by omega))) ?_))
  | ((with_reducible show modP _ _); refine p_modI (by omega) ?_)
  | ((with_reducible show divP _ _); refine p_divI (.inl (by constructor <;> omega)) ?_)
  | ((with_reducible show negP _ _); refine p_negI ?_)
  | ((with_reducible show ltP _ _); refine p_ltI ?_)
  | ((with_reducible show leP _ _); refine p_leI ?_)
  | ((with_reducible show gtP _ _); refine p_gtI ?_)
  | ((with_reducible show geP _ _); refine p_geI ?_)
  | ((with_reducible show eqP _ _); (first | refine p_eqI ?_ | refine p_eqS ?_ | refine p_eqB ?_ | refine p_eqN ?_))
  | ((with_reducible show neP _ _); (first | refine p_neI ?_ | refine p_neS ?_ | refine p_neB ?_))
  | ((with_reducible show isNP _ _); (first | refine p_isNn ?_ | refine p_isNi ?_ | refine p_isNs ?_ | refine p_isNb ?_ | refine p_isNl ?_ | refine p_isNt ?_ | refine p_isNd ?_))
  | ((with_reducible show notNP _ _); (first | refine p_notNn ?_ | refine p_notNi ?_ | refine p_notNs ?_ | refine p_notNb ?_ | refine p_notNl ?_ | refine p_notNt ?_ | refine p_notNd ?_))
  | ((with_reducible show isiP _ _); refine p_isi rfl rfl ?_)
  | ((with_reducible show isiTP _ _); refine p_isiT rfl rfl ?_)
  | ((with_reducible show reprP _ _); (first | refine p_reprB ?_ | refine p_reprN ?_))
  | ((with_reducible show lenP _ _); (first | refine p_lenL ?_ | refine p_lenF ?_ | refine p_lenT ?_ | refine p_lenD ?_))
  | ((with_reducible show absP _ _); refine p_absI ?_)
  | ((with_reducible show intP _ _); refine p_intI ?_)
  | ((with_reducible show listP _ _); (first | refine p_listL ?_ | refine p_listF ?_ | refine p_listD ?_))
  | ((with_reducible show ixP _ _); (first | refine p_ixLj 0 rfl rfl ?_ | refine p_ixLj 1 rfl rfl ?_ | refine p_ixLj 2 rfl rfl ?_ | refine p_ixLj 3 rfl rfl ?_ | refine p_ixTj 0 rfl rfl ?_ | refine p_ixTj 1 rfl rfl ?_ | refine p_ixTj 2 rfl rfl ?_ | refine p_ixTj 3 rfl rfl ?_))
  | ((with_reducible show inP _ _ _); (first | refine p_inS0 ?_ | refine p_inS1 ?_ | refine p_inI0 ?_ | refine p_inI1 ?_ | refine p_inD0 rfl ?_ | refine p_inD1 rfl ?_))
  | ((with_reducible show slP _ _ _ _); (first | refine p_slL ?_ | refine p_slF ?_))
  | ((with_reducible show sumP _ _); refine p_sum ?_)
  | ((with_reducible show maxP _ _); refine p_max2 ?_)
  | ((with_reducible show minP _ _); refine p_min2 ?_)
  | ((with_reducible show allP _ _); refine p_all ?_)
  | ((with_reducible show anyP _ _); refine p_any ?_))
local macro_rules | `(tactic| walk_at "s") => `(tactic| first
  | ((with_reducible show vDc _ _ _ _ _ _ _ _); refine u_dc ?_)
  | ((with_reducible show vDcK _ _ _ _ _ _ _ _); refine u_dcK rfl ?_)
  | ((with_reducible show kDcT _ _ _ _ _ _ _); refine k_dcTT ?_)
  | ((with_reducible show kDcK _ _ _ _ _ _); refine k_dcK ?_)
  | ((with_reducible show vDisp1 _ _ _ _); refine u_disp1 ?_)
  | ((with_reducible show kDisp1 _ _ _ _); refine k_disp1 ?_)
  | ((with_reducible show kDisp2 _ _ _ _); refine k_disp2 rfl rfl ?_)
  | ((with_reducible show vShR _ _ _); refine u_shR ?_)
  | ((with_reducible show kShR _ _ _); refine k_shR ?_)
  | ((with_reducible show vPutR _ _ _ _ _); refine u_putR ?_))
local macro_rules | `(tactic| walk_at "ss") => `(tactic| repeat walk_at "s")
local macro_rules | `(tactic| walk_at "back") => `(tactic| refine k_back ?_ (by dsimp only [takeBack, backS, List.set, List.getElem?_cons_zero, List.getElem?_cons_succ]))
/-! ### all rings -/
def PCh (W : Str → List Str) : Str → List Str → Prop
  | _, [] => True
  | x, y :: p => y ∈ W x ∧ PCh W y p
def lastOf : Str → List Str → Str
  | x, [] => x
  | _, y :: p => lastOf y p
def Path (W : Str → List Str) (I : List Str) (s : Str) (r : List Str) : Prop := ∃ p, r = s :: p ∧ PCh W s p ∧ (∀ x ∈ p, Above I s x) ∧ p.Nodup
section
variable {W : Str → List Str} {I : List Str} {s : Str}
theorem ch_iff : ∀ {x : Str} {p : List Str}, Ch W s x p ↔ PCh W x p ∧ s ∈ W (lastOf x p)
  | x, [] => by unfold Ch PCh lastOf; simp
  | x, y :: p => by unfold Ch PCh lastOf; rw [ch_iff (p := p), and_assoc]
theorem last_split : ∀ (x : Str) (p : List Str), ∃ pre, x :: p = pre ++ [lastOf x p]
  | x, [] => ⟨[], rfl⟩
  | x, y :: p => by
    obtain ⟨pre, e⟩ := last_split y p
    exact ⟨x :: pre, by show x :: (y :: p) = x :: pre ++ [lastOf y p]; rw [e]; rfl⟩
theorem pch_snoc : ∀ {x y : Str} {p : List Str}, PCh W x p → y ∈ W (lastOf x p) → PCh W x (p ++ [y])
  | x, y, [], _, h => ⟨h, trivial⟩
  | x, y, z :: p, h, h2 => ⟨h.1, pch_snoc h.2 h2⟩
theorem pch_next : ∀ {x y : Str} {p t : List Str}, PCh W x (p ++ y :: t) → y ∈ W (lastOf x p)
  | x, y, [], t, h => h.1
  | x, y, z :: p, t, h => pch_next (x := z) (p := p) (t := t) h.2
theorem Path.snoc {p : List Str} {y : Str} (h : Path W I s (s :: p)) (hy : y ∈ W (lastOf s p)) (ha : Above I s y) (hn : y ∉ s :: p) : Path W I s (s :: (p ++ [y])) := by
  obtain ⟨p', e, h1, h2, h3⟩ := h
  cases e
  refine ⟨_, rfl, pch_snoc h1 hy, fun x hx => ?_, ?_⟩
  · rcases List.mem_append.mp hx with z | z
    · exact h2 x z
    · rw [List.mem_singleton.mp z]; exact ha
  · refine List.nodup_append.mpr ⟨h3, by simp, fun a a1 b b1 e => ?_⟩
    rw [List.mem_singleton.mp b1] at e
    subst e
    exact hn (List.mem_cons_of_mem _ a1)
theorem Path.ring {p : List Str} (h : Path W I s (s :: p)) (hs : s ∈ W (lastOf s p)) : Ring W I s (s :: p) := by
  obtain ⟨p', e, h1, h2, h3⟩ := h
  cases e
  exact ⟨p, rfl, ch_iff.mpr ⟨h1, hs⟩, h2, h3⟩
theorem Path.len {r : List Str} (h : Path W I s r) (hs : s ∈ I) : r.length ≤ I.length := by
  obtain ⟨p, rfl, _, h2, h3⟩ := h
  refine nodup_le (List.nodup_cons.mpr ⟨fun z => slt_irrefl _ (h2 s z).2, h3⟩) fun x hx => ?_
  rcases List.mem_cons.mp hx with e | e
  · rw [e]; exact hs
  · exact (h2 x e).1
theorem Ring.path {r : List Str} (h : Ring W I s r) : Path W I s r := by
  obtain ⟨p, e, h1, h2, h3⟩ := h
  exact ⟨p, e, (ch_iff.mp h1).1, h2, h3⟩
/-- what comes next in a ring that begins so -/
theorem Ring.next {p : List Str} {r : List Str} (h : Ring W I s r) (hp : s :: p <+: r) : (r = s :: p ∧ s ∈ W (lastOf s p)) ∨ ∃ y ∈ W (lastOf s p), s :: (p ++ [y]) <+: r := by
  obtain ⟨p', e, h1, h2, h3⟩ := h
  obtain ⟨t, et⟩ := hp
  subst e
  have ep : p' = p ++ t := by simpa using et.symm
  subst ep
  obtain ⟨a, b⟩ := ch_iff.mp h1
  cases t with
  | nil => rw [List.append_nil] at b ⊢; exact .inl ⟨rfl, b⟩
  | cons y t => exact .inr ⟨y, pch_next a, t, by simp⟩
theorem Ring.fresh {p : List Str} {y : Str} {r : List Str} (h : Ring W I s r) (hp : s :: (p ++ [y]) <+: r) : Above I s y ∧ y ∉ s :: p ∧ y ≠ s := by
  obtain ⟨p', e, h1, h2, h3⟩ := h
  obtain ⟨t, et⟩ := hp
  subst e
  have ep : p' = (p ++ [y]) ++ t := by simpa using et.symm
  subst ep
  have ha := h2 y (by simp)
  refine ⟨ha, fun z => ?_, ha.ne⟩
  rcases List.mem_cons.mp z with e | e
  · exact ha.ne e
  · have := (List.nodup_append.mp h3).1
    exact (List.nodup_append.mp this).2.2 y e y (by simp) rfl
end
def fB : Nat → Nat
  | 0 => 1
  | k + 1 => 1 + 7 * fB k
def wsum (rows : List (List Str)) : Nat := (rows.map fun r => fB (7 - r.length)).sum
theorem wsum_app (a b : List (List Str)) : wsum (a ++ b) = wsum a + wsum b := by unfold wsum; rw [List.map_append, List.sum_append]
theorem wsum_one (r : List Str) : wsum [r] = fB (7 - r.length) := by unfold wsum; simp
theorem fB_pos : ∀ k, 0 < fB k
  | 0 => by decide
  | k + 1 => by show 0 < 1 + 7 * fB k; omega
theorem wsum_len : ∀ rows : List (List Str), rows.length ≤ wsum rows
  | [] => Nat.le_refl _
  | r :: rows => by
    have := wsum_len rows
    have := fB_pos (7 - r.length)
    show rows.length + 1 ≤ (fB (7 - r.length) :: rows.map fun r => fB (7 - r.length)).sum
    rw [List.sum_cons]
    unfold wsum at *
    omega
/-- the search from s: what is found and what is left to go on with -/
structure SI (W : Str → List Str) (I pre : List Str) (s : Str) (found rows : List (List Str)) : Prop where
  sound : ∀ r ∈ found, (∃ s' ∈ pre, Ring W I s' r) ∨ Ring W I s r
  old : ∀ s' ∈ pre, ∀ r, Ring W I s' r → r ∈ found
  all : ∀ r, Ring W I s r → r ∈ found ∨ ∃ row ∈ rows, row <+: r
  path : ∀ row ∈ rows, Path W I s row
/-- .. amid the walk over what the last of a row waits for -/
structure SJ (W : Str → List Str) (I pre : List Str) (s : Str) (p : List Str) (ws : List Str) (found rows : List (List Str)) : Prop where
  sound : ∀ r ∈ found, (∃ s' ∈ pre, Ring W I s' r) ∨ Ring W I s r
  old : ∀ s' ∈ pre, ∀ r, Ring W I s' r → r ∈ found
  all : ∀ r, Ring W I s r → r ∈ found ∨ (∃ row ∈ rows, row <+: r) ∨ (r = s :: p ∧ s ∈ ws) ∨ ∃ y ∈ ws, s :: (p ++ [y]) <+: r
  path : ∀ row ∈ rows, Path W I s row
  here : Path W I s (s :: p)
section
variable {W : Str → List Str} {I pre p ws : List Str} {s y : Str} {found rows : List (List Str)}
theorem SI.pop (h : SI W I pre s found rows) (hl : rows[rows.length - 1]? = some (s :: p)) : SJ W I pre s p (W (lastOf s p)) found rows.dropLast := by
  have hm : ∀ x, x ∈ rows ↔ x ∈ rows.dropLast ∨ x = s :: p := fun x => by
    have hne : rows ≠ [] := fun z => by subst z; cases hl
    have h2 := List.dropLast_concat_getLast hne
    have e : rows.getLast hne = s :: p := by
      have := List.getLast?_eq_getElem? (l := rows)
      rw [hl, List.getLast?_eq_some_getLast hne] at this
      exact Option.some.inj this
    rw [e] at h2
    conv => lhs; rw [← h2]
    rw [List.mem_append, List.mem_singleton]
  refine ⟨h.sound, h.old, fun r hr => ?_, fun row hrow => h.path row ((hm row).mpr (.inl hrow)), h.path _ ((hm _).mpr (.inr rfl))⟩
  rcases h.all r hr with z | ⟨row, hrow, hp⟩
  · exact .inl z
  · rcases (hm row).mp hrow with z | z
    · exact .inr (.inl ⟨row, z, hp⟩)
    · subst z
      rcases hr.next hp with z | z
      · exact .inr (.inr (.inl z))
      · exact .inr (.inr (.inr z))
theorem SJ.done (h : SJ W I pre s p [] found rows) : SI W I pre s found rows := ⟨h.sound, h.old, fun r hr => by
  rcases h.all r hr with z | z | z | z
  · exact .inl z
  · exact .inr z
  · exact absurd z.2 (by simp)
  · obtain ⟨_, z, _⟩ := z; exact absurd z (by simp), h.path⟩
/-- the last waits for s -/
theorem SJ.hit (h : SJ W I pre s p (s :: ws) found rows) (hf : s :: p ∈ found) : SJ W I pre s p ws found rows := ⟨h.sound, h.old, fun r hr => by
  rcases h.all r hr with z | z | z | ⟨y, hy, z⟩
  · exact .inl z
  · exact .inr (.inl z)
  · rw [z.1]; exact .inl hf
  · rcases List.mem_cons.mp hy with e | e
    · exact absurd e (hr.fresh z).2.2
    · exact .inr (.inr (.inr ⟨y, e, z⟩)), h.path, h.here⟩
theorem SJ.add (h : SJ W I pre s p ws found rows) (hs : s ∈ W (lastOf s p)) : SJ W I pre s p ws (found ++ [s :: p]) rows := ⟨fun r hr => by
  rcases List.mem_append.mp hr with z | z
  · exact h.sound r z
  · rw [List.mem_singleton.mp z]; exact .inr (h.here.ring hs), fun s' hs' r hr => List.mem_append_left _ (h.old s' hs' r hr), fun r hr => (h.all r hr).imp (fun z => List.mem_append_left _ z) id, h.path, h.here⟩
theorem SJ.push (h : SJ W I pre s p (y :: ws) found rows) (hys : y ≠ s) (hy : y ∈ W (lastOf s p)) (ha : Above I s y) (hn : y ∉ s :: p) : SJ W I pre s p ws found (rows ++ [s :: (p ++ [y])]) := ⟨h.sound, h.old, fun r hr => by
  rcases h.all r hr with z | ⟨row, h1, h2⟩ | ⟨z1, z2⟩ | ⟨u, hu, z⟩
  · exact .inl z
  · exact .inr (.inl ⟨row, List.mem_append_left _ h1, h2⟩)
  · rcases List.mem_cons.mp z2 with e | e
    · exact absurd e.symm hys
    · exact .inr (.inr (.inl ⟨z1, e⟩))
  · rcases List.mem_cons.mp hu with e | e
    · subst e; exact .inr (.inl ⟨_, List.mem_append_right _ (by simp), z⟩)
    · exact .inr (.inr (.inr ⟨u, e, z⟩)), fun row hrow => by
  rcases List.mem_append.mp hrow with z | z
  · exact h.path row z
  · rw [List.mem_singleton.mp z]; exact h.here.snoc hy ha hn, h.here⟩
theorem SJ.skip (h : SJ W I pre s p (y :: ws) found rows) (hys : y ≠ s) (hno : ¬ (Above I s y ∧ y ∉ s :: p)) : SJ W I pre s p ws found rows := ⟨h.sound, h.old, fun r hr => by
  rcases h.all r hr with z | z | ⟨z1, z2⟩ | ⟨u, hu, z⟩
  · exact .inl z
  · exact .inr (.inl z)
  · rcases List.mem_cons.mp z2 with e | e
    · exact absurd e.symm hys
    · exact .inr (.inr (.inl ⟨z1, e⟩))
  · rcases List.mem_cons.mp hu with e | e
    · subst e
      have := hr.fresh z
      exact absurd ⟨this.1, this.2.1⟩ hno
    · exact .inr (.inr (.inr ⟨u, e, z⟩)), h.path, h.here⟩
end
end WL

set_option Elab.async false
set_option linter.all false
set_option maxRecDepth 100000
set_option maxHeartbeats 4000000
namespace WL
open PySem PySem.Spec PyProof.Rows L2
local macro_rules | `(tactic| walk_at "s") => `(tactic| first
  | ((with_reducible show vSeq _ _ _ _); refine u_seq ?_)
  | ((with_reducible show vSet _ _ _ _); refine u_set ?_)
  | ((with_reducible show kSet _ _ _ _); refine k_set rfl rfl ?_)
  | ((with_reducible show vRet _ _ _); refine u_ret ?_)
  | ((with_reducible show vIf _ _ _ _ _); refine u_if ?_)
  | ((with_reducible show vExpr _ _ _); refine u_expr ?_)
  | ((with_reducible show kExpr _ _ _); refine k_expr ?_)
  | ((with_reducible show vRetN _ _); refine u_retN ?_)
  | ((with_reducible show vAsg _ _ _ _); refine u_asg ?_)
  | ((with_reducible show kAsg _ _ _ _); refine k_asg rfl ?_)
  | ((with_reducible show vNext _ _); refine u_next ?_)
  | ((with_reducible show vBreak _ _); refine u_break ?_)
  | ((with_reducible show vCont _ _); refine u_cont ?_)
  | ((with_reducible show kIf _ _ _ _ _); (first | refine k_ifT ?_ | refine k_ifF ?_))
  | ((with_reducible show vVal _ _ _); refine u_val ?_)
  | ((with_reducible show kVal _ _ _); refine k_val ?_)
  | ((with_reducible show vPk _ _ _); refine u_pk rfl rfl ?_)
  | ((with_reducible show vC _ _ _); refine u_c ?_)
  | ((with_reducible show vVar _ _ _); (first | refine u_var rfl ?_ | refine u_varL rfl ?_ | refine u_varD rfl ?_ | refine u_varE rfl ?_))
  | ((with_reducible show vMv _ _ _); (first | refine u_mv rfl ?_ | refine u_mvO rfl ?_))
  | ((with_reducible show vBin _ _ _ _ _); refine u_bin ?_)
  | ((with_reducible show kBin1 _ _ _ _ _); refine k_bin1 ?_)
  | ((with_reducible show kBin2 _ _ _ _ _); refine k_bin2 rfl rfl ?_)
  | ((with_reducible show vUn _ _ _ _); refine u_un ?_)
  | ((with_reducible show kUn _ _ _ _); refine k_un rfl ?_)
  | ((with_reducible show vCons _ _ _ _); refine u_cons ?_)
  | ((with_reducible show kCons1 _ _ _ _); refine k_cons1 ?_)
  | ((with_reducible show vNil _ _); refine u_nil ?_)
  | ((with_reducible show kCons2 _ _ _ _); refine k_cons2 ?_)
  | ((with_reducible show vPrim _ _ _ _); refine u_prim ?_)
  | ((with_reducible show kPrim _ _ _ _); (first | refine k_prim1 rfl ?_ | refine k_prim2 rfl rfl ?_))
  | ((with_reducible show kRet _ _ _); (first | refine k_retV ?_ | refine k_retL ?_ | refine k_retT ?_ | refine k_retD ?_))
  | ((with_reducible show vSh _ _ _); refine u_sh ?_)
  | ((with_reducible show kSh _ _ _); (first | refine k_sh ?_ | refine k_shL ?_ | refine k_shD ?_))
  | ((with_reducible show vT _ _ _); refine u_t ?_)
  | ((with_reducible show kT _ _ _); refine k_t ?_)
  | ((with_reducible show vTru _ _ _); refine u_tru ?_)
  | ((with_reducible show kTru _ _ _); refine k_tru rfl rfl ?_)
  | ((with_reducible show vAnd _ _ _ _); refine u_and ?_)
  | ((with_reducible show kAnd _ _ _ _); (first | refine k_andT ?_ | refine k_andF ?_))
  | ((with_reducible show vOr _ _ _ _); refine u_or ?_)
  | ((with_reducible show kOr _ _ _ _); (first | refine k_orT ?_ | refine k_orF ?_))
  | ((with_reducible show vNot _ _ _); refine u_not ?_)
  | ((with_reducible show kNot _ _ _); refine k_not ?_)
  | ((with_reducible show vAndV _ _ _ _); refine u_andV ?_)
  | ((with_reducible show kAndV _ _ _ _); (first | refine k_andVT ?_ | refine k_andVF ?_))
  | ((with_reducible show kOrV _ _ _ _); (first | refine k_orVT ?_ | refine k_orVF ?_))
  | ((with_reducible show vOrV _ _ _ _); refine u_orV ?_)
  | ((with_reducible show vNotV _ _ _); refine u_notV ?_)
  | ((with_reducible show kNotV _ _ _); refine k_notV ?_)
  | ((with_reducible show vIfE _ _ _ _ _); refine u_ifE ?_)
  | ((with_reducible show kIfE _ _ _ _ _); (first | refine k_ifET ?_ | refine k_ifEF ?_))
  | ((with_reducible show vLst _ _ _); refine u_lst ?_)
  | ((with_reducible show kLst _ _ _); refine k_lst rfl (by simp only [List.length_cons, List.length_nil]; decide) ?_)
  | ((with_reducible show vTup _ _ _); refine u_tup ?_)
  | ((with_reducible show kTup _ _ _); refine k_tup rfl (by simp only [List.length_cons, List.length_nil]; decide) ?_)
  | ((with_reducible show vNewD _ _); refine u_newD ?_)
  | ((with_reducible show vSl _ _ _ _ _); refine u_sl ?_)
  | ((with_reducible show kSl0 _ _ _ _ _); refine k_sl0 ?_)
  | ((with_reducible show kSl1 _ _ _ _ _); refine k_sl1 ?_)
  | ((with_reducible show kSl2 _ _ _ _ _); refine k_sl2 rfl ?_)
  | ((with_reducible show vNoPart _ _); refine u_noPart ?_)
  | ((with_reducible show vPart _ _ _); refine u_part ?_)
  | ((with_reducible show kPart _ _ _); refine k_part ?_)
  | ((with_reducible show vApp _ _ _ _); refine u_app rfl ?_)
  | ((with_reducible show vPopAt _ _ _ _); refine u_popAt rfl ?_)
  | ((with_reducible show vExt _ _ _ _); refine u_ext rfl ?_)
  | ((with_reducible show vM1 _ _ _ _ _); refine u_m1 ?_)
  | ((with_reducible show kM1a _ _ _ _ _); refine k_m1a rfl ?_)
  | ((with_reducible show kM1b _ _ _ _ _); refine k_m1b rfl rfl ?_)
  | ((with_reducible show vGet2 _ _ _ _ _); refine u_get2 ?_)
  | ((with_reducible show kGet1 _ _ _ _ _); refine k_get1 rfl ?_)
  | ((with_reducible show kGet2 _ _ _ _ _); refine k_get2 ?_)
  | ((with_reducible show vSetL _ _ _ _ _); refine u_setL ?_)
  | ((with_reducible show kSetL1 _ _ _ _ _); refine k_setL1 rfl ?_)
  | ((with_reducible show kSetL2 _ _ _ _ _); (first | refine k_setL2j 0 rfl rfl (by simp) rfl ?_ | refine k_setL2j 1 rfl rfl (by simp) rfl ?_ | refine k_setL2j 2 rfl rfl (by simp) rfl ?_))
  | ((with_reducible show vPutD _ _ _ _ _); refine u_putD ?_)
  | ((with_reducible show kPutD1 _ _ _ _ _); refine k_putD1 rfl ?_)
  | ((with_reducible show vAugL _ _ _ _ _ _); refine u_augL rfl ?_)
  | ((with_reducible show kAugL1 _ _ _ _ _ _); (first | refine k_augL1j 0 rfl rfl rfl ?_ | refine k_augL1j 1 rfl rfl rfl ?_ | refine k_augL1j 2 rfl rfl rfl ?_))
  | ((with_reducible show kAugL2 _ _ _ _ _ _ _); refine k_augL2j rfl (by simp) ?_)
  | ((with_reducible show vAug _ _ _ _ _); refine u_aug rfl ?_)
  | ((with_reducible show kAug _ _ _ _ _ _); (first | refine k_augAdd rfl ?_ | refine k_augSub rfl ?_))
  | ((with_reducible show vCall _ _ _ _); refine u_call ?_)
  | ((with_reducible show gN _ _ _ _); refine u_gN rfl rfl ?_)
  | ((with_reducible show gT _ _ _ _); refine u_gT rfl ?_)
  | ((with_reducible show gL _ _ _ _); refine u_gL rfl rfl ?_)
  | ((with_reducible show gTs _ _ _ _); (first | refine u_gTs0 ?_ | refine u_gTs ?_))
  | ((with_reducible show vItL _ _ _); refine u_itL ?_)
  | ((with_reducible show kItL _ _ _); refine k_itL rfl rfl ?_)
  | ((with_reducible show vItT _ _ _); refine u_itT ?_)
  | ((with_reducible show kItT _ _ _); refine k_itT rfl rfl ?_)
  | ((with_reducible show vItR1 _ _ _); refine u_itR1 ?_)
  | ((with_reducible show vItR2 _ _ _); refine u_itR2 ?_)
  | ((with_reducible show vFor _ _ _ _ _); refine u_for ?_)
  | ((with_reducible show vLc _ _ _ _ _ _ _); refine u_lc ?_)
  | ((with_reducible show vLcK _ _ _ _ _ _ _); refine u_lcK rfl ?_)
  | ((with_reducible show vYes _ _); refine u_yes ?_)
  | ((with_reducible show kLcT _ _ _ _ _ _); refine k_lcTT ?_)
  | ((with_reducible show addP _ _); refine p_addI ?_)
  | ((with_reducible show subP _ _); refine p_subI ?_)
  | ((with_reducible show mulP _ _); (first | refine p_mulI (.inl (.inl (by omega))) ?_ | refine p_mulI (.inl (.inr (by omega))) ?_))
  | ((with_reducible show modP _ _); refine p_modI (by omega) ?_)
  | ((with_reducible show divP _ _); refine p_divI (.inl (by constructor <;> omega)) ?_)
  | ((with_reducible show negP _ _); refine p_negI ?_)
  | ((with_reducible show ltP _ _); refine p_ltI ?_)
  | ((with_reducible show leP _ _); refine p_leI ?_)
  | ((with_reducible show gtP _ _); refine p_gtI ?_)
  | ((with_reducible show geP _ _); refine p_geI ?_)
  | ((with_reducible show eqP _ _); (first | refine p_eqI ?_ | refine p_eqS ?_ | refine p_eqB ?_ | refine p_eqN ?_))
  | ((with_reducible show neP _ _); (first | refine p_neI ?_ | refine p_neS ?_ | refine p_neB ?_))
  | ((with_reducible show isNP _ _); (first | refine p_isNn ?_ | refine p_isNi ?_ | refine p_isNs ?_ | refine p_isNb ?_ | refine p_isNl ?_ | refine p_isNt ?_ | refine p_isNd ?_))
  | ((with_reducible show notNP _ _); (first | refine p_notNn ?_ | refine p_notNi ?_ | refine p_notNs ?_ | refine p_notNb ?_ | refine p_notNl ?_ | refine p_notNt ?_ | refine p_notNd ?_))
  | ((with_reducible show isiP _ _); refine p_isi rfl rfl ?_)
  | ((with_reducible show isiTP _ _); refine p_isiT rfl rfl ?_)
  | ((with_reducible show reprP _ _); (first | refine p_reprB ?_ | refine p_reprN ?_))
  | ((with_reducible show lenP _ _); (first | refine p_lenL ?_ | refine p_lenF ?_ | refine p_lenT ?_ | refine p_lenD ?_))
  | ((with_reducible show absP _ _); refine p_absI ?_)
  | ((with_reducible show intP _ _); refine p_intI ?_)
  | ((with_reducible show listP _ _); (first | refine p_listL ?_ | refine p_listF ?_ | refine p_listD ?_))
  | ((with_reducible show ixP _ _); (first | refine p_ixLj 0 rfl rfl ?_ | refine p_ixLj 1 rfl rfl ?_ | refine p_ixLj 2 rfl rfl ?_ | refine p_ixLj 3 rfl rfl ?_ | refine p_ixTj 0 rfl rfl ?_ | refine p_ixTj 1 rfl rfl ?_ | refine p_ixTj 2 rfl rfl ?_ | refine p_ixTj 3 rfl rfl ?_))
  | ((with_reducible show inP _ _ _); (first | refine p_inS0 ?_ | refine p_inS1 ?_ | refine p_inI0 ?_ | refine p_inI1 ?_ | refine p_inD0 rfl ?_ | refine p_inD1 rfl ?_))
  | ((with_reducible show slP _ _ _ _); (first | refine p_slL ?_ | refine p_slF ?_))
  | ((with_reducible show sumP _ _); refine p_sum ?_)
  | ((with_reducible show maxP _ _); refine p_max2 ?_)
  | ((with_reducible show minP _ _); refine p_min2 ?_)
  | ((with_reducible show allP _ _); refine p_all ?_)
  | ((with_reducible show anyP _ _); refine p_any ?_))
local macro_rules | `(tactic| walk_at "s") => `(tactic| first
  | ((with_reducible show vDc _ _ _ _ _ _ _ _); refine u_dc ?_)
  | ((with_reducible show vDcK _ _ _ _ _ _ _ _); refine u_dcK rfl ?_)
  | ((with_reducible show kDcT _ _ _ _ _ _ _); refine k_dcTT ?_)
  | ((with_reducible show kDcK _ _ _ _ _ _); refine k_dcK ?_)
  | ((with_reducible show vDisp1 _ _ _ _); refine u_disp1 ?_)
  | ((with_reducible show kDisp1 _ _ _ _); refine k_disp1 ?_)
  | ((with_reducible show kDisp2 _ _ _ _); refine k_disp2 rfl rfl ?_)
  | ((with_reducible show vShR _ _ _); refine u_shR ?_)
  | ((with_reducible show kShR _ _ _); refine k_shR ?_)
  | ((with_reducible show vPutR _ _ _ _ _); refine u_putR ?_))
local macro_rules | `(tactic| walk_at "ss") => `(tactic| repeat walk_at "s")
local macro_rules | `(tactic| walk_at "back") => `(tactic| refine k_back ?_ (by dsimp only [takeBack, backS, List.set, List.getElem?_cons_zero, List.getElem?_cons_succ]))
def v_rings : VS :=
  vSeq (vSet 2 (vLst (vNil)))
    (vSeq (vFor (vItL (vPrim sortedP (vCons (vPk 1) (vNil)))) (gN 3) (vSeq (vSet 4 (vLst (vCons (vVal (vTup (vCons (vVal (vVar 3)) (vNil)))) (vNil))))
    (vWhile (vT (vBin gtP (vVal (vPrim lenP (vCons (vPk 4) (vNil)))) (vVal (vC (.int 0))))) (vSeq (vSet 5 (vPop 4))
    (vFor (vItL (vGet2 (vPk 0) (vBin ixP (vPk 5) (vVal (vUn negP (vVal (vC (.int 1)))))) (vLst (vNil)))) (gN 6) (vIf (vT (vBin eqP (vPk 6) (vPk 3))) (vIf (vT (vBin (inDP true) (vPk 5) (vPk 2))) (vExpr (vApp 2 (vVar 5))) (vNext)) (vIf (vAnd (vT (vBin (inP false) (vPk 6) (vPk 1))) (vAnd (vT (vBin gtP (vPk 6) (vPk 3))) (vT (vBin (inP true) (vPk 6) (vPk 5))))) (vExpr (vApp 4 (vBin addP (vPk 5) (vVal (vTup (vCons (vVal (vVar 6)) (vNil))))))) (vNext))))))))
    (vRet (vMv 2)))
def tupD (r : List Str) : D := .tup (r.map D.str)
theorem toPy_tup (ss : List Str) : toPy (tupD ss) = some (.tuple (ss.map PyData.str)) := by unfold tupD toPy; rw [toPys_str]; rfl
theorem toPys_tup : ∀ F : List (List Str), toPys (F.map tupD) = some (F.map fun ss => .tuple (ss.map PyData.str))
  | [] => rfl
  | s :: r => by rw [List.map_cons]; unfold toPys; rw [toPys_tup r, toPy_tup]; rfl
theorem lay_tup : ∀ F : List (List Str), (∀ ss ∈ F, ∀ s ∈ ss, PyData.strOk s = true) → PyData.canLayAll0 (F.map fun ss => PyData.tuple (ss.map PyData.str)) = true
  | [], _ => by simp [PyData.canLayAll0]
  | s :: r, h => by simp [PyData.canLayAll0, PyData.canLay0, lay_tup r fun x hx => h x (List.mem_cons_of_mem _ hx), lay_str s (h s (by simp))]
theorem dep_tup : ∀ F : List (List Str), PyData.depthAll (F.map fun ss => PyData.tuple (ss.map PyData.str)) ≤ 1
  | [] => by simp [PyData.depthAll]
  | s :: r => by
    have := dep_tup r
    simp only [List.map_cons, PyData.depthAll, PyData.depth, dep_str]
    omega
theorem any_tup (k : List Str) (F : List (List Str)) : ((F.map fun ss => PyData.tuple (ss.map PyData.str)).any fun z => PyData.eqv z (.tuple (k.map PyData.str))) = decide (k ∈ F) := by
  induction F with
  | nil => rfl
  | cons a r ih =>
    rw [List.map_cons, List.any_cons, ih]
    have : PyData.eqv (.tuple (a.map PyData.str)) (.tuple (k.map PyData.str)) = decide (a = k) := by unfold PyData.eqv; exact eqv_str a k
    rw [this]
    by_cases e : a = k
    · subst e; simp
    · have e2 : k ≠ a := fun z => e z.symm
      simp [e, e2]
theorem p_inTL {b : Bool} {k : List Str} {F : List (List Str)} {R : Ret → Prop} (hk : ∀ s ∈ k, PyData.strOk s = true) (hF : ∀ ss ∈ F, ∀ s ∈ ss, PyData.strOk s = true) (h : R (.val (.bl (ifN b (decide (k ∈ F)))))) : inDP b [tupD k, .lst (F.map tupD)] R :=
  .inr ⟨_, _, _, _, _, rfl, rfl, toPy_tup k, toPys_tup F, shaped_of (by simp only [PyData.canLay0]; exact lay_str k hk) (by simp [PyData.depth, dep_str]), shaped_of (by simp only [PyData.canLay0]; exact lay_tup F hF) (by have := dep_tup F; simp only [PyData.depth]; omega), by rw [any_tup]; exact h⟩
theorem p_inTup {b : Bool} {a : Str} {ss : List Str} {R : Ret → Prop} (h : R (.val (.bl (ifN b (decide (a ∈ ss)))))) : inP b [.str a, .tup (ss.map D.str)] R := ⟨_, _, _, .inr rfl, rfl, flatL_strs ss, by rw [inV_str]; exact h⟩
/-- few names, few waits each -/
structure Few (g : List (Str × List Str)) (I : List Str) : Prop where
  ok : GOk g
  iok : IOk I
  six : I.length ≤ 6
  sev : ∀ n, (getW g n).length ≤ 7
  tx : ∀ x ∈ I, SText x
def S_rings : VSp := fun ρs R _ => ∃ g I, ρs = [.sh (encG g), .sh (sL I)] ∧ Few g I ∧ ∀ F : List (List Str), (∀ r, r ∈ F ↔ ∃ s ∈ I, Ring (getW g) I s r) → F.length ≤ 900000 → R (.ow false (.lst (F.map tupD))) [.sh (encG g), .sh (sL I)]
theorem path_tx {g : List (Str × List Str)} {I r : List Str} {s : Str} (tx : ∀ x ∈ I, SText x) (hs : s ∈ I) (h : Path (getW g) I s r) : ∀ x ∈ r, PyData.strOk x = true := fun x hx => by
  obtain ⟨p, rfl, _, h2, _⟩ := h
  rcases List.mem_cons.mp hx with e | e
  · rw [e]; exact (tx s hs).ok
  · exact (tx x (h2 x e).1).ok
theorem row_last {rows : List (List Str)} (h : 0 < rows.length) : ∃ r, rows[rows.length - 1]? = some r := ⟨rows[rows.length - 1], List.getElem?_eq_getElem (by omega)⟩
theorem rd_rings : Reads S_rings (fun _ => v_rings) 5 := fun ρs R _ h => by
  obtain ⟨g, I, rfl, few, q⟩ := h
  have ok := few.ok
  have hI := few.six
  have hB : fB 6 = 137257 := by decide
  unfold v_rings
  show vSeq _ _ _ [.sh (encG g), .sh (sL I), .un, .un, .un, .un, .un]
  walk_at "ss"
  refine p_sortS' (by omega) ?_
  walk_at "ss"
  refine k_for (fun j ρ => ∃ (F : List (List Str)) (n3 n4 n5 n6 : Slot), ρ = [.sh (encG g), .sh (sL I), .ow false (.lst (F.map tupD)), n3, n4, n5, n6] ∧ n3.free = true ∧ n4.free = true ∧ n5.free = true ∧ n6.free = true ∧ (∀ r, r ∈ F ↔ ∃ s ∈ (sortS I).take j, Ring (getW g) I s r) ∧ F.length ≤ j * 137257)
    ⟨[], .un, .un, .un, .un, rfl, rfl, rfl, rfl, rfl, fun r => by simp, by simp⟩ ?_ ?_
  · rintro j d ρ' hj ⟨F, n3, n4, n5, n6, rfl, f3, f4, f5, f6, hF, hFl⟩
    rw [List.getElem?_map] at hj
    obtain ⟨s, hs, ed⟩ := Option.map_eq_some_iff.mp hj
    subst ed
    have hjl : j < 6 := by
      have h1 := (List.getElem?_eq_some_iff.mp hs).1
      rw [(sortS_perm I).length_eq] at h1
      omega
    have hsI : s ∈ I := mem_sortS.mp (List.mem_of_getElem? hs)
    have preI : ∀ x ∈ (sortS I).take j, x ∈ I := fun x hx => mem_sortS.mp (List.mem_of_mem_take hx)
    refine u_gN rfl f3 ?_
    walk_at "ss"
    refine k_set rfl f4 ?_
    walk_at "ss"
    refine u_while1 (fun m ρ => ∃ (found rows : List (List Str)) (m5 m6 : Slot), ρ = [.sh (encG g), .sh (sL I), .ow false (.lst (found.map tupD)), .sh (.str s), .ow false (.lst (rows.map tupD)), m5, m6] ∧ m5.free = true ∧ m6.free = true ∧ SI (getW g) I ((sortS I).take j) s found rows ∧ m = wsum rows ∧ found.length + wsum rows ≤ (j + 1) * 137257) _
      ⟨F, [[s]], n5, n6, rfl, f5, f6, ⟨fun r hr => .inl ((hF r).mp hr), fun s' hs' r hr => (hF r).mpr ⟨s', hs', hr⟩, fun r hr => .inr ⟨[s], by simp, by obtain ⟨p, e⟩ := hr.head; exact ⟨p, by rw [e]; rfl⟩⟩, fun row hrow => by rw [List.mem_singleton.mp hrow]; exact ⟨[], rfl, trivial, by simp, .nil⟩⟩, rfl, by rw [wsum_one]; simp only [List.length_singleton]; have e : fB (7 - 1) = 137257 := hB; omega⟩ ?_
    rintro m ρ' ⟨found, rows, m5, m6, rfl, g5, g6, si, rfl, hle⟩
    have hwl := wsum_len rows
    have hjm : (j + 1) * 137257 ≤ 6 * 137257 := Nat.mul_le_mul_right _ (by omega)
    walk_at "ss"
    rw [List.length_map]
    refine k_while (fun hb => ?_) (fun hb => ?_)
    · have hb' : 0 < rows.length := by have := of_decide_eq_true hb; omega
      obtain ⟨row, hrow⟩ := row_last hb'
      have hrm : row ∈ rows := List.mem_of_getElem? hrow
      obtain ⟨p, ep, _⟩ := si.path row hrm
      subst ep
      walk_at "ss"
      refine u_pop (d := tupD (s :: p)) rfl (by rw [List.getElem?_map, List.length_map, hrow]; rfl) ?_
      have edl : (rows.map tupD).dropLast = rows.dropLast.map tupD := List.map_dropLast.symm
      rw [edl]
      refine k_set rfl g5 ?_
      walk_at "ss"
      obtain ⟨pre, epre⟩ := last_split s p
      refine p_ixT (d := .str (lastOf s p)) (by rw [epre, List.map_append]; exact L2.atI_last _ _) ?_
      walk_at "ss"
      refine k_getW rfl fun sg hsg => ?_
      refine k_itL hsg rfl ?_
      have sj := si.pop hrow
      have hlen := sj.here.len hsI
      have hw7 := few.sev (lastOf s p)
      have hsum : wsum rows = wsum rows.dropLast + fB (7 - (s :: p).length) := by
        have hne : rows ≠ [] := List.length_pos_iff.mp hb'
        have h2 := List.dropLast_concat_getLast hne
        have e : rows.getLast hne = s :: p := by
          have := List.getLast?_eq_getElem? (l := rows)
          rw [hrow, List.getLast?_eq_some_getLast hne] at this
          exact Option.some.inj this
        rw [e] at h2
        conv => lhs; rw [← h2]
        rw [wsum_app, wsum_one]
      have hfb : fB (7 - (s :: p).length) = 1 + 7 * fB (6 - (s :: p).length) := by
        have : 7 - (s :: p).length = (6 - (s :: p).length) + 1 := by omega
        rw [this]; rfl
      refine k_for (fun j2 ρ => ∃ (fo rs : List (List Str)) (m6 : Slot), ρ = [.sh (encG g), .sh (sL I), .ow false (.lst (fo.map tupD)), .sh (.str s), .ow false (.lst (rs.map tupD)), .sh (tupD (s :: p)), m6] ∧ m6.free = true ∧ SJ (getW g) I ((sortS I).take j) s p ((getW g (lastOf s p)).drop j2) fo rs ∧ (fo.length ≤ found.length ∨ (s :: p ∈ fo ∧ fo.length ≤ found.length + 1)) ∧ wsum rs ≤ wsum rows.dropLast + j2 * fB (6 - (s :: p).length))
        ⟨found, rows.dropLast, m6, rfl, g6, by rw [List.drop_zero]; exact sj, .inl (Nat.le_refl _), by omega⟩ ?_ ?_
      · rintro j2 d ρ' hj2 ⟨fo, rs, m6, rfl, g6, sj, hfo, hws⟩
        rw [List.getElem?_map] at hj2
        obtain ⟨y, hy, ed⟩ := Option.map_eq_some_iff.mp hj2
        subst ed
        have hyW : y ∈ getW g (lastOf s p) := List.mem_of_getElem? hy
        have hj2l : j2 < 7 := by have := (List.getElem?_eq_some_iff.mp hy).1; omega
        have hdrop : (getW g (lastOf s p)).drop j2 = y :: (getW g (lastOf s p)).drop (j2 + 1) := by
          obtain ⟨hl, e⟩ := List.getElem?_eq_some_iff.mp hy
          rw [List.drop_eq_getElem_cons hl, e]
        rw [hdrop] at sj
        have hfol : fo.length ≤ found.length + 1 := hfo.elim (fun z => by omega) (fun z => z.2)
        have hwm : j2 * fB (6 - (s :: p).length) ≤ 6 * fB (6 - (s :: p).length) := Nat.mul_le_mul_right _ (by omega)
        have hwm2 : (j2 + 1) * fB (6 - (s :: p).length) = j2 * fB (6 - (s :: p).length) + fB (6 - (s :: p).length) := by rw [Nat.add_mul, Nat.one_mul]
        refine u_gN rfl g6 ?_
        walk_at "ss"
        refine k_ifD (fun hys => ?_) (fun hys => ?_)
        · subst hys
          walk_at "ss"
          refine p_inTL (k := y :: p) (path_tx few.tx hsI sj.here) (fun ss hss => ?_) ?_
          · rcases sj.sound ss hss with ⟨s', hs', hr⟩ | hr
            · exact path_tx few.tx (preI s' hs') hr.path
            · exact path_tx few.tx hsI hr.path
          walk_at "ss"
          refine k_ifN (fun hno => ?_) (fun hyes => ?_)
          · walk_at "ss"
            refine k_app rfl rfl (small16 (by rw [List.length_map]; omega)) ?_
            walk_at "ss"
            refine ⟨fo ++ [y :: p], rs, .sh (.str y), by rw [List.map_append]; rfl, rfl, (sj.add hyW).hit (by simp), .inr ⟨by simp, ?_⟩, by omega⟩
            rcases hfo with z | z
            · rw [List.length_append, List.length_singleton]; omega
            · exact absurd z.1 hno
          · walk_at "ss"
            exact ⟨fo, rs, .sh (.str y), rfl, rfl, sj.hit hyes, hfo, by omega⟩
        · walk_at "ss"
          have skip : ¬ (Above I s y ∧ y ∉ s :: p) → ∃ (fo' rs' : List (List Str)) (m6 : Slot), [Slot.sh (encG g), .sh (sL I), .ow false (.lst (fo.map tupD)), .sh (.str s), .ow false (.lst (rs.map tupD)), .sh (tupD (s :: p)), .sh (.str y)] = [.sh (encG g), .sh (sL I), .ow false (.lst (fo'.map tupD)), .sh (.str s), .ow false (.lst (rs'.map tupD)), .sh (tupD (s :: p)), m6] ∧ m6.free = true ∧ SJ (getW g) I ((sortS I).take j) s p ((getW g (lastOf s p)).drop (j2 + 1)) fo' rs' ∧ (fo'.length ≤ found.length ∨ (s :: p ∈ fo' ∧ fo'.length ≤ found.length + 1)) ∧ wsum rs' ≤ wsum rows.dropLast + (j2 + 1) * fB (6 - (s :: p).length) :=
            fun z => ⟨fo, rs, .sh (.str y), rfl, rfl, sj.skip hys z, hfo, by omega⟩
          refine k_and (fun h1 => ?_) (fun h1 => ?_)
          · walk_at "ss"
            refine p_gtS ?_
            walk_at "ss"
            refine k_and (fun h2 => ?_) (fun h2 => ?_)
            · walk_at "ss"
              refine p_inTup (ss := s :: p) ?_
              walk_at "ss"
              refine k_ifN (fun h3 => ?_) (fun h3 => ?_)
              · have ha : Above I s y := ⟨of_decide_eq_true h1, of_decide_eq_true h2⟩
                have g1 : s :: p ++ [y] = s :: (p ++ [y]) := rfl
                have sj2 := sj.push hys hyW ha h3
                have hpl := (sj.here.snoc hyW ha h3).len hsI
                simp only [List.length_cons, List.length_append, List.length_nil] at hpl hlen hws hwm hwm2 hsum hfb
                have hfin : ∃ (fo' rs' : List (List Str)) (m6 : Slot), [Slot.sh (encG g), .sh (sL I), .ow false (.lst (fo.map tupD)), .sh (.str s), .ow false (.lst (rs.map tupD ++ [.tup ((s :: p).map D.str ++ [D.str y])])), .sh (tupD (s :: p)), .sh (.str y)] = [.sh (encG g), .sh (sL I), .ow false (.lst (fo'.map tupD)), .sh (.str s), .ow false (.lst (rs'.map tupD)), .sh (tupD (s :: p)), m6] ∧ m6.free = true ∧ SJ (getW g) I ((sortS I).take j) s p ((getW g (lastOf s p)).drop (j2 + 1)) fo' rs' ∧ (fo'.length ≤ found.length ∨ (s :: p ∈ fo' ∧ fo'.length ≤ found.length + 1)) ∧ wsum rs' ≤ wsum rows.dropLast + (j2 + 1) * fB (6 - (s :: p).length) := by
                  refine ⟨fo, rs ++ [s :: (p ++ [y])], .sh (.str y), ?_, rfl, sj2, hfo, ?_⟩
                  · rw [List.map_append]
                    unfold tupD
                    simp
                  · rw [wsum_app, wsum_one]
                    simp only [List.length_cons, List.length_append, List.length_nil]
                    have e7 : 7 - (p.length + (0 + 1) + 1) = 6 - (p.length + 1) := by omega
                    rw [e7]
                    omega
                have hrl : rs.length ≤ wsum rs := wsum_len rs
                walk_at "ss"
                refine p_addT (small16' (by simp; omega)) ?_ ?_
                · walk_at "ss"
                  refine k_app rfl rfl (small16 (by rw [List.length_map]; omega)) ?_
                  walk_at "ss"
                  exact hfin
                · walk_at "ss"
                  refine k_app rfl rfl (small16 (by rw [List.length_map]; omega)) ?_
                  walk_at "ss"
                  exact hfin
              · walk_at "ss"
                exact skip fun z => z.2 h3
            · walk_at "ss"
              exact skip fun z => of_decide_eq_false h2 z.1.2
          · walk_at "ss"
            exact skip fun z => of_decide_eq_false h1 z.1.1
      · rintro ρ' ⟨fo, rs, m6, rfl, g6, sj, hfo, hws⟩
        rw [List.length_map] at sj hws
        rw [List.drop_length] at sj
        have hmul : (getW g (lastOf s p)).length * fB (6 - (s :: p).length) ≤ 7 * fB (6 - (s :: p).length) := Nat.mul_le_mul_right _ hw7
        have hfol : fo.length ≤ found.length + 1 := hfo.elim (fun z => by omega) (fun z => z.2)
        exact ⟨_, by omega, fo, rs, _, m6, rfl, rfl, g6, sj.done, rfl, by omega⟩
    · have hb' : rows = [] := by
        have := of_decide_eq_false hb
        exact List.length_eq_zero_iff.mp (by omega)
      subst hb'
      walk_at "ss"
      refine ⟨found, .sh (.str s), _, m5, m6, rfl, rfl, rfl, g5, g6, fun r => ?_, by omega⟩
      rw [take_snoc hs]
      constructor
      · intro hr
        rcases si.sound r hr with ⟨s', hs', hr'⟩ | hr'
        · exact ⟨s', List.mem_append_left _ hs', hr'⟩
        · exact ⟨s, by simp, hr'⟩
      · rintro ⟨s', hs', hr'⟩
        rcases List.mem_append.mp hs' with z | z
        · exact si.old s' z r hr'
        · rw [List.mem_singleton.mp z] at hr'
          rcases si.all r hr' with z | ⟨_, z, _⟩
          · exact z
          · cases z
  · rintro ρ' ⟨F, n3, n4, n5, n6, rfl, f3, f4, f5, f6, hF, hFl⟩
    rw [List.length_map, List.take_length] at hF
    rw [List.length_map, (sortS_perm I).length_eq] at hFl
    have hjm : I.length * 137257 ≤ 6 * 137257 := Nat.mul_le_mul_right _ (by omega)
    walk_at "ss"
    refine q F (fun r => ?_) (by omega)
    rw [hF]
    exact ⟨fun ⟨s, a, b⟩ => ⟨s, mem_sortS.mp a, b⟩, fun ⟨s, a, b⟩ => ⟨s, mem_sortS.mpr a, b⟩⟩
end WL

set_option Elab.async false
set_option linter.all false
set_option maxRecDepth 100000
set_option maxHeartbeats 4000000
namespace WL
open PySem PySem.Spec PyProof.Rows L2
local macro_rules | `(tactic| walk_at "s") => `(tactic| first
  | ((with_reducible show vSeq _ _ _ _); refine u_seq ?_)
  | ((with_reducible show vSet _ _ _ _); refine u_set ?_)
  | ((with_reducible show kSet _ _ _ _); refine k_set rfl rfl ?_)
  | ((with_reducible show vRet _ _ _); refine u_ret ?_)
  | ((with_reducible show vIf _ _ _ _ _); refine u_if ?_)
  | ((with_reducible show vExpr _ _ _); refine u_expr ?_)
  | ((with_reducible show kExpr _ _ _); refine k_expr ?_)
  | ((with_reducible show vRetN _ _); refine u_retN ?_)
  | ((with_reducible show vAsg _ _ _ _); refine u_asg ?_)
  | ((with_reducible show kAsg _ _ _ _); refine k_asg rfl ?_)
  | ((with_reducible show vNext _ _); refine u_next ?_)
  | ((with_reducible show vBreak _ _); refine u_break ?_)
  | ((with_reducible show vCont _ _); refine u_cont ?_)
  | ((with_reducible show kIf _ _ _ _ _); (first | refine k_ifT ?_ | refine k_ifF ?_))
  | ((with_reducible show vVal _ _ _); refine u_val ?_)
  | ((with_reducible show kVal _ _ _); refine k_val ?_)
  | ((with_reducible show vPk _ _ _); refine u_pk rfl rfl ?_)
  | ((with_reducible show vC _ _ _); refine u_c ?_)
  | ((with_reducible show vVar _ _ _); (first | refine u_var rfl ?_ | refine u_varL rfl ?_ | refine u_varD rfl ?_ | refine u_varE rfl ?_))
  | ((with_reducible show vMv _ _ _); (first | refine u_mv rfl ?_ | refine u_mvO rfl ?_))
  | ((with_reducible show vBin _ _ _ _ _); refine u_bin ?_)
  | ((with_reducible show kBin1 _ _ _ _ _); refine k_bin1 ?_)
  | ((with_reducible show kBin2 _ _ _ _ _); refine k_bin2 rfl rfl ?_)
  | ((with_reducible show vUn _ _ _ _); refine u_un ?_)
  | ((with_reducible show kUn _ _ _ _); refine k_un rfl ?_)
  | ((with_reducible show vCons _ _ _ _); refine u_cons ?_)
  | ((with_reducible show kCons1 _ _ _ _); refine k_cons1 ?_)
  | ((with_reducible show vNil _ _); refine u_nil ?_)
  | ((with_reducible show kCons2 _ _ _ _); refine k_cons2 ?_)
  | ((with_reducible show vPrim _ _ _ _); refine u_prim ?_)
  | ((with_reducible show kPrim _ _ _ _); (first | refine k_prim1 rfl ?_ | refine k_prim2 rfl rfl ?_))
  | ((with_reducible show kRet _ _ _); (first | refine k_retV ?_ | refine k_retL ?_ | refine k_retT ?_ | refine k_retD ?_))
  | ((with_reducible show vSh _ _ _); refine u_sh ?_)
  | ((with_reducible show kSh _ _ _); (first | refine k_sh ?_ | refine k_shL ?_ | refine k_shD ?_))
  | ((with_reducible show vT _ _ _); refine u_t ?_)
  | ((with_reducible show kT _ _ _); refine k_t ?_)
  | ((with_reducible show vTru _ _ _); refine u_tru ?_)
  | ((with_reducible show kTru _ _ _); refine k_tru rfl rfl ?_)
  | ((with_reducible show vAnd _ _ _ _); refine u_and ?_)
  | ((with_reducible show kAnd _ _ _ _); (first | refine k_andT ?_ | refine k_andF ?_))
  | ((with_reducible show vOr _ _ _ _); refine u_or ?_)
  | ((with_reducible show kOr _ _ _ _); (first | refine k_orT ?_ | refine k_orF ?_))
  | ((with_reducible show vNot _ _ _); refine u_not ?_)
  | ((with_reducible show kNot _ _ _); refine k_not ?_)
  | ((with_reducible show vAndV _ _ _ _); refine u_andV ?_)
  | ((with_reducible show kAndV _ _ _ _); (first | refine k_andVT ?_ | refine k_andVF ?_))
  | ((with_reducible show kOrV _ _ _ _); (first | refine k_orVT ?_ | refine k_orVF ?_))
  | ((with_reducible show vOrV _ _ _ _); refine u_orV ?_)
  | ((with_reducible show vNotV _ _ _); refine u_notV ?_)
  | ((with_reducible show kNotV _ _ _); refine k_notV ?_)
  | ((with_reducible show vIfE _ _ _ _ _); refine u_ifE ?_)
  | ((with_reducible show kIfE _ _ _ _ _); (first | refine k_ifET ?_ | refine k_ifEF ?_))
  | ((with_reducible show vLst _ _ _); refine u_lst ?_)
  | ((with_reducible show kLst _ _ _); refine k_lst rfl (by simp only [List.length_cons, List.length_nil]; decide) ?_)
  | ((with_reducible show vTup _ _ _); refine u_tup ?_)
  | ((with_reducible show kTup _ _ _); refine k_tup rfl (by simp only [List.length_cons, List.length_nil]; decide) ?_)
  | ((with_reducible show vNewD _ _); refine u_newD ?_)
  | ((with_reducible show vSl _ _ _ _ _); refine u_sl ?_)
  | ((with_reducible show kSl0 _ _ _ _ _); refine k_sl0 ?_)
  | ((with_reducible show kSl1 _ _ _ _ _); refine k_sl1 ?_)
  | ((with_reducible show kSl2 _ _ _ _ _); refine k_sl2 rfl ?_)
  | ((with_reducible show vNoPart _ _); refine u_noPart ?_)
  | ((with_reducible show vPart _ _ _); refine u_part ?_)
  | ((with_reducible show kPart _ _ _); refine k_part ?_)
  | ((with_reducible show vApp _ _ _ _); refine u_app rfl ?_)
  | ((with_reducible show vPopAt _ _ _ _); refine u_popAt rfl ?_)
  | ((with_reducible show vExt _ _ _ _); refine u_ext rfl ?_)
  | ((with_reducible show vM1 _ _ _ _ _); refine u_m1 ?_)
  | ((with_reducible show kM1a _ _ _ _ _); refine k_m1a rfl ?_)
  | ((with_reducible show kM1b _ _ _ _ _); refine k_m1b rfl rfl ?_)
  | ((with_reducible show vGet2 _ _ _ _ _); refine u_get2 ?_)
  | ((with_reducible show kGet1 _ _ _ _ _); refine k_get1 rfl ?_)
  | ((with_reducible show kGet2 _ _ _ _ _); refine k_get2 ?_)
  | ((with_reducible show vSetL _ _ _ _ _); refine u_setL ?_)
  | ((with_reducible show kSetL1 _ _ _ _ _); refine k_setL1 rfl ?_)
  | ((with_reducible show kSetL2 _ _ _ _ _); (first | refine k_setL2j 0 rfl rfl (by simp) rfl ?_ | refine k_setL2j 1 rfl rfl (by simp) rfl ?_ | refine k_setL2j 2 rfl rfl (by simp) rfl ?_))
  | ((with_reducible show vPutD _ _ _ _ _); refine u_putD ?_)
  | ((with_reducible show kPutD1 _ _ _ _ _); refine k_putD1 rfl ?_)
  | ((with_reducible show vAugL _ _ _ _ _ _); refine u_augL rfl ?_)
  | ((with_reducible show kAugL1 _ _ _ _ _ _); (first | refine k_augL1j 0 rfl rfl rfl ?_ | refine k_augL1j 1 rfl rfl rfl ?_ | refine k_augL1j 2 rfl rfl rfl ?_))
  | ((with_reducible show kAugL2 _ _ _ _ _ _ _); refine k_augL2j rfl (by simp) ?_)
  | ((with_reducible show vAug _ _ _ _ _); refine u_aug rfl ?_)
  | ((with_reducible show kAug _ _ _ _ _ _); (first | refine k_augAdd rfl ?_ | refine k_augSub rfl ?_))
  | ((with_reducible show vCall _ _ _ _); refine u_call ?_)
  | ((with_reducible show gN _ _ _ _); refine u_gN rfl rfl ?_)
  | ((with_reducible show gT _ _ _ _); refine u_gT rfl ?_)
  | ((with_reducible show gL _ _ _ _); refine u_gL rfl rfl ?_)
  | ((with_reducible show gTs _ _ _ _); (first | refine u_gTs0 ?_ | refine u_gTs ?_))
  | ((with_reducible show vItL _ _ _); refine u_itL ?_)
  | ((with_reducible show kItL _ _ _); refine k_itL rfl rfl ?_)
  | ((with_reducible show vItT _ _ _); refine u_itT ?_)
  | ((with_reducible show kItT _ _ _); refine k_itT rfl rfl ?_)
  | ((with_reducible show vItR1 _ _ _); refine u_itR1 ?_)
  | ((with_reducible show vItR2 _ _ _); refine u_itR2 ?_)
  | ((with_reducible show vFor _ _ _ _ _); refine u_for ?_)
  | ((with_reducible show vLc _ _ _ _ _ _ _); refine u_lc ?_)
  | ((with_reducible show vLcK _ _ _ _ _ _ _); refine u_lcK rfl ?_)
  | ((with_reducible show vYes _ _); refine u_yes ?_)
  | ((with_reducible show kLcT _ _ _ _ _ _); refine k_lcTT ?_)
  | ((with_reducible show addP _ _); refine p_addI ?_)
  | ((with_reducible show subP _ _); refine p_subI ?_)
  | ((with_reducible show mulP _ _); (first | refine p_mulI (.inl (.inl (by omega))) ?_ | refine p_mulI (.inl (.inr (by omega))) ?_))
  | ((with_reducible show modP _ _); refine p_modI (by omega) ?_)
  | ((with_reducible show divP _ _); refine p_divI (.inl (by constructor <;> omega)) ?_)
  | ((with_reducible show negP _ _); refine p_negI ?_)
  | ((with_reducible show ltP _ _); refine p_ltI ?_)
  | ((with_reducible show leP _ _); refine p_leI ?_)
  | ((with_reducible show gtP _ _); refine p_gtI ?_)
  | ((with_reducible show geP _ _); refine p_geI ?_)
  | ((with_reducible show eqP _ _); (first | refine p_eqI ?_ | refine p_eqS ?_ | refine p_eqB ?_ | refine p_eqN ?_))
  | ((with_reducible show neP _ _); (first | refine p_neI ?_ | refine p_neS ?_ | refine p_neB ?_))
  | ((with_reducible show isNP _ _); (first | refine p_isNn ?_ | refine p_isNi ?_ | refine p_isNs ?_ | refine p_isNb ?_ | refine p_isNl ?_ | refine p_isNt ?_ | refine p_isNd ?_))
  | ((with_reducible show notNP _ _); (first | refine p_notNn ?_ | refine p_notNi ?_ | refine p_notNs ?_ | refine p_notNb ?_ | refine p_notNl ?_ | refine p_notNt ?_ | refine p_notNd ?_))
  | ((with_reducible show isiP _ _); refine p_isi rfl rfl ?_)
  | ((with_reducible show isiTP _ _); refine p_isiT rfl rfl ?_)
  | ((with_reducible show reprP _ _); (first | refine p_reprB ?_ | refine p_reprN ?_))
  | ((with_reducible show lenP _ _); (first | refine p_lenL ?_ | refine p_lenF ?_ | refine p_lenT ?_ | refine p_lenD ?_))
  | ((with_reducible show absP _ _); refine p_absI ?_)
  | ((with_reducible show intP _ _); refine p_intI ?_)
  | ((with_reducible show listP _ _); (first | refine p_listL ?_ | refine p_listF ?_ | refine p_listD ?_))
  | ((with_reducible show ixP _ _); (first | refine p_ixLj 0 rfl rfl ?_ | refine p_ixLj 1 rfl rfl ?_ | refine p_ixLj 2 rfl rfl ?_ | refine p_ixLj 3 rfl rfl ?_ | refine p_ixTj 0 rfl rfl ?_ | refine p_ixTj 1 rfl rfl ?_ | refine p_ixTj 2 rfl rfl ?_ | refine p_ixTj 3 rfl rfl ?_))
  | ((with_reducible show inP _ _ _); (first | refine p_inS0 ?_ | refine p_inS1 ?_ | refine p_inI0 ?_ | refine p_inI1 ?_ | refine p_inD0 rfl ?_ | refine p_inD1 rfl ?_))
  | ((with_reducible show slP _ _ _ _); (first | refine p_slL ?_ | refine p_slF ?_))
  | ((with_reducible show sumP _ _); refine p_sum ?_)
  | ((with_reducible show maxP _ _); refine p_max2 ?_)
  | ((with_reducible show minP _ _); refine p_min2 ?_)
  | ((with_reducible show allP _ _); refine p_all ?_)
  | ((with_reducible show anyP _ _); refine p_any ?_))
local macro_rules | `(tactic| walk_at "s") => `(tactic| first
  | ((with_reducible show vDc _ _ _ _ _ _ _ _); refine u_dc ?_)
  | ((with_reducible show vDcK _ _ _ _ _ _ _ _); refine u_dcK rfl ?_)
  | ((with_reducible show kDcT _ _ _ _ _ _ _); refine k_dcTT ?_)
  | ((with_reducible show kDcK _ _ _ _ _ _); refine k_dcK ?_)
  | ((with_reducible show vDisp1 _ _ _ _); refine u_disp1 ?_)
  | ((with_reducible show kDisp1 _ _ _ _); refine k_disp1 ?_)
  | ((with_reducible show kDisp2 _ _ _ _); refine k_disp2 rfl rfl ?_)
  | ((with_reducible show vShR _ _ _); refine u_shR ?_)
  | ((with_reducible show kShR _ _ _); refine k_shR ?_)
  | ((with_reducible show vPutR _ _ _ _ _); refine u_putR ?_))
local macro_rules | `(tactic| walk_at "ss") => `(tactic| repeat walk_at "s")
local macro_rules | `(tactic| walk_at "back") => `(tactic| refine k_back ?_ (by dsimp only [takeBack, backS, List.set, List.getElem?_cons_zero, List.getElem?_cons_succ]))
def v_lleast_ring : VS :=
  vSeq (vSet 2 (vLc (vItL (vCall S_rings (vCons (vVal (vVar 0)) (vCons (vVal (vVar 1)) (vNil))))) (gN 3) (vYes) (vTup (vCons (vVal (vPrim lenP (vCons (vPk 3) (vNil)))) (vCons (vVal (vVar 3)) (vNil)))) [3]))
    (vRet (vIfE (vT (vBin gtP (vVal (vPrim lenP (vCons (vPk 2) (vNil)))) (vVal (vC (.int 0))))) (vBin ixP (vVal (vPrim minDP (vCons (vPk 2) (vNil)))) (vVal (vC (.int 1)))) (vC .non)))
/-! ### min of the rings -/
theorem llt_trans : ∀ {a b c : List Str}, llt a b → llt b c → llt a c
  | [], [], _, h, _ => h.elim
  | [], _ :: _, [], _, h => h.elim
  | [], _ :: _, _ :: _, _, _ => trivial
  | _ :: _, [], _, h, _ => h.elim
  | _ :: _, _ :: _, [], _, h => h.elim
  | x :: a, y :: b, z :: c, h, h2 => by
    rcases h with ⟨e, h⟩ | h
    · subst e
      rcases h2 with ⟨e, h2⟩ | h2
      · exact .inl ⟨e, llt_trans h h2⟩
      · exact .inr h2
    · rcases h2 with ⟨e, h2⟩ | h2
      · subst e; exact .inr h
      · exact .inr (slt_trans h h2)
theorem rlt_irrefl (a : List Str) : ¬ rlt a a := fun h => h.elim (fun z => by omega) fun z => llt_irrefl a z.2
theorem rlt_trans (a b c : List Str) (h : rlt a b) (h2 : rlt b c) : rlt a c := by
  rcases h with h | h
  · rcases h2 with h2 | h2
    · exact .inl (by omega)
    · exact .inl (by omega)
  · rcases h2 with h2 | h2
    · exact .inl (by omega)
    · exact .inr ⟨by omega, llt_trans h.2 h2.2⟩
theorem rlt_tri (a b : List Str) : a = b ∨ rlt a b ∨ rlt b a := by
  by_cases h : rlt a b
  · exact .inr (.inl h)
  · by_cases h2 : rlt b a
    · exact .inr (.inr h2)
    · exact .inl (rlt_anti h h2)
theorem listLt_iff : ∀ {a b : List Str}, PySem.W.listLt a b = true ↔ llt a b
  | [], [] => by simp [PySem.W.listLt, llt]
  | [], _ :: _ => by simp [PySem.W.listLt, llt]
  | _ :: _, [] => by simp [PySem.W.listLt, llt]
  | x :: a, y :: b => by
    unfold PySem.W.listLt llt
    by_cases e : x = y
    · subst e
      rw [if_pos rfl, listLt_iff]
      exact ⟨fun h => .inl ⟨rfl, h⟩, fun h => h.elim (fun z => z.2) fun z => absurd z (slt_irrefl _)⟩
    · rw [if_neg e]
      have : PySem.W.DatumOrd.lt x y = decide (x.cps.toList < y.cps.toList) := rfl
      rw [this, decide_eq_true_eq]
      exact ⟨fun h => .inr h, fun h => h.elim (fun z => absurd z.1 e) id⟩
def encR (r : List Str) : PyData := .tuple [.int r.length, .tuple (r.map PyData.str)]
def pairD (r : List Str) : D := .tup [.int r.length, tupD r]
theorem encR_lt (a b : List Str) : PySem.W.dataLt (encR a) (encR b) = true ↔ rlt a b := by
  have h := PySem.W.DatumOrd.lt_eq ((a.length : Int), (⟨a⟩ : PySem.W.Tup Str)) ((b.length : Int), (⟨b⟩ : PySem.W.Tup Str))
  have e1 : PySem.W.Datum.toD ((a.length : Int), (⟨a⟩ : PySem.W.Tup Str)) = encR a := rfl
  have e2 : PySem.W.Datum.toD ((b.length : Int), (⟨b⟩ : PySem.W.Tup Str)) = encR b := rfl
  rw [e1, e2] at h
  rw [h]
  show (if ((a.length : Int) = (b.length : Int)) then PySem.W.listLt a b else decide ((a.length : Int) < (b.length : Int))) = true ↔ _
  unfold rlt
  by_cases e : a.length = b.length
  · rw [if_pos (by omega), listLt_iff]
    exact ⟨fun z => .inr ⟨e, z⟩, fun z => z.elim (fun w => by omega) fun w => w.2⟩
  · rw [if_neg (by omega), decide_eq_true_eq]
    exact ⟨fun z => .inl (by omega), fun z => z.elim (fun w => by omega) fun w => absurd w.1 e⟩
theorem toPys_two {a b : D} {p q : PyData} (h1 : toPy a = some p) (h2 : toPy b = some q) : toPys [a, b] = some [p, q] := by simp only [toPys, h1, h2]
theorem toPy_pair (r : List Str) : toPy (pairD r) = some (encR r) := by
  have e : toPy (pairD r) = (toPys [D.int r.length, tupD r]).map .tuple := by unfold pairD; rw [toPy]
  rw [e, toPys_two (p := .int r.length) (by rw [toPy]) (toPy_tup r)]
  rfl
theorem toPys_pair : ∀ F : List (List Str), toPys (F.map pairD) = some (F.map encR)
  | [] => rfl
  | s :: r => by rw [List.map_cons]; unfold toPys; rw [toPys_pair r, toPy_pair]; rfl
theorem dep_encR : ∀ F : List (List Str), PyData.depthAll (F.map encR) ≤ 3
  | [] => by simp [PyData.depthAll]
  | s :: r => by
    have := dep_encR r
    simp only [List.map_cons, PyData.depthAll, encR, PyData.depth, dep_str] at this ⊢
    omega
theorem alike_encR (F : List (List Str)) : PySem.W.AlikeAll (F.map encR) := by
  refine ⟨fun a ha b hb => ?_, fun a ha e => ?_⟩
  · obtain ⟨x, _, rfl⟩ := List.mem_map.mp ha
    obtain ⟨y, _, rfl⟩ := List.mem_map.mp hb
    exact PySem.W.DatumOrd.alike ((x.length : Int), (⟨x⟩ : PySem.W.Tup Str)) ((y.length : Int), (⟨y⟩ : PySem.W.Tup Str))
  · obtain ⟨x, _, rfl⟩ := List.mem_map.mp ha
    cases e
theorem p_minR {F : List (List Str)} {R : Ret → Prop} (hs : F ≠ []) (h : ∀ m ∈ F, (∀ y ∈ F, ¬ rlt y m) → R (.val (pairD m))) : minDP [.lst (F.map pairD)] R := by
  cases F with
  | nil => exact absurd rfl hs
  | cons x xs =>
    obtain ⟨m, h1, h2, h3⟩ := minD_enc encR rlt encR_lt rlt_irrefl rlt_trans rlt_tri xs x
    refine .inr ⟨_, _, encR x, xs.map encR, rfl, rfl, toPys_pair (x :: xs), alike_encR (x :: xs), Nat.le_trans (dep_encR (x :: xs)) (by omega), fun j e he hj => ?_⟩
    rw [h2] at hj
    rw [List.getElem?_map] at he
    obtain ⟨y, hy, ey⟩ := Option.map_eq_some_iff.mp he
    subst ey
    have : (encR x :: xs.map encR).getD j .none = encR y := by
      rw [show (encR x :: xs.map encR) = (x :: xs).map encR from rfl, List.getD_eq_getElem?_getD, List.getElem?_map, hy]; rfl
    rw [this] at hj
    have ym : y ∈ x :: xs := List.mem_of_getElem? hy
    refine h y ym fun z hz w => ?_
    -- y and m are alike, so y is least
    have e1 : ¬ rlt y m := h3 y ym
    have e2 : ¬ rlt m y := fun w => by
      have := (encR_lt m y).mpr w
      rw [hj] at this
      exact rlt_irrefl m ((encR_lt m m).mp this)
    rw [rlt_anti e1 e2] at w
    exact h3 z hz w
def S_lleast_ring : VSp := fun ρs R _ => ∃ g I, ρs = [.sh (encG g), .sh (sL I)] ∧ Few g I ∧ ∀ o, Best (getW g) I I o → R (.sh (encO o)) [.sh (encG g), .sh (sL I)]
theorem rd_lleast_ring : Reads S_lleast_ring (fun _ => v_lleast_ring) 2 := fun ρs R _ h => by
  obtain ⟨g, I, rfl, few, q⟩ := h
  unfold v_lleast_ring
  show vSeq _ _ _ [.sh (encG g), .sh (sL I), .un, .un]
  walk_at "ss"
  refine k_call rfl ⟨g, I, rfl, few, fun F hF hFl => ?_⟩
  walk_at "back"
  walk_at "ss"
  refine k_lcM F tupD (fun _ => true) pairD [.sh (encG g), .sh (sL I), .un, .un] rfl (small16 (by omega)) (free1 rfl rfl) rfl ?_ ?_
  · intro r acc I2 hr _ a1 a2
    walk_at "ss"
    refine k_lcE (d := pairD r) ?_ (by assumption) (a1 rfl)
    unfold pairD tupD
    simp [slotD]
  · rw [List.filter_eq_self.mpr fun _ _ => rfl]
    walk_at "ss"
    rw [List.length_map]
    refine k_ifEd (fun hl => ?_) (fun hl => ?_)
    · walk_at "ss"
      refine p_minR (fun e => by subst e; simp at hl) fun m hm hmin => ?_
      walk_at "ss"
      refine q (some m) ⟨(hF m).mp hm, fun s hs r' hr' => hmin r' ((hF r').mpr ⟨s, hs, hr'⟩)⟩
    · walk_at "ss"
      refine q none fun s hs r hr => hl ?_
      have := List.length_pos_of_mem ((hF r).mpr ⟨s, hs, hr⟩)
      omega
end WL

set_option Elab.async false
set_option linter.all false
set_option maxRecDepth 100000
set_option maxHeartbeats 4000000
namespace WL
open PySem PySem.Spec PyProof.Rows L2
local macro_rules | `(tactic| walk_at "s") => `(tactic| first
  | ((with_reducible show vSeq _ _ _ _); refine u_seq ?_)
  | ((with_reducible show vSet _ _ _ _); refine u_set ?_)
  | ((with_reducible show kSet _ _ _ _); refine k_set rfl rfl ?_)
  | ((with_reducible show vRet _ _ _); refine u_ret ?_)
  | ((with_reducible show vIf _ _ _ _ _); refine u_if ?_)
  | ((with_reducible show vExpr _ _ _); refine u_expr ?_)
  | ((with_reducible show kExpr _ _ _); refine k_expr ?_)
  | ((with_reducible show vRetN _ _); refine u_retN ?_)
  | ((with_reducible show vAsg _ _ _ _); refine u_asg ?_)
  | ((with_reducible show kAsg _ _ _ _); refine k_asg rfl ?_)
  | ((with_reducible show vNext _ _); refine u_next ?_)
  | ((with_reducible show vBreak _ _); refine u_break ?_)
  | ((with_reducible show vCont _ _); refine u_cont ?_)
  | ((with_reducible show kIf _ _ _ _ _); (first | refine k_ifT ?_ | refine k_ifF ?_))
  | ((with_reducible show vVal _ _ _); refine u_val ?_)
  | ((with_reducible show kVal _ _ _); refine k_val ?_)
  | ((with_reducible show vPk _ _ _); refine u_pk rfl rfl ?_)
  | ((with_reducible show vC _ _ _); refine u_c ?_)
  | ((with_reducible show vVar _ _ _); (first | refine u_var rfl ?_ | refine u_varL rfl ?_ | refine u_varD rfl ?_ | refine u_varE rfl ?_))
  | ((with_reducible show vMv _ _ _); (first | refine u_mv rfl ?_ | refine u_mvO rfl ?_))
  | ((with_reducible show vBin _ _ _ _ _); refine u_bin ?_)
  | ((with_reducible show kBin1 _ _ _ _ _); refine k_bin1 ?_)
  | ((with_reducible show kBin2 _ _ _ _ _); refine k_bin2 rfl rfl ?_)
  | ((with_reducible show vUn _ _ _ _); refine u_un ?_)
  | ((with_reducible show kUn _ _ _ _); refine k_un rfl ?_)
  | ((with_reducible show vCons _ _ _ _); refine u_cons ?_)
  | ((with_reducible show kCons1 _ _ _ _); refine k_cons1 ?_)
  | ((with_reducible show vNil _ _); refine u_nil ?_)
  | ((with_reducible show kCons2 _ _ _ _); refine k_cons2 ?_)
  | ((with_reducible show vPrim _ _ _ _); refine u_prim ?_)
  | ((with_reducible show kPrim _ _ _ _); (first | refine k_prim1 rfl ?_ | refine k_prim2 rfl rfl ?_))
  | ((with_reducible show kRet _ _ _); (first | refine k_retV ?_ | refine k_retL ?_ | refine k_retT ?_ | refine k_retD ?_))
  | ((with_reducible show vSh _ _ _); refine u_sh ?_)
  | ((with_reducible show kSh _ _ _); (first | refine k_sh ?_ | refine k_shL ?_ | refine k_shD ?_))
  | ((with_reducible show vT _ _ _); refine u_t ?_)
  | ((with_reducible show kT _ _ _); refine k_t ?_)
  | ((with_reducible show vTru _ _ _); refine u_tru ?_)
  | ((with_reducible show kTru _ _ _); refine k_tru rfl rfl ?_)
  | ((with_reducible show vAnd _ _ _ _); refine u_and ?_)
  | ((with_reducible show kAnd _ _ _ _); (first | refine k_andT ?_ | refine k_andF ?_))
  | ((with_reducible show vOr _ _ _ _); refine u_or ?_)
  | ((with_reducible show kOr _ _ _ _); (first | refine k_orT ?_ | refine k_orF ?_))
  | ((with_reducible show vNot _ _ _); refine u_not ?_)
  | ((with_reducible show kNot _ _ _); refine k_not ?_)
  | ((with_reducible show vAndV _ _ _ _); refine u_andV ?_)
  | ((with_reducible show kAndV _ _ _ _); (first | refine k_andVT ?_ | refine k_andVF ?_))
  | ((with_reducible show kOrV _ _ _ _); (first | refine k_orVT ?_ | refine k_orVF ?_))
  | ((with_reducible show vOrV _ _ _ _); refine u_orV ?_)
  | ((with_reducible show vNotV _ _ _); refine u_notV ?_)
  | ((with_reducible show kNotV _ _ _); refine k_notV ?_)
  | ((with_reducible show vIfE _ _ _ _ _); refine u_ifE ?_)
  | ((with_reducible show kIfE _ _ _ _ _); (first | refine k_ifET ?_ | refine k_ifEF ?_))
  | ((with_reducible show vLst _ _ _); refine u_lst ?_)
  | ((with_reducible show kLst _ _ _); refine k_lst rfl (by simp only [List.length_cons, List.length_nil]; decide) ?_)
  | ((with_reducible show vTup _ _ _); refine u_tup ?_)
  | ((with_reducible show kTup _ _ _); refine k_tup rfl (by simp only [List.length_cons, List.length_nil]; decide) ?_)
  | ((with_reducible show vNewD _ _); refine u_newD ?_)
  | ((with_reducible show vSl _ _ _ _ _); refine u_sl ?_)
  | ((with_reducible show kSl0 _ _ _ _ _); refine k_sl0 ?_)
  | ((with_reducible show kSl1 _ _ _ _ _); refine k_sl1 ?_)
  | ((with_reducible show kSl2 _ _ _ _ _); refine k_sl2 rfl ?_)
  | ((with_reducible show vNoPart _ _); refine u_noPart ?_)
  | ((with_reducible show vPart _ _ _); refine u_part ?_)
  | ((with_reducible show kPart _ _ _); refine k_part ?_)
  | ((with_reducible show vApp _ _ _ _); refine u_app rfl ?_)
  | ((with_reducible show vPopAt _ _ _ _); refine u_popAt rfl ?_)
  | ((with_reducible show vExt _ _ _ _); refine u_ext rfl ?_)
  | ((with_reducible show vM1 _ _ _ _ _); refine u_m1 ?_)
  | ((with_reducible show kM1a _ _ _ _ _); refine k_m1a rfl ?_)
  | ((with_reducible show kM1b _ _ _ _ _); refine k_m1b rfl rfl ?_)
  | ((with_reducible show vGet2 _ _ _ _ _); refine u_get2 ?_)
  | ((with_reducible show kGet1 _ _ _ _ _); refine k_get1 rfl ?_)
  | ((with_reducible show kGet2 _ _ _ _ _); refine k_get2 ?_)
  | ((with_reducible show vSetL _ _ _ _ _); refine u_setL ?_)
  | ((with_reducible show kSetL1 _ _ _ _ _); refine k_setL1 rfl ?_)
  | ((with_reducible show kSetL2 _ _ _ _ _); (first | refine k_setL2j 0 rfl rfl (by simp) rfl ?_ | refine k_setL2j 1 rfl rfl (by simp) rfl ?_ | refine k_setL2j 2 rfl rfl (by simp) rfl ?_))
  | ((with_reducible show vPutD _ _ _ _ _); refine u_putD ?_)
  | ((with_reducible show kPutD1 _ _ _ _ _); refine k_putD1 rfl ?_)
  | ((with_reducible show vAugL _ _ _ _ _ _); refine u_augL rfl ?_)
  | ((with_reducible show kAugL1 _ _ _ _ _ _); (first | refine k_augL1j 0 rfl rfl rfl ?_ | refine k_augL1j 1 rfl rfl rfl ?_ | refine k_augL1j 2 rfl rfl rfl ?_))
  | ((with_reducible show kAugL2 _ _ _ _ _ _ _); refine k_augL2j rfl (by simp) ?_)
  | ((with_reducible show vAug _ _ _ _ _); refine u_aug rfl ?_)
  | ((with_reducible show kAug _ _ _ _ _ _); (first | refine k_augAdd rfl ?_ | refine k_augSub rfl ?_))
  | ((with_reducible show vCall _ _ _ _); refine u_call ?_)
  | ((with_reducible show gN _ _ _ _); refine u_gN rfl rfl ?_)
  | ((with_reducible show gT _ _ _ _); refine u_gT rfl ?_)
  | ((with_reducible show gL _ _ _ _); refine u_gL rfl rfl ?_)
  | ((with_reducible show gTs _ _ _ _); (first | refine u_gTs0 ?_ | refine u_gTs ?_))
  | ((with_reducible show vItL _ _ _); refine u_itL ?_)
  | ((with_reducible show kItL _ _ _); refine k_itL rfl rfl ?_)
  | ((with_reducible show vItT _ _ _); refine u_itT ?_)
  | ((with_reducible show kItT _ _ _); refine k_itT rfl rfl ?_)
  | ((with_reducible show vItR1 _ _ _); refine u_itR1 ?_)
  | ((with_reducible show vItR2 _ _ _); refine u_itR2 ?_)
  | ((with_reducible show vFor _ _ _ _ _); refine u_for ?_)
  | ((with_reducible show vLc _ _ _ _ _ _ _); refine u_lc ?_)
  | ((with_reducible show vLcK _ _ _ _ _ _ _); refine u_lcK rfl ?_)
  | ((with_reducible show vYes _ _); refine u_yes ?_)
  | ((with_reducible show kLcT _ _ _ _ _ _); refine k_lcTT ?_)
  | ((with_reducible show addP _ _); refine p_addI ?_)
  | ((with_reducible show subP _ _); refine p_subI ?_)
  | ((with_reducible show mulP _ _); (first | refine p_mulI (.inl (.inl (by omega))) ?_ | refine p_mulI (.inl (.inr (by omega))) ?_))
  | ((with_reducible show modP _ _); refine p_modI (by omega) ?_)
  | ((with_reducible show divP _ _); refine p_divI (.inl (by constructor <;> omega)) ?_)
  | ((with_reducible show negP _ _); refine p_negI ?_)
  | ((with_reducible show ltP _ _); refine p_ltI ?_)
  | ((with_reducible show leP _ _); refine p_leI ?_)
  | ((with_reducible show gtP _ _); refine p_gtI ?_)
  | ((with_reducible show geP _ _); refine p_geI ?_)
  | ((with_reducible show eqP _ _); (first | refine p_eqI ?_ | refine p_eqS ?_ | refine p_eqB ?_ | refine p_eqN ?_))
  | ((with_reducible show neP _ _); (first | refine p_neI ?_ | refine p_neS ?_ | refine p_neB ?_))
  | ((with_reducible show isNP _ _); (first | refine p_isNn ?_ | refine p_isNi ?_ | refine p_isNs ?_ | refine p_isNb ?_ | refine p_isNl ?_ | refine p_isNt ?_ | refine p_isNd ?_))
  | ((with_reducible show notNP _ _); (first | refine p_notNn ?_ | refine p_notNi ?_ | refine p_notNs ?_ | refine p_notNb ?_ | refine p_notNl ?_ | refine p_notNt ?_ | refine p_notNd ?_))
  | ((with_reducible show isiP _ _); refine p_isi rfl rfl ?_)
  | ((with_reducible show isiTP _ _); refine p_isiT rfl rfl ?_)
  | ((with_reducible show reprP _ _); (first | refine p_reprB ?_ | refine p_reprN ?_))
  | ((with_reducible show lenP _ _); (first | refine p_lenL ?_ | refine p_lenF ?_ | refine p_lenT ?_ | refine p_lenD ?_))
  | ((with_reducible show absP _ _); refine p_absI ?_)
  | ((with_reducible show intP _ _); refine p_intI ?_)
  | ((with_reducible show listP _ _); (first | refine p_listL ?_ | refine p_listF ?_ | refine p_listD ?_))
  | ((with_reducible show ixP _ _); (first | refine p_ixLj 0 rfl rfl ?_ | refine p_ixLj 1 rfl rfl ?_ | refine p_ixLj 2 rfl rfl ?_ | refine p_ixLj 3 rfl rfl ?_ | refine p_ixTj 0 rfl rfl ?_ | refine p_ixTj 1 rfl rfl ?_ | refine p_ixTj 2 rfl rfl ?_ | refine p_ixTj 3 rfl rfl ?_))
  | ((with_reducible show inP _ _ _); (first | refine p_inS0 ?_ | refine p_inS1 ?_ | refine p_inI0 ?_ | refine p_inI1 ?_ | refine p_inD0 rfl ?_ | refine p_inD1 rfl ?_))
  | ((with_reducible show slP _ _ _ _); (first | refine p_slL ?_ | refine p_slF ?_))
  | ((with_reducible show sumP _ _); refine p_sum ?_)
  | ((with_reducible show maxP _ _); refine p_max2 ?_)
  | ((with_reducible show minP _ _); refine p_min2 ?_)
  | ((with_reducible show allP _ _); refine p_all ?_)
  | ((with_reducible show anyP _ _); refine p_any ?_))
local macro_rules | `(tactic| walk_at "s") => `(tactic| first
  | ((with_reducible show vDc _ _ _ _ _ _ _ _); refine u_dc ?_)
  | ((with_reducible show vDcK _ _ _ _ _ _ _ _); refine u_dcK rfl ?_)
  | ((with_reducible show kDcT _ _ _ _ _ _ _); refine k_dcTT ?_)
  | ((with_reducible show kDcK _ _ _ _ _ _); refine k_dcK ?_)
  | ((with_reducible show vDisp1 _ _ _ _); refine u_disp1 ?_)
  | ((with_reducible show kDisp1 _ _ _ _); refine k_disp1 ?_)
  | ((with_reducible show kDisp2 _ _ _ _); refine k_disp2 rfl rfl ?_)
  | ((with_reducible show vShR _ _ _); refine u_shR ?_)
  | ((with_reducible show kShR _ _ _); refine k_shR ?_)
  | ((with_reducible show vPutR _ _ _ _ _); refine u_putR ?_))
local macro_rules | `(tactic| walk_at "ss") => `(tactic| repeat walk_at "s")
local macro_rules | `(tactic| walk_at "back") => `(tactic| refine k_back ?_ (by dsimp only [takeBack, backS, List.set, List.getElem?_cons_zero, List.getElem?_cons_succ]))
def Sn_copied : Nat → VSp
  | 1 => fun ρs R _ => ∃ x, ρs = [.sh (.str x)] ∧ R (.sh (.str x)) [.sh (.str x)]
  | 2 => fun ρs R _ => ∃ ss : List Str, ρs = [.sh (sL ss)] ∧ ss.length < 1000000 ∧ R (.ow false (.lst (ss.map D.str))) [.sh (sL ss)]
  | 3 => fun ρs R _ => ∃ g, ρs = [.sh (encG g)] ∧ GOk g ∧ R (.ow false (.dct (g.map fun p => (Sum.inr p.1, sL p.2)))) [.sh (encG g)]
  | _ => fun _ _ _ => False
abbrev S_copied : VSp := Sn_copied 3
def v_copied (S_copied : VSp) : VS :=
  vSeq (vIf (vTru (vVal (vPrim isiP (vCons (vPk 0) (vCons (vVal (vC (.opq (.ty "list")))) (vNil)))))) (vRet (vLc (vItL (vVar 0)) (gN 1) (vYes) (vCall S_copied (vCons (vVal (vVar 1)) (vNil))) [1])) (vNext))
    (vSeq (vIf (vTru (vVal (vPrim isiP (vCons (vPk 0) (vCons (vVal (vC (.opq (.ty "tuple")))) (vNil)))))) (vRet (vPrim tupleP (vCons (vVal (vLc (vItL (vVar 0)) (gN 1) (vYes) (vCall S_copied (vCons (vVal (vVar 1)) (vNil))) [1])) (vNil)))) (vNext))
    (vSeq (vIf (vTru (vVal (vPrim isiP (vCons (vPk 0) (vCons (vVal (vC (.opq (.ty "dict")))) (vNil)))))) (vRet (vPrim dictP (vCons (vVal (vLcK 0 (gN 2) (vYes) (vTup (vCons (vVal (vVar 2)) (vCons (vVal (vCall S_copied (vCons (vVal (vSh (vBin ixP (vPk 0) (vPk 2)))) (vNil)))) (vNil)))) [2])) (vNil)))) (vNext))
    (vRet (vMv 0))))
def v_k11_turned : VS :=
  vSeq (vSet 1 (vIdx 0 (vPrim minDP (vCons (vPk 0) (vNil)))))
    (vRet (vPrim tupleP (vCons (vVal (vBin addP (vVal (vSl (vPk 0) (vPart (vVar 1)) (vNoPart))) (vVal (vSl (vPk 0) (vNoPart) (vPart (vVar 1)))))) (vNil))))
theorem look_own {g : List (Str × List Str)} (nd : (keysG g).Nodup) : ∀ p ∈ g, g.lookup p.1 = some p.2 := by
  induction g with
  | nil => intro p hp; cases hp
  | cons a r ih =>
    intro p hp
    obtain ⟨k, v⟩ := a
    have nd' := List.nodup_cons.mp (show (k :: keysG r).Nodup from nd)
    rw [List.lookup_cons]
    rcases List.mem_cons.mp hp with e | e
    · subst e; simp
    · have hne : p.1 ≠ k := fun z => nd'.1 (z ▸ List.mem_map_of_mem e)
      have e2 : (p.1 == k) = false := by simp [hne]
      rw [e2]
      exact ih nd'.2 p e
theorem rd_copied (k : Nat) : Reads (Sn_copied (k + 1)) (fun _ => v_copied (Sn_copied k)) 2 := fun ρs R _ h => by
  match k, h with
  | 0, h =>
    obtain ⟨x, rfl, q⟩ := h
    unfold v_copied
    show vSeq _ _ _ [.sh (.str x), .un, .un]
    walk_at "ss"
    exact q
  | 1, h =>
    obtain ⟨ss, rfl, hl, q⟩ := h
    unfold v_copied
    show vSeq _ _ _ [.sh (sL ss), .un, .un]
    walk_at "ss"
    refine k_lcM ss D.str (fun _ => true) D.str [.sh (sL ss), .un, .un] rfl (small16 hl) (free1 rfl rfl) rfl ?_ ?_
    · intro x acc I hx _ a1 a2
      walk_at "ss"
      refine k_call rfl ⟨x, rfl, ?_⟩
      walk_at "back"
      exact k_lcE rfl (by assumption) (a1 rfl)
    · rw [List.filter_eq_self.mpr fun _ _ => rfl]
      exact q
  | 2, h =>
    obtain ⟨g, rfl, ok, q⟩ := h
    have hl := ok.len
    unfold v_copied
    show vSeq _ _ _ [.sh (encG g), .un, .un]
    walk_at "ss"
    refine k_lcM g (fun p => D.str p.1) (fun _ => true) (fun p => D.tup [.str p.1, sL p.2]) [.sh (encG g), .un, .un] (by rw [List.map_map]; rfl) (small16 (by omega)) (free1 rfl rfl) rfl ?_ ?_
    · intro p acc I hp _ a1 a2
      have hlk := look_own ok.nd p hp
      obtain ⟨U, hU, sm⟩ := ok.small
      have hpl : p.2.length ≤ 100 := by have := sm.len p.1; unfold getW at this; rw [hlk] at this; exact this
      walk_at "ss"
      refine p_ixD (key := .inr p.1) (d := sL p.2) rfl (by rw [lookK_G, hlk]; rfl) ?_
      walk_at "ss"
      refine k_call rfl ⟨p.2, rfl, by omega, ?_⟩
      walk_at "back"
      walk_at "ss"
      exact k_lcE rfl (by assumption) (a1 rfl)
    · rw [List.filter_eq_self.mpr fun _ _ => rfl]
      walk_at "ss"
      refine p_dict (pairsD_of sL g) ?_
      rw [mergeD_app (kvs := []) (by rw [List.nil_append, keys_enc]; exact nodup_inr ok.nd), List.nil_append]
      exact q
  | k + 3, h => exact h.elim
/-! ### turned -/
theorem cutL_to {α : Type} {xs : List α} (j : Nat) : cutL xs none (some (j : Int)) = xs.take j := by
  unfold cutL
  rw [HT.sIx_none, HT.sIx_nat, List.drop_zero, Nat.sub_zero]
  by_cases h : j ≤ xs.length
  · rw [Nat.min_eq_left h]
  · rw [Nat.min_eq_right (by omega), List.take_length, List.take_of_length_le (by omega)]
theorem cutL_from {α : Type} {xs : List α} (j : Nat) : cutL xs (some (j : Int)) none = xs.drop j := by
  unfold cutL
  rw [HT.sIx_none, HT.sIx_nat]
  by_cases hi : j ≤ xs.length
  · rw [Nat.min_eq_left hi, List.take_of_length_le (by rw [List.length_drop]; omega)]
  · rw [Nat.min_eq_right (by omega), Nat.sub_self, List.take_zero, List.drop_of_length_le (by omega)]
theorem cutL_both {α : Type} {xs : List α} (i j : Nat) (h : j ≤ xs.length) : cutL xs (some (i : Int)) (some (j : Int)) = (xs.drop i).take (j - i) := by
  unfold cutL
  rw [HT.sIx_nat, HT.sIx_nat, Nat.min_eq_left h]
  by_cases hi : i ≤ xs.length
  · rw [Nat.min_eq_left hi]
  · rw [Nat.min_eq_right (by omega), List.drop_of_length_le (Nat.le_refl _), List.drop_of_length_le (by omega)]
    simp
def S_k11_turned : VSp := fun ρs R _ => ∃ r : List Str, ρs = [.sh (sL r)] ∧ r ≠ [] ∧ r.Nodup ∧ r.length < 1000 ∧ ∀ (j : Nat) (m : Str), r[j]? = some m → (∀ y ∈ r, ¬ slt y m) → R (.sh (tupD (r.drop j ++ r.take j))) [.sh (sL r)]
theorem rd_k11_turned : Reads S_k11_turned (fun _ => v_k11_turned) 1 := fun ρs R _ h => by
  obtain ⟨r, rfl, hne, nd, hl, q⟩ := h
  unfold v_k11_turned
  show vSeq _ _ _ [.sh (sL r), .un]
  walk_at "ss"
  refine u_idx (i := 0) rfl rfl rfl ?_
  walk_at "ss"
  refine p_minS hne fun m hm hmin => ?_
  walk_at "ss"
  refine k_idx (ss := r) rfl rfl rfl hm fun j hj _ => ?_
  have hjl : j < r.length := (List.getElem?_eq_some_iff.mp hj).1
  walk_at "ss"
  have c1 : cutL (r.map D.str) (some (j : Int)) none = (r.drop j).map D.str := by
    rw [cutL_map, cutL_from]
  have c2 : cutL (r.map D.str) none (some (j : Int)) = (r.take j).map D.str := by
    rw [cutL_map, cutL_to]
  rw [c1, c2]
  refine p_addL (small16' (by simp; omega)) ?_
  rw [← List.map_append]
  walk_at "ss"
  show R (.sh (tupD (r.drop j ++ r.take j))) _
  exact q j m hj hmin
end WL

set_option Elab.async false
set_option linter.all false
set_option maxRecDepth 100000
set_option maxHeartbeats 4000000
namespace WL
open PySem PySem.Spec PyProof.Rows L2
local macro_rules | `(tactic| walk_at "s") => `(tactic| first
  | ((with_reducible show vSeq _ _ _ _); refine u_seq ?_)
  | ((with_reducible show vSet _ _ _ _); refine u_set ?_)
  | ((with_reducible show kSet _ _ _ _); refine k_set rfl rfl ?_)
  | ((with_reducible show vRet _ _ _); refine u_ret ?_)
  | ((with_reducible show vIf _ _ _ _ _); refine u_if ?_)
  | ((with_reducible show vExpr _ _ _); refine u_expr ?_)
  | ((with_reducible show kExpr _ _ _); refine k_expr ?_)
  | ((with_reducible show vRetN _ _); refine u_retN ?_)
  | ((with_reducible show vAsg _ _ _ _); refine u_asg ?_)
  | ((with_reducible show kAsg _ _ _ _); refine k_asg rfl ?_)
  | ((with_reducible show vNext _ _); refine u_next ?_)
  | ((with_reducible show vBreak _ _); refine u_break ?_)
  | ((with_reducible show vCont _ _); refine u_cont ?_)
  | ((with_reducible show kIf _ _ _ _ _); (first | refine k_ifT ?_ | refine k_ifF ?_))
  | ((with_reducible show vVal _ _ _); refine u_val ?_)
  | ((with_reducible show kVal _ _ _); refine k_val ?_)
  | ((with_reducible show vPk _ _ _); refine u_pk rfl rfl ?_)
  | ((with_reducible show vC _ _ _); refine u_c ?_)
  | ((with_reducible show vVar _ _ _); (first | refine u_var rfl ?_ | refine u_varL rfl ?_ | refine u_varD rfl ?_ | refine u_varE rfl ?_))
  | ((with_reducible show vMv _ _ _); (first | refine u_mv rfl ?_ | refine u_mvO rfl ?_))
  | ((with_reducible show vBin _ _ _ _ _); refine u_bin ?_)
  | ((with_reducible show kBin1 _ _ _ _ _); refine k_bin1 ?_)
  | ((with_reducible show kBin2 _ _ _ _ _); refine k_bin2 rfl rfl ?_)
  | ((with_reducible show vUn _ _ _ _); refine u_un ?_)
  | ((with_reducible show kUn _ _ _ _); refine k_un rfl ?_)
  | ((with_reducible show vCons _ _ _ _); refine u_cons ?_)
  | ((with_reducible show kCons1 _ _ _ _); refine k_cons1 ?_)
  | ((with_reducible show vNil _ _); refine u_nil ?_)
  | ((with_reducible show kCons2 _ _ _ _); refine k_cons2 ?_)
  | ((with_reducible show vPrim _ _ _ _); refine u_prim ?_)
  | ((with_reducible show kPrim _ _ _ _); (first | refine k_prim1 rfl ?_ | refine k_prim2 rfl rfl ?_))
  | ((with_reducible show kRet _ _ _); (first | refine k_retV ?_ | refine k_retL ?_ | refine k_retT ?_ | refine k_retD ?_))
  | ((with_reducible show vSh _ _ _); refine u_sh ?_)
  | ((with_reducible show kSh _ _ _); (first | refine k_sh ?_ | refine k_shL ?_ | refine k_shD ?_))
  | ((with_reducible show vT _ _ _); refine u_t ?_)
  | ((with_reducible show kT _ _ _); refine k_t ?_)
  | ((with_reducible show vTru _ _ _); refine u_tru ?_)
  | ((with_reducible show kTru _ _ _); refine k_tru rfl rfl ?_)
  | ((with_reducible show vAnd _ _ _ _); refine u_and ?_)
  | ((with_reducible show kAnd _ _ _ _); (first | refine k_andT ?_ | refine k_andF ?_))
  | ((with_reducible show vOr _ _ _ _); refine u_or ?_)
  | ((with_reducible show kOr _ _ _ _); (first | refine k_orT ?_ | refine k_orF ?_))
  | ((with_reducible show vNot _ _ _); refine u_not ?_)
  | ((with_reducible show kNot _ _ _); refine k_not ?_)
  | ((with_reducible show vAndV _ _ _ _); refine u_andV ?_)
  | ((with_reducible show kAndV _ _ _ _); (first | refine k_andVT ?_ | refine k_andVF ?_))
  | ((with_reducible show kOrV _ _ _ _); (first | refine k_orVT ?_ | refine k_orVF ?_))
  | ((with_reducible show vOrV _ _ _ _); refine u_orV ?_)
  | ((with_reducible show vNotV _ _ _); refine u_notV ?_)
  | ((with_reducible show kNotV _ _ _); refine k_notV ?_)
  | ((with_reducible show vIfE _ _ _ _ _); refine u_ifE ?_)
  | ((with_reducible show kIfE _ _ _ _ _); (first | refine k_ifET ?_ | refine k_ifEF ?_))
  | ((with_reducible show vLst _ _ _); refine u_lst ?_)
  | ((with_reducible show kLst _ _ _); refine k_lst rfl (by simp only [List.length_cons, List.length_nil]; decide) ?_)
  | ((with_reducible show vTup _ _ _); refine u_tup ?_)
  | ((with_reducible show kTup _ _ _); refine k_tup rfl (by simp only [List.length_cons, List.length_nil]; decide) ?_)
  | ((with_reducible show vNewD _ _); refine u_newD ?_)
  | ((with_reducible show vSl _ _ _ _ _); refine u_sl ?_)
  | ((with_reducible show kSl0 _ _ _ _ _); refine k_sl0 ?_)
  | ((with_reducible show kSl1 _ _ _ _ _); refine k_sl1 ?_)
  | ((with_reducible show kSl2 _ _ _ _ _); refine k_sl2 rfl ?_)
  | ((with_reducible show vNoPart _ _); refine u_noPart ?_)
  | ((with_reducible show vPart _ _ _); refine u_part ?_)
  | ((with_reducible show kPart _ _ _); refine k_part ?_)
  | ((with_reducible show vApp _ _ _ _); refine u_app rfl ?_)
  | ((with_reducible show vPopAt _ _ _ _); refine u_popAt rfl ?_)
  | ((with_reducible show vExt _ _ _ _); refine u_ext rfl ?_)
  | ((with_reducible show vM1 _ _ _ _ _); refine u_m1 ?_)
  | ((with_reducible show kM1a _ _ _ _ _); refine k_m1a rfl ?_)
  | ((with_reducible show kM1b _ _ _ _ _); refine k_m1b rfl rfl ?_)
  | ((with_reducible show vGet2 _ _ _ _ _); refine u_get2 ?_)
  | ((with_reducible show kGet1 _ _ _ _ _); refine k_get1 rfl ?_)
  | ((with_reducible show kGet2 _ _ _ _ _); refine k_get2 ?_)
  | ((with_reducible show vSetL _ _ _ _ _); refine u_setL ?_)
  | ((with_reducible show kSetL1 _ _ _ _ _); refine k_setL1 rfl ?_)
  | ((with_reducible show kSetL2 _ _ _ _ _); (first | refine k_setL2j 0 rfl rfl (by simp) rfl ?_ | refine k_setL2j 1 rfl rfl (by simp) rfl ?_ | refine k_setL2j 2 rfl rfl (by simp) rfl ?_))
  | ((with_reducible show vPutD _ _ _ _ _); refine u_putD ?_)
  | ((with_reducible show kPutD1 _ _ _ _ _); refine k_putD1 rfl ?_)
  | ((with_reducible show vAugL _ _ _ _ _ _); refine u_augL rfl ?_)
  | ((with_reducible show kAugL1 _ _ _ _ _ _); (first | refine k_augL1j 0 rfl rfl rfl ?_ | refine k_augL1j 1 rfl rfl rfl ?_ | refine k_augL1j 2 rfl rfl rfl ?_))
  | ((with_reducible show kAugL2 _ _ _ _ _ _ _); refine k_augL2j rfl (by simp) ?_)
  | ((with_reducible show vAug _ _ _ _ _); refine u_aug rfl ?_)
  | ((with_reducible show kAug _ _ _ _ _ _); (first | refine k_augAdd rfl ?_ | refine k_augSub rfl ?_))
  | ((with_reducible show vCall _ _ _ _); refine u_call ?_)
  | ((with_reducible show gN _ _ _ _); refine u_gN rfl rfl ?_)
  | ((with_reducible show gT _ _ _ _); refine u_gT rfl ?_)
  | ((with_reducible show gL _ _ _ _); refine u_gL rfl rfl ?_)
  | ((with_reducible show gTs _ _ _ _); (first | refine u_gTs0 ?_ | refine u_gTs ?_))
  | ((with_reducible show vItL _ _ _); refine u_itL ?_)
  | ((with_reducible show kItL _ _ _); refine k_itL rfl rfl ?_)
  | ((with_reducible show vItT _ _ _); refine u_itT ?_)
  | ((with_reducible show kItT _ _ _); refine k_itT rfl rfl ?_)
  | ((with_reducible show vItR1 _ _ _); refine u_itR1 ?_)
  | ((with_reducible show vItR2 _ _ _); refine u_itR2 ?_)
  | ((with_reducible show vFor _ _ _ _ _); refine u_for ?_)
  | ((with_reducible show vLc _ _ _ _ _ _ _); refine u_lc ?_)
  | ((with_reducible show vLcK _ _ _ _ _ _ _); refine u_lcK rfl ?_)
  | ((with_reducible show vYes _ _); refine u_yes ?_)
  | ((with_reducible show kLcT _ _ _ _ _ _); refine k_lcTT ?_)
  | ((with_reducible show addP _ _); refine p_addI ?_)
  | ((with_reducible show subP _ _); refine p_subI ?_)
  | ((with_reducible show mulP _ _); (first | refine p_mulI (.inl (.inl (by omega))) ?_ | refine p_mulI (.inl (.inr (by omega))) ?_))
  | ((with_reducible show modP _ _); refine p_modI (by omega) ?_)
  | ((with_reducible show divP _ _); refine p_divI (.inl (by constructor <;> omega)) ?_)
  | ((with_reducible show negP _ _); refine p_negI ?_)
  | ((with_reducible show ltP _ _); refine p_ltI ?_)
  | ((with_reducible show leP _ _); refine p_leI ?_)
  | ((with_reducible show gtP _ _); refine p_gtI ?_)
  | ((with_reducible show geP _ _); refine p_geI ?_)
  | ((with_reducible show eqP _ _); (first | refine p_eqI ?_ | refine p_eqS ?_ | refine p_eqB ?_ | refine p_eqN ?_))
  | ((with_reducible show neP _ _); (first | refine p_neI ?_ | refine p_neS ?_ | refine p_neB ?_))
  | ((with_reducible show isNP _ _); (first | refine p_isNn ?_ | refine p_isNi ?_ | refine p_isNs ?_ | refine p_isNb ?_ | refine p_isNl ?_ | refine p_isNt ?_ | refine p_isNd ?_))
  | ((with_reducible show notNP _ _); (first | refine p_notNn ?_ | refine p_notNi ?_ | refine p_notNs ?_ | refine p_notNb ?_ | refine p_notNl ?_ | refine p_notNt ?_ | refine p_notNd ?_))
  | ((with_reducible show isiP _ _); refine p_isi rfl rfl ?_)
  | ((with_reducible show isiTP _ _); refine p_isiT rfl rfl ?_)
  | ((with_reducible show reprP _ _); (first | refine p_reprB ?_ | refine p_reprN ?_))
  | ((with_reducible show lenP _ _); (first | refine p_lenL ?_ | refine p_lenF ?_ | refine p_lenT ?_ | refine p_lenD ?_))
  | ((with_reducible show absP _ _); refine p_absI ?_)
  | ((with_reducible show intP _ _); refine p_intI ?_)
  | ((with_reducible show listP _ _); (first | refine p_listL ?_ | refine p_listF ?_ | refine p_listD ?_))
  | ((with_reducible show ixP _ _); (first | refine p_ixLj 0 rfl rfl ?_ | refine p_ixLj 1 rfl rfl ?_ | refine p_ixLj 2 rfl rfl ?_ | refine p_ixLj 3 rfl rfl ?_ | refine p_ixTj 0 rfl rfl ?_ | refine p_ixTj 1 rfl rfl ?_ | refine p_ixTj 2 rfl rfl ?_ | refine p_ixTj 3 rfl rfl ?_))
  | ((with_reducible show inP _ _ _); (first | refine p_inS0 ?_ | refine p_inS1 ?_ | refine p_inI0 ?_ | refine p_inI1 ?_ | refine p_inD0 rfl ?_ | refine p_inD1 rfl ?_))
  | ((with_reducible show slP _ _ _ _); (first | refine p_slL ?_ | refine p_slF ?_))
  | ((with_reducible show sumP _ _); refine p_sum ?_)
  | ((with_reducible show maxP _ _); refine p_max2 ?_)
  | ((with_reducible show minP _ _); refine p_min2 ?_)
  | ((with_reducible show allP _ _); refine p_all ?_)
  | ((with_reducible show anyP _ _); refine p_any ?_))
local macro_rules | `(tactic| walk_at "s") => `(tactic| first
  | ((with_reducible show vDc _ _ _ _ _ _ _ _); refine u_dc ?_)
  | ((with_reducible show vDcK _ _ _ _ _ _ _ _); refine u_dcK rfl ?_)
  | ((with_reducible show kDcT _ _ _ _ _ _ _); refine k_dcTT ?_)
  | ((with_reducible show kDcK _ _ _ _ _ _); refine k_dcK ?_)
  | ((with_reducible show vDisp1 _ _ _ _); refine u_disp1 ?_)
  | ((with_reducible show kDisp1 _ _ _ _); refine k_disp1 ?_)
  | ((with_reducible show kDisp2 _ _ _ _); refine k_disp2 rfl rfl ?_)
  | ((with_reducible show vShR _ _ _); refine u_shR ?_)
  | ((with_reducible show kShR _ _ _); refine k_shR ?_)
  | ((with_reducible show vPutR _ _ _ _ _); refine u_putR ?_))
local macro_rules | `(tactic| walk_at "ss") => `(tactic| repeat walk_at "s")
local macro_rules | `(tactic| walk_at "back") => `(tactic| refine k_back ?_ (by dsimp only [takeBack, backS, List.set, List.getElem?_cons_zero, List.getElem?_cons_succ]))
def v_k11_waits : VS :=
  vSeq (vSet 2 (vCall S_names (vCons (vPk 0) (vCons (vVal (vSh (vBin addP (vVal (vC (.int 1))) (vVal (vCall S_pick (vCons (vPk 0) (vCons (vVal (vC (.int 6))) (vNil)))))))) (vCons (vVal (vVar 1)) (vNil))))))
    (vSeq (vSet 3 (vBin addP (vVal (vC (.int 2))) (vVal (vCall S_pick (vCons (vPk 0) (vCons (vVal (vC (.int 3))) (vNil)))))))
    (vSeq (vSet 4 (vBin ixP (vVal (vCall S_names (vCons (vPk 0) (vCons (vVal (vC (.int 1))) (vCons (vVal (vSh (vBin addP (vPk 1) (vVal (vC (.int 1)))))) (vNil)))))) (vVal (vC (.int 0)))))
    (vSeq (vSet 5 (vNewD))
    (vSeq (vFor (vItL (vVar 2)) (gN 6) (vSeq (vSet 7 (vLc (vItL (vCall S_shuffled (vCons (vPk 0) (vCons (vVal (vVar 2)) (vNil))))) (gN 8) (vT (vBin eqP (vVal (vCall S_pick (vCons (vPk 0) (vCons (vVal (vVar 3)) (vNil))))) (vVal (vC (.int 0))))) (vVar 8) [8]))
    (vSeq (vIf (vT (vBin eqP (vVal (vCall S_pick (vCons (vPk 0) (vCons (vVal (vC (.int 6))) (vNil))))) (vVal (vC (.int 0))))) (vExpr (vApp 7 (vVar 4))) (vNext))
    (vPutD 5 (vVar 6) (vVar 7)))))
    (vRet (vMv 5))))))
def v_k11_asked : VS :=
  vSeq (vSet 2 (vPrim listP (vCons (vPk 1) (vNil))))
    (vSeq (vSet 3 (vLc (vItL (vCall S_knots (vCons (vVal (vVar 1)) (vNil)))) (gN 5) (vYes) (vCall S_shuffled (vCons (vPk 0) (vCons (vVal (vVar 5)) (vNil)))) [5]))
    (vSeq (vFor (vItR1 (vCons (vVal (vC (.int 2))) (vNil))) (gN 4) (vExpr (vApp 3 (vSl (vVal (vCall S_shuffled (vCons (vPk 0) (vCons (vVal (vVar 2)) (vNil))))) (vNoPart) (vPart (vBin addP (vVal (vC (.int 1))) (vVal (vCall S_pick (vCons (vPk 0) (vCons (vVal (vSh (vPrim lenP (vCons (vPk 2) (vNil))))) (vNil)))))))))))
    (vRet (vMv 3))))
/-! ### the drawn waits -/
structure WOk (g : List (Str × List Str)) : Prop where
  ok : GOk g
  pos : g ≠ []
  six : g.length ≤ 6
  sev : ∀ n, (getW g n).length ≤ 7
theorem getW_cases (g : List (Str × List Str)) (n : Str) : getW g n = [] ∨ ∃ p ∈ g, p.1 = n ∧ p.2 = getW g n := by
  induction g with
  | nil => exact .inl rfl
  | cons a r ih =>
    obtain ⟨k, v⟩ := a
    unfold getW at ih ⊢
    rw [List.lookup_cons]
    by_cases e : n = k
    · subst e
      simp
    · have e2 : (n == k) = false := by simp [e]
      rw [e2]
      rcases ih with z | ⟨p, h1, h2, h3⟩
      · exact .inl z
      · exact .inr ⟨p, List.mem_cons_of_mem _ h1, h2, h3⟩
theorem wok_of {g : List (Str × List Str)} {ns U : List Str} (hk : keysG g = ns) (nd : ns.Nodup) (hl : ns.length ≤ 6) (hne : ns ≠ []) (tx : ∀ x ∈ ns, SText x) (txU : ∀ x ∈ U, SText x) (hU : U.length ≤ 100) (hp : ∀ p ∈ g, p.2.length ≤ 7 ∧ ∀ x ∈ p.2, x ∈ U) : WOk g := by
  have gl : g.length = ns.length := by rw [← hk]; unfold keysG; rw [List.length_map]
  have sev : ∀ n, (getW g n).length ≤ 7 := fun n => by
    rcases getW_cases g n with z | ⟨p, h1, _, h3⟩
    · rw [z]; simp
    · rw [← h3]; exact (hp p h1).1
  refine ⟨⟨by rw [hk]; exact nd, by omega, fun p h => ⟨tx _ (by rw [← hk]; exact List.mem_map_of_mem h), fun x hx => txU x ((hp p h).2 x hx)⟩, U, hU, fun n x hx => ?_, fun n => by have := sev n; omega⟩, fun e => hne (by rw [← hk, e]; rfl), by omega, sev⟩
  rcases getW_cases g n with z | ⟨p, h1, _, h3⟩
  · rw [z] at hx; cases hx
  · rw [← h3] at hx; exact (hp p h1).2 x hx
theorem perm_strs {es : List D} {xs : List Str} (h : es.Perm (xs.map D.str)) : ∃ ys : List Str, ys.Perm xs ∧ es = ys.map D.str := perm_map_inv _ h
def S_k11_waits : VSp := fun ρs R _ => ∃ a b c before, ρs = [srcD a b c, .sh (.int before)] ∧ 0 ≤ before ∧ before ≤ 100 ∧ ∀ a' b' c' g, WOk g → R (.ow false (.dct (g.map fun p => (Sum.inr p.1, sL p.2)))) [srcD a' b' c', .sh (.int before)]
theorem rd_k11_waits : Reads S_k11_waits (fun _ => v_k11_waits) 7 := fun ρs R _ h => by
  obtain ⟨a, b, c, before, rfl, b0, b1, q⟩ := h
  unfold v_k11_waits
  show vSeq _ _ _ [srcD a b c, .sh (.int before), .un, .un, .un, .un, .un, .un, .un]
  walk_at "ss"
  refine k_call rfl ⟨a, b, c, 6, rfl, by decide, by decide, fun a b c n n0 n1 => ?_⟩
  walk_at "back"
  walk_at "ss"
  refine k_call rfl ⟨a, b, c, 1 + n, before, rfl, by omega, by omega, by omega, by omega, fun a b c st m tl ws h1 h2 h3 h4 h5 hp => ?_⟩
  have nok : NamesOk (ws.map SX.S) (1 + n).toNat := names_ok h1 (by omega) h4 h5 (by omega) hp
  revert nok
  generalize ws.map SX.S = ns
  intro nok
  have nl := nok.len
  walk_at "back"
  walk_at "ss"
  refine k_call rfl ⟨a, b, c, 3, rfl, by decide, by decide, fun a b c sp s0 s1 => ?_⟩
  walk_at "back"
  walk_at "ss"
  refine k_call rfl ⟨a, b, c, 1, before + 1, rfl, by omega, by omega, by omega, by omega, fun a b c st m tl ws h1 h2 h3 h4 h5 hp => ?_⟩
  have zok : NamesOk (ws.map SX.S) (1 : Int).toNat := names_ok h1 (by omega) h4 h5 (by omega) hp
  revert zok
  generalize ws.map SX.S = zs
  intro zok
  obtain ⟨z, rfl⟩ := List.length_eq_one_iff.mp zok.len
  walk_at "back"
  walk_at "ss"
  refine k_for (fun j ρ => ∃ a b c g n6 n7 n8, ρ = [srcD a b c, .sh (.int before), .sh (sL ns), .sh (.int (2 + sp)), .sh (.str z), .ow false (.dct (g.map fun p => ((Sum.inr p.1 : Key), sL p.2))), n6, n7, n8] ∧ Slot.free n6 = true ∧ Slot.free n7 = true ∧ Slot.free n8 = true ∧
      keysG g = ns.take j ∧ ∀ p ∈ g, p.2.length ≤ 7 ∧ ∀ x ∈ p.2, x ∈ ns ++ [z]) ⟨a, b, c, [], .un, .un, .un, rfl, rfl, rfl, rfl, rfl, by simp⟩ ?_ ?_
  · rintro j d ρ' hj ⟨a, b, c, g, n6, n7, n8, rfl, f6, f7, f8, hk, hg⟩
    rw [List.getElem?_map] at hj
    obtain ⟨x, hx, ed⟩ := Option.map_eq_some_iff.mp hj
    subst ed
    refine u_gN rfl f6 ?_
    walk_at "ss"
    refine k_call rfl ⟨a, b, c, ns.map D.str, rfl, by rw [List.length_map]; omega, fun a b c es hes => ?_⟩
    obtain ⟨ys, hys, rfl⟩ := perm_strs hes
    walk_at "back"
    walk_at "ss"
    have hyl : ys.length = ns.length := hys.length_eq
    refine k_lc (free1 rfl f8) (fun j2 acc ρ => ∃ (a b c : Int) (zs : List Str), ρ = [srcD a b c, .sh (.int before), .sh (sL ns), .sh (.int (2 + sp)), .sh (.str z), .ow false (.dct (g.map fun p => ((Sum.inr p.1 : Key), sL p.2))), .sh (.str x), n7, .un] ∧ acc = zs.map D.str ∧ zs.length ≤ j2 ∧ ∀ y ∈ zs, y ∈ ns) ⟨a, b, c, [], rfl, rfl, Nat.le_refl _, by simp⟩ ?_ ?_
    · rintro j2 acc d ρ' hj2 ⟨a, b, c, zs, rfl, rfl, hzl, hzm⟩
      rw [List.getElem?_map] at hj2
      obtain ⟨y, hy, ed⟩ := Option.map_eq_some_iff.mp hj2
      subst ed
      have hj2l := (List.getElem?_eq_some_iff.mp hy).1
      walk_at "ss"
      refine k_call rfl ⟨a, b, c, 2 + sp, rfl, by omega, by omega, fun a b c r r0 r1 => ?_⟩
      walk_at "back"
      walk_at "ss"
      refine k_lcT (fun hb => ?_) (fun hb => ?_)
      · walk_at "ss"
        refine k_lcE rfl (small16 (by rw [List.length_map]; omega)) ?_
        exact ⟨a, b, c, zs ++ [y], rfl, by rw [List.map_append]; rfl, by rw [List.length_append, List.length_singleton]; omega, fun w hw => (List.mem_append.mp hw).elim (hzm w) fun e => by rw [List.mem_singleton.mp e]; exact hys.mem_iff.mp (List.mem_of_getElem? hy)⟩
      · exact ⟨a, b, c, zs, rfl, rfl, by omega, hzm⟩
    · rintro acc ρ' ⟨a, b, c, zs, rfl, rfl, hzl, hzm⟩
      rw [List.length_map] at hzl
      have hzl6 : zs.length ≤ 6 := by omega
      refine k_set rfl f7 ?_
      walk_at "ss"
      refine k_call rfl ⟨a, b, c, 6, rfl, by decide, by decide, fun a b c r r0 r1 => ?_⟩
      walk_at "back"
      walk_at "ss"
      have hxn : x ∉ ns.take j := fun w => by
        have hnd : (ns.take j ++ [x]).Nodup := by rw [← take_snoc hx]; exact nok.nd.sublist (List.take_sublist _ _)
        exact (List.nodup_append.mp hnd).2.2 x w x (by simp) rfl
      have hnew : ∀ kv ∈ (g.map fun p => ((Sum.inr p.1 : Key), sL p.2)), kv.1 ≠ (Sum.inr x : Key) := fun kv hkv e => by
        obtain ⟨p, hp, rfl⟩ := List.mem_map.mp hkv
        have e' : p.1 = x := by cases e; rfl
        exact hxn (by rw [← hk, ← e']; exact List.mem_map_of_mem hp)
      have gl : g.length ≤ 6 := by
        have : g.length = (keysG g).length := by unfold keysG; rw [List.length_map]
        rw [this, hk, List.length_take]; omega
      have fin : ∀ row : List Str, row.length ≤ 7 → (∀ y ∈ row, y ∈ ns ++ [z]) → ∀ a b c n7, Slot.free n7 = true → ∃ a' b' c' g' n6 m7 n8, [srcD a b c, .sh (.int before), .sh (sL ns), .sh (.int (2 + sp)), .sh (.str z), Slot.ow false (.dct (putD (g.map fun p => ((Sum.inr p.1 : Key), sL p.2)) (.inr x) (sL row))), .sh (.str x), n7, .un] = [srcD a' b' c', .sh (.int before), .sh (sL ns), .sh (.int (2 + sp)), .sh (.str z), .ow false (.dct (g'.map fun p => ((Sum.inr p.1 : Key), sL p.2))), n6, m7, n8] ∧ Slot.free n6 = true ∧ Slot.free m7 = true ∧ Slot.free n8 = true ∧
          keysG g' = ns.take (j + 1) ∧ ∀ p ∈ g', p.2.length ≤ 7 ∧ ∀ x ∈ p.2, x ∈ ns ++ [z] := fun row r1 r2 a b c n7 f7 => by
        refine ⟨a, b, c, g ++ [(x, row)], .sh (.str x), n7, .un, ?_, rfl, f7, rfl, ?_, fun p hp => ?_⟩
        · rw [putD_new hnew, List.map_append]; rfl
        · rw [take_snoc hx, ← hk]; unfold keysG; rw [List.map_append]; rfl
        · rcases List.mem_append.mp hp with w | w
          · exact hg p w
          · rw [List.mem_singleton.mp w]; exact ⟨r1, r2⟩
      refine k_ifD (fun h6 => ?_) (fun h6 => ?_)
      · walk_at "ss"
        refine k_app rfl rfl (small16 (by rw [List.length_map]; omega)) ?_
        walk_at "ss"
        refine k_putD2 rfl rfl (small16 (by rw [List.length_map]; omega)) rfl ?_
        have ea : zs.map D.str ++ [D.str z] = (zs ++ [z]).map D.str := by rw [List.map_append]; rfl
        rw [ea]
        exact fin (zs ++ [z]) (by rw [List.length_append, List.length_singleton]; omega) (fun y hy => (List.mem_append.mp hy).elim (fun w => List.mem_append_left _ (hzm y w)) fun w => List.mem_append_right _ w) a b c _ rfl
      · walk_at "ss"
        refine k_putD2 rfl rfl (small16 (by rw [List.length_map]; omega)) rfl ?_
        exact fin zs (by omega) (fun y hy => List.mem_append_left _ (hzm y hy)) a b c _ rfl
  · rintro ρ' ⟨a, b, c, g, n6, n7, n8, rfl, f6, f7, f8, hk, hg⟩
    rw [List.length_map, List.take_length] at hk
    walk_at "ss"
    refine q a b c g (wok_of hk nok.nd (by omega) (fun e => by rw [e] at nl; simp at nl; omega) nok.tx (U := ns ++ [z]) (fun x hx => (List.mem_append.mp hx).elim (nok.tx x) fun w => zok.tx x w) (by rw [List.length_append, List.length_singleton]; omega) hg)
/-! ### what is asked -/
def S_k11_asked : VSp := fun ρs R _ => ∃ a b c g, ρs = [srcD a b c, .sh (encG g)] ∧ WOk g ∧ ∀ a' b' c' (Ls : List (List Str)), Ls.length ≤ 100 → (∀ L ∈ Ls, L.Nodup ∧ ∀ x ∈ L, x ∈ keysG g) → R (.ow false (.lst (Ls.map sL))) [srcD a' b' c', .sh (encG g)]
theorem knots_each {g : List (Str × List Str)} (ok : GOk g) {k : List Str} (h : k ∈ theKnots g) : k.Nodup ∧ ∀ x ∈ k, x ∈ keysG g := by
  obtain ⟨m, _, _, e⟩ := knotsF_mem _ _ h
  subst e
  refine ⟨?_, fun x hx => (mem_knotF.mp hx).1⟩
  unfold knotF
  exact (sortS_perm _).nodup_iff.mpr (ok.nd.filter _)
theorem knots_len {g : List (Str × List Str)} : (theKnots g).length ≤ (keysG g).length := by
  have := knotsF_len (W := getW g) (ks := keysG g) (sortS (keysG g))
  rw [(sortS_perm (keysG g)).length_eq] at this
  exact this
theorem rd_k11_asked : Reads S_k11_asked (fun _ => v_k11_asked) 4 := fun ρs R _ h => by
  obtain ⟨a, b, c, g, rfl, wok, q⟩ := h
  have ok := wok.ok
  have hg6 := wok.six
  have hgp := List.length_pos_iff.mpr wok.pos
  have kl : (keysG g).length = g.length := by unfold keysG; rw [List.length_map]
  have hkn := knots_len (g := g)
  unfold v_k11_asked
  show vSeq _ _ _ [srcD a b c, .sh (encG g), .un, .un, .un, .un]
  walk_at "ss"
  have en : (List.map (fun kv => dK kv.fst) (List.map (fun p => ((Sum.inr p.1 : Key), sL p.2)) g)) = (keysG g).map D.str := by unfold keysG; rw [List.map_map, List.map_map]; rfl
  rw [en]
  refine k_call rfl ⟨g, rfl, ok, ?_⟩
  walk_at "back"
  walk_at "ss"
  refine k_lc (free1 rfl rfl) (fun j acc ρ => ∃ (a b c : Int) (Ls : List (List Str)), ρ = [srcD a b c, .sh (encG g), .ow false (.lst ((keysG g).map D.str)), .un, .un, .un] ∧ acc = Ls.map sL ∧ Ls.length = j ∧ ∀ L ∈ Ls, L.Nodup ∧ ∀ x ∈ L, x ∈ keysG g) ⟨a, b, c, [], rfl, rfl, rfl, by simp⟩ ?_ ?_
  · rintro j acc d ρ' hj ⟨a, b, c, Ls, rfl, rfl, hl, hL⟩
    rw [List.getElem?_map] at hj
    obtain ⟨k, hk, ed⟩ := Option.map_eq_some_iff.mp hj
    subst ed
    have hkm := List.mem_of_getElem? hk
    have hjl := (List.getElem?_eq_some_iff.mp hk).1
    obtain ⟨k1, k2⟩ := knots_each ok hkm
    have kle := nodup_le k1 k2
    walk_at "ss"
    refine k_call rfl ⟨a, b, c, k.map D.str, rfl, by rw [List.length_map]; omega, fun a b c es hes => ?_⟩
    obtain ⟨ys, hys, rfl⟩ := perm_strs hes
    walk_at "back"
    refine k_lcE rfl (small16 (by rw [List.length_map]; omega)) ?_
    refine ⟨a, b, c, Ls ++ [ys], rfl, by rw [List.map_append]; rfl, by rw [List.length_append, List.length_singleton]; omega, fun L hL' => ?_⟩
    rcases List.mem_append.mp hL' with w | w
    · exact hL L w
    · rw [List.mem_singleton.mp w]; exact ⟨hys.nodup_iff.mpr k1, fun x hx => k2 x (hys.mem_iff.mp hx)⟩
  · rintro acc ρ' ⟨a, b, c, Ls, rfl, rfl, hl, hL⟩
    rw [List.length_map] at hl
    walk_at "ss"
    refine k_itR1 rfl (by omega) ?_
    refine k_for (fun j ρ => ∃ (a b c : Int) (Ls : List (List Str)) (n2 n4 n5 : Slot), ρ = [srcD a b c, .sh (encG g), n2, .ow false (.lst (Ls.map sL)), n4, n5] ∧ (n2 = .ow false (.lst ((keysG g).map D.str)) ∨ n2 = .sh (sL (keysG g))) ∧ Slot.free n4 = true ∧ Slot.free n5 = true ∧ Ls.length ≤ 50 + j ∧ ∀ L ∈ Ls, L.Nodup ∧ ∀ x ∈ L, x ∈ keysG g) ⟨a, b, c, Ls, _, .un, .un, rfl, .inl rfl, rfl, rfl, by omega, hL⟩ ?_ ?_
    · rintro j d ρ' hj ⟨a, b, c, Ls, n2, n4, n5, rfl, h2, f4, f5, hl, hL⟩
      have hj2 : j < 2 := by
        have := (List.getElem?_eq_some_iff.mp hj).1
        rw [rangeD_len] at this
        exact this
      refine u_gN rfl f4 ?_
      have tail : ∀ a b c, kCall S_shuffled (kVal (kSl0 vNoPart (vPart (vBin addP (vVal (vC (.int 1))) (vVal (vCall S_pick (vCons (vPk 0) (vCons (vVal (vSh (vPrim lenP (vCons (vPk 2) vNil)))) vNil)))))) (kApp 3 (kExpr fun ρ => ∃ (a b c : Int) (Ls : List (List Str)) (n2 n4 n5 : Slot), ρ = [srcD a b c, .sh (encG g), n2, .ow false (.lst (Ls.map sL)), n4, n5] ∧ (n2 = .ow false (.lst ((keysG g).map D.str)) ∨ n2 = .sh (sL (keysG g))) ∧ Slot.free n4 = true ∧ Slot.free n5 = true ∧ Ls.length ≤ 50 + (j + 1) ∧ ∀ L ∈ Ls, L.Nodup ∧ ∀ x ∈ L, x ∈ keysG g)))) [.pk 0, .val (.sh (sL (keysG g)))] [srcD a b c, .sh (encG g), .sh (sL (keysG g)), .ow false (.lst (Ls.map sL)), .sh d, n5] := fun a b c => by
        refine k_call rfl ⟨a, b, c, (keysG g).map D.str, rfl, by rw [List.length_map]; omega, fun a b c es hes => ?_⟩
        obtain ⟨ys, hys, rfl⟩ := perm_strs hes
        walk_at "back"
        walk_at "ss"
        rw [List.length_map]
        refine k_call rfl ⟨a, b, c, ((keysG g).length : Int), rfl, by omega, by omega, fun a b c r r0 r1 => ?_⟩
        walk_at "back"
        walk_at "ss"
        obtain ⟨rn, rfl⟩ : ∃ rn : Nat, r = (rn : Int) := ⟨r.toNat, by omega⟩
        have e1 : (1 + (rn : Int)) = ((1 + rn : Nat) : Int) := by omega
        rw [e1, cutL_map, cutL_to]
        refine k_app rfl rfl (small16 (by rw [List.length_map]; omega)) ?_
        walk_at "ss"
        refine ⟨a, b, c, Ls ++ [ys.take (1 + rn)], _, _, n5, by rw [List.map_append]; rfl, .inr rfl, rfl, f5, by rw [List.length_append, List.length_singleton]; omega, fun L hL' => ?_⟩
        rcases List.mem_append.mp hL' with w | w
        · exact hL L w
        · rw [List.mem_singleton.mp w]
          exact ⟨(hys.nodup_iff.mpr ok.nd).sublist (List.take_sublist _ _), fun x hx => hys.mem_iff.mp (List.mem_of_mem_take hx)⟩
      rcases h2 with rfl | rfl
      · walk_at "ss"
        exact tail a b c
      · walk_at "ss"
        exact tail a b c
    · rintro ρ' ⟨a, b, c, Ls, n2, n4, n5, rfl, h2, f4, f5, hl, hL⟩
      rw [rangeD_len] at hl
      walk_at "ss"
      exact q a b c Ls (by have : ((2 : Int)).toNat = 2 := rfl; omega) hL
end WL

set_option Elab.async false
set_option linter.all false
set_option maxRecDepth 100000
set_option maxHeartbeats 4000000
namespace WL
open PySem PySem.Spec PyProof.Rows L2
local macro_rules | `(tactic| walk_at "s") => `(tactic| first
  | ((with_reducible show vSeq _ _ _ _); refine u_seq ?_)
  | ((with_reducible show vSet _ _ _ _); refine u_set ?_)
  | ((with_reducible show kSet _ _ _ _); refine k_set rfl rfl ?_)
  | ((with_reducible show vRet _ _ _); refine u_ret ?_)
  | ((with_reducible show vIf _ _ _ _ _); refine u_if ?_)
  | ((with_reducible show vExpr _ _ _); refine u_expr ?_)
  | ((with_reducible show kExpr _ _ _); refine k_expr ?_)
  | ((with_reducible show vRetN _ _); refine u_retN ?_)
  | ((with_reducible show vAsg _ _ _ _); refine u_asg ?_)
  | ((with_reducible show kAsg _ _ _ _); refine k_asg rfl ?_)
  | ((with_reducible show vNext _ _); refine u_next ?_)
  | ((with_reducible show vBreak _ _); refine u_break ?_)
  | ((with_reducible show vCont _ _); refine u_cont ?_)
  | ((with_reducible show kIf _ _ _ _ _); (first | refine k_ifT ?_ | refine k_ifF ?_))
  | ((with_reducible show vVal _ _ _); refine u_val ?_)
  | ((with_reducible show kVal _ _ _); refine k_val ?_)
  | ((with_reducible show vPk _ _ _); refine u_pk rfl rfl ?_)
  | ((with_reducible show vC _ _ _); refine u_c ?_)
  | ((with_reducible show vVar _ _ _); (first | refine u_var rfl ?_ | refine u_varL rfl ?_ | refine u_varD rfl ?_ | refine u_varE rfl ?_))
  | ((with_reducible show vMv _ _ _); (first | refine u_mv rfl ?_ | refine u_mvO rfl ?_))
  | ((with_reducible show vBin _ _ _ _ _); refine u_bin ?_)
  | ((with_reducible show kBin1 _ _ _ _ _); refine k_bin1 ?_)
  | ((with_reducible show kBin2 _ _ _ _ _); refine k_bin2 rfl rfl ?_)
  | ((with_reducible show vUn _ _ _ _); refine u_un ?_)
  | ((with_reducible show kUn _ _ _ _); refine k_un rfl ?_)
  | ((with_reducible show vCons _ _ _ _); refine u_cons ?_)
  | ((with_reducible show kCons1 _ _ _ _); refine k_cons1 ?_)
  | ((with_reducible show vNil _ _); refine u_nil ?_)
  | ((with_reducible show kCons2 _ _ _ _); refine k_cons2 ?_)
  | ((with_reducible show vPrim _ _ _ _); refine u_prim ?_)
  | ((with_reducible show kPrim _ _ _ _); (first | refine k_prim1 rfl ?_ | refine k_prim2 rfl rfl ?_))
  | ((with_reducible show kRet _ _ _); (first | refine k_retV ?_ | refine k_retL ?_ | refine k_retT ?_ | refine k_retD ?_))
  | ((with_reducible show vSh _ _ _); refine u_sh ?_)
  | ((with_reducible show kSh _ _ _); (first | refine k_sh ?_ | refine k_shL ?_ | refine k_shD ?_))
  | ((with_reducible show vT _ _ _); refine u_t ?_)
  | ((with_reducible show kT _ _ _); refine k_t ?_)
  | ((with_reducible show vTru _ _ _); refine u_tru ?_)
  | ((with_reducible show kTru _ _ _); refine k_tru rfl rfl ?_)
  | ((with_reducible show vAnd _ _ _ _); refine u_and ?_)
  | ((with_reducible show kAnd _ _ _ _); (first | refine k_andT ?_ | refine k_andF ?_))
  | ((with_reducible show vOr _ _ _ _); refine u_or ?_)
  | ((with_reducible show kOr _ _ _ _); (first | refine k_orT ?_ | refine k_orF ?_))
  | ((with_reducible show vNot _ _ _); refine u_not ?_)
  | ((with_reducible show kNot _ _ _); refine k_not ?_)
  | ((with_reducible show vAndV _ _ _ _); refine u_andV ?_)
  | ((with_reducible show kAndV _ _ _ _); (first | refine k_andVT ?_ | refine k_andVF ?_))
  | ((with_reducible show kOrV _ _ _ _); (first | refine k_orVT ?_ | refine k_orVF ?_))
  | ((with_reducible show vOrV _ _ _ _); refine u_orV ?_)
  | ((with_reducible show vNotV _ _ _); refine u_notV ?_)
  | ((with_reducible show kNotV _ _ _); refine k_notV ?_)
  | ((with_reducible show vIfE _ _ _ _ _); refine u_ifE ?_)
  | ((with_reducible show kIfE _ _ _ _ _); (first | refine k_ifET ?_ | refine k_ifEF ?_))
  | ((with_reducible show vLst _ _ _); refine u_lst ?_)
  | ((with_reducible show kLst _ _ _); refine k_lst rfl (by simp only [List.length_cons, List.length_nil]; decide) ?_)
  | ((with_reducible show vTup _ _ _); refine u_tup ?_)
  | ((with_reducible show kTup _ _ _); refine k_tup rfl (by simp only [List.length_cons, List.length_nil]; decide) ?_)
  | ((with_reducible show vNewD _ _); refine u_newD ?_)
  | ((with_reducible show vSl _ _ _ _ _); refine u_sl ?_)
  | ((with_reducible show kSl0 _ _ _ _ _); refine k_sl0 ?_)
  | ((with_reducible show kSl1 _ _ _ _ _); refine k_sl1 ?_)
  | ((with_reducible show kSl2 _ _ _ _ _); refine k_sl2 rfl ?_)
  | ((with_reducible show vNoPart _ _); refine u_noPart ?_)
  | ((with_reducible show vPart _ _ _); refine u_part ?_)
  | ((with_reducible show kPart _ _ _); refine k_part ?_)
  | ((with_reducible show vApp _ _ _ _); refine u_app rfl ?_)
  | ((with_reducible show vPopAt _ _ _ _); refine u_popAt rfl ?_)
  | ((with_reducible show vExt _ _ _ _); refine u_ext rfl ?_)
  | ((with_reducible show vM1 _ _ _ _ _); refine u_m1 ?_)
  | ((with_reducible show kM1a _ _ _ _ _); refine k_m1a rfl ?_)
  | ((with_reducible show kM1b _ _ _ _ _); refine k_m1b rfl rfl ?_)
  | ((with_reducible show vGet2 _ _ _ _ _); refine u_get2 ?_)
  | ((with_reducible show kGet1 _ _ _ _ _); refine k_get1 rfl ?_)
  | ((with_reducible show kGet2 _ _ _ _ _); refine k_get2 ?_)
  | ((with_reducible show vSetL _ _ _ _ _); refine u_setL ?_)
  | ((with_reducible show kSetL1 _ _ _ _ _); refine k_setL1 rfl ?_)
  | ((with_reducible show kSetL2 _ _ _ _ _); (first | refine k_setL2j 0 rfl rfl (by simp) rfl ?_ | refine k_setL2j 1 rfl rfl (by simp) rfl ?_ | refine k_setL2j 2 rfl rfl (by simp) rfl ?_))
  | ((with_reducible show vPutD _ _ _ _ _); refine u_putD ?_)
  | ((with_reducible show kPutD1 _ _ _ _ _); refine k_putD1 rfl ?_)
  | ((with_reducible show vAugL _ _ _ _ _ _); refine u_augL rfl ?_)
  | ((with_reducible show kAugL1 _ _ _ _ _ _); (first | refine k_augL1j 0 rfl rfl rfl ?_ | refine k_augL1j 1 rfl rfl rfl ?_ | refine k_augL1j 2 rfl rfl rfl ?_))
  | ((with_reducible show kAugL2 _ _ _ _ _ _ _); refine k_augL2j rfl (by simp) ?_)
  | ((with_reducible show vAug _ _ _ _ _); refine u_aug rfl ?_)
  | ((with_reducible show kAug _ _ _ _ _ _); (first | refine k_augAdd rfl ?_ | refine k_augSub rfl ?_))
  | ((with_reducible show vCall _ _ _ _); refine u_call ?_)
  | ((with_reducible show gN _ _ _ _); refine u_gN rfl rfl ?_)
  | ((with_reducible show gT _ _ _ _); refine u_gT rfl ?_)
  | ((with_reducible show gL _ _ _ _); refine u_gL rfl rfl ?_)
  | ((with_reducible show gTs _ _ _ _); (first | refine u_gTs0 ?_ | refine u_gTs ?_))
  | ((with_reducible show vItL _ _ _); refine u_itL ?_)
  | ((with_reducible show kItL _ _ _); refine k_itL rfl rfl ?_)
  | ((with_reducible show vItT _ _ _); refine u_itT ?_)
  | ((with_reducible show kItT _ _ _); refine k_itT rfl rfl ?_)
  | ((with_reducible show vItR1 _ _ _); refine u_itR1 ?_)
  | ((with_reducible show vItR2 _ _ _); refine u_itR2 ?_)
  | ((with_reducible show vFor _ _ _ _ _); refine u_for ?_)
  | ((with_reducible show vLc _ _ _ _ _ _ _); refine u_lc ?_)
  | ((with_reducible show vLcK _ _ _ _ _ _ _); refine u_lcK rfl ?_)
  | ((with_reducible show vYes _ _); refine u_yes ?_)
  | ((with_reducible show kLcT _ _ _ _ _ _); refine k_lcTT ?_)
  | ((with_reducible show addP _ _); refine p_addI ?_)
  | ((with_reducible show subP _ _); refine p_subI ?_)
  | ((with_reducible show mulP _ _); (first | refine p_mulI (.inl (.inl (by omega))) ?_ | refine p_mulI (.inl (.inr (by omega))) ?_))
  | ((with_reducible show modP _ _); refine p_modI (by omega) ?_)
  | ((with_reducible show divP _ _); refine p_divI (.inl (by constructor <;> omega)) ?_)
  | ((with_reducible show negP _ _); refine p_negI ?_)
  | ((with_reducible show ltP _ _); refine p_ltI ?_)
  | ((with_reducible show leP _ _); refine p_leI ?_)
  | ((with_reducible show gtP _ _); refine p_gtI ?_)
  | ((with_reducible show geP _ _); refine p_geI ?_)
  | ((with_reducible show eqP _ _); (first | refine p_eqI ?_ | refine p_eqS ?_ | refine p_eqB ?_ | refine p_eqN ?_))
  | ((with_reducible show neP _ _); (first | refine p_neI ?_ | refine p_neS ?_ | refine p_neB ?_))
  | ((with_reducible show isNP _ _); (first | refine p_isNn ?_ | refine p_isNi ?_ | refine p_isNs ?_ | refine p_isNb ?_ | refine p_isNl ?_ | refine p_isNt ?_ | refine p_isNd ?_))
  | ((with_reducible show notNP _ _); (first | refine p_notNn ?_ | refine p_notNi ?_ | refine p_notNs ?_ | refine p_notNb ?_ | refine p_notNl ?_ | refine p_notNt ?_ | refine p_notNd ?_))
  | ((with_reducible show isiP _ _); refine p_isi rfl rfl ?_)
  | ((with_reducible show isiTP _ _); refine p_isiT rfl rfl ?_)
  | ((with_reducible show reprP _ _); (first | refine p_reprB ?_ | refine p_reprN ?_))
  | ((with_reducible show lenP _ _); (first | refine p_lenL ?_ | refine p_lenF ?_ | refine p_lenT ?_ | refine p_lenD ?_))
  | ((with_reducible show absP _ _); refine p_absI ?_)
  | ((with_reducible show intP _ _); refine p_intI ?_)
  | ((with_reducible show listP _ _); (first | refine p_listL ?_ | refine p_listF ?_ | refine p_listD ?_))
  | ((with_reducible show ixP _ _); (first | refine p_ixLj 0 rfl rfl ?_ | refine p_ixLj 1 rfl rfl ?_ | refine p_ixLj 2 rfl rfl ?_ | refine p_ixLj 3 rfl rfl ?_ | refine p_ixTj 0 rfl rfl ?_ | refine p_ixTj 1 rfl rfl ?_ | refine p_ixTj 2 rfl rfl ?_ | refine p_ixTj 3 rfl rfl ?_))
  | ((with_reducible show inP _ _ _); (first | refine p_inS0 ?_ | refine p_inS1 ?_ | refine p_inI0 ?_ | refine p_inI1 ?_ | refine p_inD0 rfl ?_ | refine p_inD1 rfl ?_))
  | ((with_reducible show slP _ _ _ _); (first | refine p_slL ?_ | refine p_slF ?_))
  | ((with_reducible show sumP _ _); refine p_sum ?_)
  | ((with_reducible show maxP _ _); refine p_max2 ?_)
  | ((with_reducible show minP _ _); refine p_min2 ?_)
  | ((with_reducible show allP _ _); refine p_all ?_)
  | ((with_reducible show anyP _ _); refine p_any ?_))
local macro_rules | `(tactic| walk_at "s") => `(tactic| first
  | ((with_reducible show vDc _ _ _ _ _ _ _ _); refine u_dc ?_)
  | ((with_reducible show vDcK _ _ _ _ _ _ _ _); refine u_dcK rfl ?_)
  | ((with_reducible show kDcT _ _ _ _ _ _ _); refine k_dcTT ?_)
  | ((with_reducible show kDcK _ _ _ _ _ _); refine k_dcK ?_)
  | ((with_reducible show vDisp1 _ _ _ _); refine u_disp1 ?_)
  | ((with_reducible show kDisp1 _ _ _ _); refine k_disp1 ?_)
  | ((with_reducible show kDisp2 _ _ _ _); refine k_disp2 rfl rfl ?_)
  | ((with_reducible show vShR _ _ _); refine u_shR ?_)
  | ((with_reducible show kShR _ _ _); refine k_shR ?_)
  | ((with_reducible show vPutR _ _ _ _ _); refine u_putR ?_))
local macro_rules | `(tactic| walk_at "ss") => `(tactic| repeat walk_at "s")
local macro_rules | `(tactic| walk_at "back") => `(tactic| refine k_back ?_ (by dsimp only [takeBack, backS, List.set, List.getElem?_cons_zero, List.getElem?_cons_succ]))
def v_k11_right : VS :=
  vSeq (vSet 2 (vCall S_copied (vCons (vVal (vVar 1)) (vNil))))
    (vSeq (vSet 3 (vSh (vCall S_knots (vCons (vVal (vVar 1)) (vNil)))))
    (vSeq (vSet 4 (vCall S_knots_of (vCons (vVal (vVar 2)) (vNil))))
    (vSeq (vIf (vNot (vTru (vVal (vCallB 4 3 S_same)))) (vRet (vC (.bl false))) (vNext))
    (vSeq (vForApp 4 5 "zz")
    (vSeq (vExpr (vAppR 4 (vLst (vNil))))
    (vSeq (vIf (vNot (vTru (vVal (vCall S_same (vCons (vVal (vShR (vCall S_knots_of (vCons (vVal (vVar 2)) (vNil))))) (vCons (vVal (vVar 3)) (vNil))))))) (vRet (vC (.bl false))) (vNext))
    (vSeq (vFor (vItL (vCall S_k11_asked (vCons (vPk 0) (vCons (vVal (vVar 1)) (vNil))))) (gN 6) (vSeq (vSet 7 (vPrim listP (vCons (vPk 6) (vNil))))
    (vIf (vOr (vNot (vTru (vVal (vCall S_same (vCons (vVal (vSh (vCall S_least_ring (vCons (vVal (vVar 2)) (vCons (vVal (vVar 7)) (vNil)))))) (vCons (vVal (vSh (vCall S_lleast_ring (vCons (vVal (vVar 1)) (vCons (vVal (vVar 6)) (vNil)))))) (vNil))))))) (vT (vBin neP (vPk 7) (vPk 6)))) (vRet (vC (.bl false))) (vNext))))
    (vRet (vCall S_same (vCons (vVal (vVar 2)) (vCons (vVal (vVar 1)) (vNil))))))))))))
/-! ### one dict held against the law's ways -/
theorem sm_str {k : Nat} {x : Str} (h : SText x) : Sm k (.str x) := .str h.rp
theorem sm_sL {k : Nat} {ss : List Str} (h : ∀ x ∈ ss, SText x) (hl : ss.length < 1000000) : Sm (k + 1) (sL ss) := .lst (fun d hd => by
  obtain ⟨x, hx, rfl⟩ := List.mem_map.mp hd
  exact sm_str (h x hx)) (by rw [List.length_map]; exact hl)
theorem sm_lists {k : Nat} {F : List (List Str)} (h : ∀ ss ∈ F, (∀ x ∈ ss, SText x) ∧ ss.length < 1000000) (hl : F.length < 1000000) : Sm (k + 2) (.lst (F.map sL)) := .lst (fun d hd => by
  obtain ⟨x, hx, rfl⟩ := List.mem_map.mp hd
  exact sm_sL (h x hx).1 (h x hx).2) (by rw [List.length_map]; exact hl)
theorem sm_tup {k : Nat} {ss : List Str} (h : ∀ x ∈ ss, SText x) (hl : ss.length < 1000000) : Sm (k + 1) (tupD ss) := .tup (fun d hd => by
  obtain ⟨x, hx, rfl⟩ := List.mem_map.mp hd
  exact sm_str (h x hx)) (by rw [List.length_map]; exact hl)
theorem sm_encO {k : Nat} {o : Option (List Str)} (h : ∀ r, o = some r → (∀ x ∈ r, SText x) ∧ r.length < 1000000) : Sm (k + 1) (encO o) := by
  cases o with
  | none => exact .non
  | some r => exact sm_tup (h r rfl).1 (h r rfl).2
theorem sm_encG {k : Nat} {g : List (Str × List Str)} (ok : GOk g) : Sm (k + 2) (encG g) := .dct (fun kv hkv => by
  obtain ⟨p, hp, rfl⟩ := List.mem_map.mp hkv
  have hlk := look_own ok.nd p hp
  obtain ⟨U, hU, sm⟩ := ok.small
  have hpl : p.2.length ≤ 100 := by have := sm.len p.1; unfold getW at this; rw [hlk] at this; exact this
  exact sm_sL (fun x hx => (ok.tx p hp).2 x hx) (by omega)) (by rw [List.length_map]; have := ok.len; omega)
theorem key_tx {g : List (Str × List Str)} (ok : GOk g) {x : Str} (h : x ∈ keysG g) : SText x := by
  obtain ⟨p, hp, e⟩ := List.mem_map.mp h
  exact e ▸ (ok.tx p hp).1
theorem knots_D (F : List (List Str)) : rwD none (F.map fun k => k.map D.str) = .lst (F.map sL) := by
  show D.lst _ = _
  rw [List.map_map]; rfl
theorem knots_sm {g : List (Str × List Str)} (ok : GOk g) {k : Nat} : Sm (k + 2) (.lst ((theKnots g).map sL)) := by
  have hl := keys_len ok
  refine sm_lists (fun ss hss => ?_) (by have := knots_len (g := g); omega)
  obtain ⟨a, b⟩ := knots_each ok hss
  exact ⟨fun x hx => key_tx ok (b x hx), by have := nodup_le a b; omega⟩
theorem ring_mem {W : Str → List Str} {I r : List Str} {s : Str} (hs : s ∈ I) (h : Ring W I s r) : ∀ x ∈ r, x ∈ I := fun x hx => by
  obtain ⟨p, rfl, _, h2, _⟩ := h
  rcases List.mem_cons.mp hx with e | e
  · rw [e]; exact hs
  · exact (h2 x e).1
theorem p_neL {a b : List Str} {R : Ret → Prop} (ha : ∀ s ∈ a, PyData.strOk s = true) (hb : ∀ s ∈ b, PyData.strOk s = true) (h : R (.val (.bl (!decide (a = b))))) : neP [sL a, sL b] R := by
  have e : PyData.eqv (.list (a.map PyData.str)) (.list (b.map PyData.str)) = decide (a = b) := by unfold PyData.eqv; exact eqv_str a b
  refine ⟨_, _, toPy_sL a, toPy_sL b, shaped_of (by simp only [PyData.canLay0]; exact lay_str a ha) (by simp [PyData.depth, dep_str]), shaped_of (by simp only [PyData.canLay0]; exact lay_str b hb) (by simp [PyData.depth, dep_str]), ?_⟩
  rw [e]; exact h
def S_k11_right : VSp := fun ρs R _ => ∃ a b c g, ρs = [srcD a b c, .sh (encG g)] ∧ WOk g ∧ ∀ a' b' c', R (.sh (.bl true)) [srcD a' b' c', .sh (encG g)]
theorem rd_k11_right : Reads S_k11_right (fun _ => v_k11_right) 6 := fun ρs R _ h => by
  obtain ⟨a, b, c, g, rfl, wok, q⟩ := h
  have ok := wok.ok
  have hg6 := wok.six
  have kl : (keysG g).length = g.length := by unfold keysG; rw [List.length_map]
  have hkn := knots_len (g := g)
  unfold v_k11_right
  show vSeq _ _ _ [srcD a b c, .sh (encG g), .un, .un, .un, .un, .un, .un]
  walk_at "ss"
  refine k_call rfl ⟨g, rfl, ok, ?_⟩
  walk_at "back"
  walk_at "ss"
  refine k_call rfl ⟨g, rfl, ok, ?_⟩
  walk_at "back"
  walk_at "ss"
  refine k_call rfl ⟨g, rfl, ok, ?_⟩
  walk_at "back"
  walk_at "ss"
  refine u_callB rfl rfl ⟨.lst ((theKnots g).map sL), by rw [knots_D]; rfl, knots_sm ok, true, rfl, ?_⟩
  walk_at "ss"
  refine u_forApp rfl rfl rfl (by decide) (fun r hr => ?_) ?_
  · obtain ⟨k, hk, rfl⟩ := List.mem_map.mp hr
    obtain ⟨x1, x2⟩ := knots_each ok hk
    rw [List.length_map]
    exact small16 (by have := nodup_le x1 x2; omega)
  dsimp only [List.set]
  walk_at "ss"
  refine u_appR (.inl rfl) ?_
  walk_at "ss"
  refine k_appR (.inl rfl) (small16 (by rw [List.length_map, List.length_map]; omega)) ?_
  dsimp only [List.set]
  walk_at "ss"
  refine k_call rfl ⟨g, rfl, ok, ?_⟩
  walk_at "back"
  walk_at "ss"
  rw [knots_D]
  refine k_call rfl ⟨_, rfl, knots_sm ok, ?_⟩
  walk_at "back"
  walk_at "ss"
  refine k_call rfl ⟨a, b, c, g, rfl, wok, fun a b c Ls hLs hL => ?_⟩
  walk_at "back"
  walk_at "ss"
  refine k_for (fun j ρ => ∃ (a b c : Int) (rw : List (List D)) (n5 n6 n7 : Slot), ρ = [srcD a b c, .sh (encG g), .sh (encG g), .sh (.lst ((theKnots g).map sL)), .rw none rw, n5, n6, n7] ∧ Slot.free n5 = true ∧ Slot.free n6 = true ∧ Slot.free n7 = true) ⟨a, b, c, _, .un, .un, .un, rfl, rfl, rfl, rfl⟩ ?_ ?_
  · rintro j d ρ' hj ⟨a, b, c, rws, n5, n6, n7, rfl, f5, f6, f7⟩
    rw [List.getElem?_map] at hj
    obtain ⟨L, hLj, ed⟩ := Option.map_eq_some_iff.mp hj
    subst ed
    obtain ⟨l1, l2⟩ := hL L (List.mem_of_getElem? hLj)
    have lle := nodup_le l1 l2
    have iok : IOk L := ⟨l1, by omega⟩
    have few : Few g L := ⟨ok, iok, by omega, wok.sev, fun x hx => key_tx ok (l2 x hx)⟩
    refine u_gN rfl f6 ?_
    walk_at "ss"
    refine k_set rfl f7 ?_
    walk_at "ss"
    refine k_call rfl ⟨g, L, rfl, ok, iok, fun o1 hb1 ho1 => ?_⟩
    walk_at "back"
    walk_at "ss"
    refine k_call rfl ⟨g, L, rfl, few, fun o2 hb2 => ?_⟩
    walk_at "back"
    have eo := Best.uniq (fun _ => Iff.rfl) hb1 hb2
    subst eo
    walk_at "ss"
    refine k_call rfl ⟨encO o1, rfl, sm_encO fun r e => ?_, ?_⟩
    · subst e
      obtain ⟨s, hs, hr⟩ := hb1.1
      exact ⟨fun x hx => few.tx x (ring_mem hs hr x hx), by have := ho1 r rfl; omega⟩
    walk_at "back"
    walk_at "ss"
    refine p_neL (fun x hx => (few.tx x hx).ok) (fun x hx => (few.tx x hx).ok) ?_
    walk_at "ss"
    rw [decide_eq_true (rfl : L = L)]
    walk_at "ss"
    exact ⟨a, b, c, rws, n5, .sh (sL L), _, rfl, f5, rfl, rfl⟩
  · rintro ρ' ⟨a, b, c, rws, n5, n6, n7, rfl, f5, f6, f7⟩
    walk_at "ss"
    refine k_call rfl ⟨encG g, rfl, sm_encG ok, ?_⟩
    walk_at "back"
    exact q a b c
end WL

set_option Elab.async false
set_option linter.all false
set_option maxRecDepth 100000
set_option maxHeartbeats 4000000
namespace WL
open PySem PySem.Spec PyProof.Rows L2
local macro_rules | `(tactic| walk_at "s") => `(tactic| first
  | ((with_reducible show vSeq _ _ _ _); refine u_seq ?_)
  | ((with_reducible show vSet _ _ _ _); refine u_set ?_)
  | ((with_reducible show kSet _ _ _ _); refine k_set rfl rfl ?_)
  | ((with_reducible show vRet _ _ _); refine u_ret ?_)
  | ((with_reducible show vIf _ _ _ _ _); refine u_if ?_)
  | ((with_reducible show vExpr _ _ _); refine u_expr ?_)
  | ((with_reducible show kExpr _ _ _); refine k_expr ?_)
  | ((with_reducible show vRetN _ _); refine u_retN ?_)
  | ((with_reducible show vAsg _ _ _ _); refine u_asg ?_)
  | ((with_reducible show kAsg _ _ _ _); refine k_asg rfl ?_)
  | ((with_reducible show vNext _ _); refine u_next ?_)
  | ((with_reducible show vBreak _ _); refine u_break ?_)
  | ((with_reducible show vCont _ _); refine u_cont ?_)
  | ((with_reducible show kIf _ _ _ _ _); (first | refine k_ifT ?_ | refine k_ifF ?_))
  | ((with_reducible show vVal _ _ _); refine u_val ?_)
  | ((with_reducible show kVal _ _ _); refine k_val ?_)
  | ((with_reducible show vPk _ _ _); refine u_pk rfl rfl ?_)
  | ((with_reducible show vC _ _ _); refine u_c ?_)
  | ((with_reducible show vVar _ _ _); (first | refine u_var rfl ?_ | refine u_varL rfl ?_ | refine u_varD rfl ?_ | refine u_varE rfl ?_))
  | ((with_reducible show vMv _ _ _); (first | refine u_mv rfl ?_ | refine u_mvO rfl ?_))
  | ((with_reducible show vBin _ _ _ _ _); refine u_bin ?_)
  | ((with_reducible show kBin1 _ _ _ _ _); refine k_bin1 ?_)
  | ((with_reducible show kBin2 _ _ _ _ _); refine k_bin2 rfl rfl ?_)
  | ((with_reducible show vUn _ _ _ _); refine u_un ?_)
  | ((with_reducible show kUn _ _ _ _); refine k_un rfl ?_)
  | ((with_reducible show vCons _ _ _ _); refine u_cons ?_)
  | ((with_reducible show kCons1 _ _ _ _); refine k_cons1 ?_)
  | ((with_reducible show vNil _ _); refine u_nil ?_)
  | ((with_reducible show kCons2 _ _ _ _); refine k_cons2 ?_)
  | ((with_reducible show vPrim _ _ _ _); refine u_prim ?_)
  | ((with_reducible show kPrim _ _ _ _); (first | refine k_prim1 rfl ?_ | refine k_prim2 rfl rfl ?_))
  | ((with_reducible show kRet _ _ _); (first | refine k_retV ?_ | refine k_retL ?_ | refine k_retT ?_ | refine k_retD ?_))
  | ((with_reducible show vSh _ _ _); refine u_sh ?_)
  | ((with_reducible show kSh _ _ _); (first | refine k_sh ?_ | refine k_shL ?_ | refine k_shD ?_))
  | ((with_reducible show vT _ _ _); refine u_t ?_)
  | ((with_reducible show kT _ _ _); refine k_t ?_)
  | ((with_reducible show vTru _ _ _); refine u_tru ?_)
  | ((with_reducible show kTru _ _ _); refine k_tru rfl rfl ?_)
  | ((with_reducible show vAnd _ _ _ _); refine u_and ?_)
  | ((with_reducible show kAnd _ _ _ _); (first | refine k_andT ?_ | refine k_andF ?_))
  | ((with_reducible show vOr _ _ _ _); refine u_or ?_)
  | ((with_reducible show kOr _ _ _ _); (first | refine k_orT ?_ | refine k_orF ?_))
  | ((with_reducible show vNot _ _ _); refine u_not ?_)
  | ((with_reducible show kNot _ _ _); refine k_not ?_)
  | ((with_reducible show vAndV _ _ _ _); refine u_andV ?_)
  | ((with_reducible show kAndV _ _ _ _); (first | refine k_andVT ?_ | refine k_andVF ?_))
  | ((with_reducible show kOrV _ _ _ _); (first | refine k_orVT ?_ | refine k_orVF ?_))
  | ((with_reducible show vOrV _ _ _ _); refine u_orV ?_)
  | ((with_reducible show vNotV _ _ _); refine u_notV ?_)
  | ((with_reducible show kNotV _ _ _); refine k_notV ?_)
  | ((with_reducible show vIfE _ _ _ _ _); refine u_ifE ?_)
  | ((with_reducible show kIfE _ _ _ _ _); (first | refine k_ifET ?_ | refine k_ifEF ?_))
  | ((with_reducible show vLst _ _ _); refine u_lst ?_)
  | ((with_reducible show kLst _ _ _); refine k_lst rfl (by simp only [List.length_cons, List.length_nil]; decide) ?_)
  | ((with_reducible show vTup _ _ _); refine u_tup ?_)
  | ((with_reducible show kTup _ _ _); refine k_tup rfl (by simp only [List.length_cons, List.length_nil]; decide) ?_)
  | ((with_reducible show vNewD _ _); refine u_newD ?_)
  | ((with_reducible show vSl _ _ _ _ _); refine u_sl ?_)
  | ((with_reducible show kSl0 _ _ _ _ _); refine k_sl0 ?_)
  | ((with_reducible show kSl1 _ _ _ _ _); refine k_sl1 ?_)
  | ((with_reducible show kSl2 _ _ _ _ _); refine k_sl2 rfl ?_)
  | ((with_reducible show vNoPart _ _); refine u_noPart ?_)
  | ((with_reducible show vPart _ _ _); refine u_part ?_)
  | ((with_reducible show kPart _ _ _); refine k_part ?_)
  | ((with_reducible show vApp _ _ _ _); refine u_app rfl ?_)
  | ((with_reducible show vPopAt _ _ _ _); refine u_popAt rfl ?_)
  | ((with_reducible show vExt _ _ _ _); refine u_ext rfl ?_)
  | ((with_reducible show vM1 _ _ _ _ _); refine u_m1 ?_)
  | ((with_reducible show kM1a _ _ _ _ _); refine k_m1a rfl ?_)
  | ((with_reducible show kM1b _ _ _ _ _); refine k_m1b rfl rfl ?_)
  | ((with_reducible show vGet2 _ _ _ _ _); refine u_get2 ?_)
  | ((with_reducible show kGet1 _ _ _ _ _); refine k_get1 rfl ?_)
  | ((with_reducible show kGet2 _ _ _ _ _); refine k_get2 ?_)
  | ((with_reducible show vSetL _ _ _ _ _); refine u_setL ?_)
  | ((with_reducible show kSetL1 _ _ _ _ _); refine k_setL1 rfl ?_)
  | ((with_reducible show kSetL2 _ _ _ _ _); (first | refine k_setL2j 0 rfl rfl (by simp) rfl ?_ | refine k_setL2j 1 rfl rfl (by simp) rfl ?_ | refine k_setL2j 2 rfl rfl (by simp) rfl ?_))
  | ((with_reducible show vPutD _ _ _ _ _); refine u_putD ?_)
  | ((with_reducible show kPutD1 _ _ _ _ _); refine k_putD1 rfl ?_)
  | ((with_reducible show vAugL _ _ _ _ _ _); refine u_augL rfl ?_)
  | ((with_reducible show kAugL1 _ _ _ _ _ _); (first | refine k_augL1j 0 rfl rfl rfl ?_ | refine k_augL1j 1 rfl rfl rfl ?_ | refine k_augL1j 2 rfl rfl rfl ?_))
  | ((with_reducible show kAugL2 _ _ _ _ _ _ _); refine k_augL2j rfl (by simp) ?_)
  | ((with_reducible show vAug _ _ _ _ _); refine u_aug rfl ?_)
  | ((with_reducible show kAug _ _ _ _ _ _); (first | refine k_augAdd rfl ?_ | refine k_augSub rfl ?_))
  | ((with_reducible show vCall _ _ _ _); refine u_call ?_)
  | ((with_reducible show gN _ _ _ _); refine u_gN rfl rfl ?_)
  | ((with_reducible show gT _ _ _ _); refine u_gT rfl ?_)
  | ((with_reducible show gL _ _ _ _); refine u_gL rfl rfl ?_)
  | ((with_reducible show gTs _ _ _ _); (first | refine u_gTs0 ?_ | refine u_gTs ?_))
  | ((with_reducible show vItL _ _ _); refine u_itL ?_)
  | ((with_reducible show kItL _ _ _); refine k_itL rfl rfl ?_)
  | ((with_reducible show vItT _ _ _); refine u_itT ?_)
  | ((with_reducible show kItT _ _ _); refine k_itT rfl rfl ?_)
  | ((with_reducible show vItR1 _ _ _); refine u_itR1 ?_)
  | ((with_reducible show vItR2 _ _ _); refine u_itR2 ?_)
  | ((with_reducible show vFor _ _ _ _ _); refine u_for ?_)
  | ((with_reducible show vLc _ _ _ _ _ _ _); refine u_lc ?_)
  | ((with_reducible show vLcK _ _ _ _ _ _ _); refine u_lcK rfl ?_)
  | ((with_reducible show vYes _ _); refine u_yes ?_)
  | ((with_reducible show kLcT _ _ _ _ _ _); refine k_lcTT ?_)
  | ((with_reducible show addP _ _); refine p_addI ?_)
  | ((with_reducible show subP _ _); refine p_subI ?_)
  | ((with_reducible show mulP _ _); (first | refine p_mulI (.inl (.inl (by omega))) ?_ | refine p_mulI (.inl (.inr (by omega))) ?_))
  | ((with_reducible show modP _ _); refine p_modI (by omega) ?_)
  | ((with_reducible show divP _ _); refine p_divI (.inl (by constructor <;> omega)) ?_)
  | ((with_reducible show negP _ _); refine p_negI ?_)
  | ((with_reducible show ltP _ _); refine p_ltI ?_)
  | ((with_reducible show leP _ _); refine p_leI ?_)
  | ((with_reducible show gtP _ _); refine p_gtI ?_)
  | ((with_reducible show geP _ _); refine p_geI ?_)
  | ((with_reducible show eqP _ _); (first | refine p_eqI ?_ | refine p_eqS ?_ | refine p_eqB ?_ | refine p_eqN ?_))
  | ((with_reducible show neP _ _); (first | refine p_neI ?_ | refine p_neS ?_ | refine p_neB ?_))
  | ((with_reducible show isNP _ _); (first | refine p_isNn ?_ | refine p_isNi ?_ | refine p_isNs ?_ | refine p_isNb ?_ | refine p_isNl ?_ | refine p_isNt ?_ | refine p_isNd ?_))
  | ((with_reducible show notNP _ _); (first | refine p_notNn ?_ | refine p_notNi ?_ | refine p_notNs ?_ | refine p_notNb ?_ | refine p_notNl ?_ | refine p_notNt ?_ | refine p_notNd ?_))
  | ((with_reducible show isiP _ _); refine p_isi rfl rfl ?_)
  | ((with_reducible show isiTP _ _); refine p_isiT rfl rfl ?_)
  | ((with_reducible show reprP _ _); (first | refine p_reprB ?_ | refine p_reprN ?_))
  | ((with_reducible show lenP _ _); (first | refine p_lenL ?_ | refine p_lenF ?_ | refine p_lenT ?_ | refine p_lenD ?_))
  | ((with_reducible show absP _ _); refine p_absI ?_)
  | ((with_reducible show intP _ _); refine p_intI ?_)
  | ((with_reducible show listP _ _); (first | refine p_listL ?_ | refine p_listF ?_ | refine p_listD ?_))
  | ((with_reducible show ixP _ _); (first | refine p_ixLj 0 rfl rfl ?_ | refine p_ixLj 1 rfl rfl ?_ | refine p_ixLj 2 rfl rfl ?_ | refine p_ixLj 3 rfl rfl ?_ | refine p_ixTj 0 rfl rfl ?_ | refine p_ixTj 1 rfl rfl ?_ | refine p_ixTj 2 rfl rfl ?_ | refine p_ixTj 3 rfl rfl ?_))
  | ((with_reducible show inP _ _ _); (first | refine p_inS0 ?_ | refine p_inS1 ?_ | refine p_inI0 ?_ | refine p_inI1 ?_ | refine p_inD0 rfl ?_ | refine p_inD1 rfl ?_))
  | ((with_reducible show slP _ _ _ _); (first | refine p_slL ?_ | refine p_slF ?_))
  | ((with_reducible show sumP _ _); refine p_sum ?_)
  | ((with_reducible show maxP _ _); refine p_max2 ?_)
  | ((with_reducible show minP _ _); refine p_min2 ?_)
  | ((with_reducible show allP _ _); refine p_all ?_)
  | ((with_reducible show anyP _ _); refine p_any ?_))
local macro_rules | `(tactic| walk_at "s") => `(tactic| first
  | ((with_reducible show vDc _ _ _ _ _ _ _ _); refine u_dc ?_)
  | ((with_reducible show vDcK _ _ _ _ _ _ _ _); refine u_dcK rfl ?_)
  | ((with_reducible show kDcT _ _ _ _ _ _ _); refine k_dcTT ?_)
  | ((with_reducible show kDcK _ _ _ _ _ _); refine k_dcK ?_)
  | ((with_reducible show vDisp1 _ _ _ _); refine u_disp1 ?_)
  | ((with_reducible show kDisp1 _ _ _ _); refine k_disp1 ?_)
  | ((with_reducible show kDisp2 _ _ _ _); refine k_disp2 rfl rfl ?_)
  | ((with_reducible show vShR _ _ _); refine u_shR ?_)
  | ((with_reducible show kShR _ _ _); refine k_shR ?_)
  | ((with_reducible show vPutR _ _ _ _ _); refine u_putR ?_))
local macro_rules | `(tactic| walk_at "ss") => `(tactic| repeat walk_at "s")
local macro_rules | `(tactic| walk_at "back") => `(tactic| refine k_back ?_ (by dsimp only [takeBack, backS, List.set, List.getElem?_cons_zero, List.getElem?_cons_succ]))
/-! ### a long ring with one wait across -/
def Nx (ns : List Str) (h : 0 < ns.length) (i : Nat) : Str := ns[i % ns.length]'(Nat.mod_lt _ h)
structure Cyc (W : Str → List Str) (ns : List Str) (low high : Nat) : Prop where
  pos : 0 < ns.length
  nd : ns.Nodup
  lh : low ≤ high
  hn : high < ns.length
  ed : ∀ i y, y ∈ W (Nx ns pos i) ↔ y = Nx ns pos (i + 1) ∨ (i % ns.length = high ∧ y = Nx ns pos low)
section
variable {W : Str → List Str} {ns : List Str} {low high : Nat}
theorem Nx_mem {h : 0 < ns.length} {i : Nat} : Nx ns h i ∈ ns := List.getElem_mem _
theorem Nx_of {h : 0 < ns.length} {x : Str} (hx : x ∈ ns) : ∃ i, i < ns.length ∧ x = Nx ns h i := by
  obtain ⟨i, hi, e⟩ := List.mem_iff_getElem.mp hx
  exact ⟨i, hi, by unfold Nx; simp [Nat.mod_eq_of_lt hi, e]⟩
theorem nodup_idx {α : Type} {l : List α} (nd : l.Nodup) {i j : Nat} (hi : i < l.length) (hj : j < l.length) (e : l[i] = l[j]) : i = j := by
  rcases Nat.lt_trichotomy i j with h | h | h
  · exact absurd e (List.pairwise_iff_getElem.mp nd i j hi hj h)
  · exact h
  · exact absurd e.symm (List.pairwise_iff_getElem.mp nd j i hj hi h)
theorem Nx_inj {h : 0 < ns.length} (nd : ns.Nodup) {i j : Nat} (e : Nx ns h i = Nx ns h j) : i % ns.length = j % ns.length := nodup_idx nd _ _ e
theorem Nx_congr {h : 0 < ns.length} {i j : Nat} (e : i % ns.length = j % ns.length) : Nx ns h i = Nx ns h j := by unfold Nx; congr 1
theorem Cyc.step (c : Cyc W ns low high) (i k : Nat) : Rch W (Nx ns c.pos i) (Nx ns c.pos (i + k + 1)) := by
  induction k with
  | zero => exact .one ((c.ed i _).mpr (.inl rfl))
  | succ k ih => exact .step ih ((c.ed _ _).mpr (.inl rfl))
theorem Cyc.rch (c : Cyc W ns low high) {x y : Str} (hx : x ∈ ns) (hy : y ∈ ns) : Rch W x y := by
  obtain ⟨i, hi, rfl⟩ := Nx_of (h := c.pos) hx
  obtain ⟨j, hj, rfl⟩ := Nx_of (h := c.pos) hy
  have h := c.step i (ns.length + j - i - 1)
  have e : i + (ns.length + j - i - 1) + 1 = j + ns.length := by omega
  rw [e] at h
  rw [Nx_congr (i := j) (j := j + ns.length) (by simp)]
  exact h
theorem one_knot (hr : ∀ x ∈ ns, ∀ y ∈ ns, Rch W x y) (hne : ns ≠ []) : ∀ (l : List Str) (x : Str), (∀ y ∈ x :: l, y ∈ ns) → knotsF W ns (x :: l) = [sortS ns] := by
  intro l x hl
  have hk : ∀ y ∈ ns, knotF W ns y = sortS ns := fun y hy => by
    unfold knotF
    congr 1
    refine List.filter_eq_self.mpr fun z hz => ?_
    simp [hr y hy z hz, hr z hz y hy]
  have h1 : stepK W ns [] x = [sortS ns] := by
    unfold stepK
    rw [if_pos ⟨hr x (hl x (by simp)) x (hl x (by simp)), fun k hk => by cases hk⟩, hk x (hl x (by simp))]; rfl
  unfold knotsF
  rw [List.foldl_cons, h1]
  have g : ∀ l : List Str, (∀ y ∈ l, y ∈ ns) → l.foldl (stepK W ns) [sortS ns] = [sortS ns] := by
    intro l
    induction l with
    | nil => intro _; rfl
    | cons a r ih =>
      intro h
      rw [List.foldl_cons]
      have : stepK W ns [sortS ns] a = [sortS ns] := by
        unfold stepK
        rw [if_neg]
        rintro ⟨_, z⟩
        exact z (sortS ns) (by simp) (mem_sortS.mpr (h a (by simp)))
      rw [this]
      exact ih fun y hy => h y (List.mem_cons_of_mem _ hy)
  exact g l fun y hy => hl y (List.mem_cons_of_mem _ hy)
/-- the ring across, begun at its j-th name -/
def fC (ns : List Str) (h : 0 < ns.length) (low L j k : Nat) : Str := Nx ns h (low + (j + k) % L)
theorem mod_succ {a L : Nat} (hL : 0 < L) : (a % L + 1 < L ∧ (a + 1) % L = a % L + 1) ∨ (a % L + 1 = L ∧ (a + 1) % L = 0) := by
  have h1 := Nat.mod_lt a hL
  by_cases h : a % L + 1 < L
  · exact .inl ⟨h, by rw [Nat.add_mod]; by_cases hl : L = 1
                      · omega
                      · rw [Nat.mod_eq_of_lt (show 1 < L by omega), Nat.mod_eq_of_lt h]⟩
  · refine .inr ⟨by omega, ?_⟩
    have e : a % L + 1 = L := by omega
    rw [← Nat.mod_add_mod, e, Nat.mod_self]
theorem Cyc.fstep (c : Cyc W ns low high) (j k : Nat) : fC ns c.pos low (high - low + 1) j (k + 1) ∈ W (fC ns c.pos low (high - low + 1) j k) := by
  have hlh := c.lh
  unfold fC
  rw [c.ed]
  rcases mod_succ (a := j + k) (L := high - low + 1) (by omega) with ⟨h, e⟩ | ⟨h, e⟩
  · refine .inl ?_
    rw [← Nat.add_assoc j k 1, e]
    rfl
  · refine .inr ⟨?_, ?_⟩
    · have := c.hn
      rw [Nat.mod_eq_of_lt (by omega)]; omega
    · rw [← Nat.add_assoc j k 1, e]; rfl
/-- within the ring across there is one way on -/
theorem Cyc.funiq (c : Cyc W ns low high) {j k : Nat} {y : Str} (hy : y ∈ W (fC ns c.pos low (high - low + 1) j k)) (hm : ∃ t, t < high - low + 1 ∧ y = Nx ns c.pos (low + t)) : y = fC ns c.pos low (high - low + 1) j (k + 1) := by
  have hlh := c.lh
  have hhn := c.hn
  unfold fC at hy ⊢
  rw [c.ed] at hy
  have hml := Nat.mod_lt (j + k) (show 0 < high - low + 1 by omega)
  rcases mod_succ (a := j + k) (L := high - low + 1) (by omega) with ⟨h, e⟩ | ⟨h, e⟩
  · rw [← Nat.add_assoc j k 1, e]
    rcases hy with hy | ⟨hy, _⟩
    · exact hy
    · rw [Nat.mod_eq_of_lt (by omega)] at hy; omega
  · rw [← Nat.add_assoc j k 1, e]
    rcases hy with hy | ⟨_, hy⟩
    · obtain ⟨t, ht, et⟩ := hm
      rw [et] at hy
      have hh := Nx_inj c.nd hy
      rw [Nat.mod_eq_of_lt (show low + t < ns.length by omega)] at hh
      by_cases hz : low + (j + k) % (high - low + 1) + 1 < ns.length
      · rw [Nat.mod_eq_of_lt hz] at hh; omega
      · have : low + (j + k) % (high - low + 1) + 1 = ns.length := by omega
        rw [this, Nat.mod_self] at hh
        have : t = 0 := by omega
        rw [et, this]
    · exact hy
theorem ch_f {f : Nat → Str} (hf : ∀ k, f (k + 1) ∈ W (f k)) : ∀ (l a : Nat), Ch W (f (a + l + 1)) (f a) ((List.range l).map fun t => f (a + 1 + t))
  | 0, a => hf a
  | l + 1, a => by
    rw [List.range_succ_eq_map, List.map_cons, List.map_map]
    refine ⟨hf a, ?_⟩
    have h := ch_f hf l (a + 1)
    have e1 : a + 1 + l + 1 = a + (l + 1) + 1 := by omega
    have e2 : ((fun t => f (a + 1 + t)) ∘ Nat.succ) = fun t => f (a + 1 + 1 + t) := by
      funext t
      show f (a + 1 + (t + 1)) = _
      congr 1; omega
    rw [e1] at h
    rw [e2]
    exact h
theorem ch_det {f : Nat → Str} {s : Str} {M : Str → Prop} (hu : ∀ k y, y ∈ W (f k) → M y → y = f (k + 1)) : ∀ (p : List Str) (a : Nat), Ch W s (f a) p → (∀ y ∈ p, M y) → p = (List.range p.length).map fun t => f (a + 1 + t)
  | [], _, _, _ => rfl
  | y :: p, a, h, hm => by
    have e := hu a y h.1 (hm y (by simp))
    subst e
    have ih := ch_det hu p (a + 1) h.2 fun z hz => hm z (List.mem_cons_of_mem _ hz)
    rw [List.length_cons, List.range_succ_eq_map, List.map_cons, List.map_map]
    congr 1
    conv => lhs; rw [ih]
    refine List.map_congr_left fun t _ => ?_
    show f (a + 1 + 1 + t) = f (a + 1 + (t + 1))
    congr 1; omega
/-- in a ring each has a next -/
theorem Ring.succ {I r : List Str} {s : Str} (h : Ring W I s r) : ∀ x ∈ r, ∃ y ∈ r, y ∈ W x := by
  obtain ⟨p, rfl, hc, _, _⟩ := h
  have g : ∀ (p : List Str) (x : Str), Ch W s x p → ∀ z ∈ x :: p, ∃ y ∈ s :: p, y ∈ W z := by
    intro p
    induction p with
    | nil => intro x hc z hz; rw [List.mem_singleton.mp hz]; exact ⟨s, by simp, hc⟩
    | cons y p ih =>
      intro x hc z hz
      rcases List.mem_cons.mp hz with e | e
      · subst e; exact ⟨y, by simp, hc.1⟩
      · obtain ⟨w, h1, h2⟩ := ih y hc.2 z e
        refine ⟨w, ?_, h2⟩
        rcases List.mem_cons.mp h1 with e | e
        · simp [e]
        · simp [e]
  exact g p s hc
theorem sub_back {a b : List Str} (na : a.Nodup) (hab : ∀ x ∈ a, x ∈ b) (hl : b.length ≤ a.length) : ∀ x ∈ b, x ∈ a := fun x hx => by
  by_cases h : x ∈ a
  · exact h
  · have nd : (x :: a).Nodup := List.nodup_cons.mpr ⟨h, na⟩
    have := nodup_le nd (ys := b) fun y hy => by
      rcases List.mem_cons.mp hy with e | e
      · rw [e]; exact hx
      · exact hab y e
    rw [List.length_cons] at this
    omega
def segC (ns : List Str) (low high : Nat) : List Str := (ns.drop low).take (high - low + 1)
theorem segC_get (c : Cyc W ns low high) {t : Nat} (ht : t < high - low + 1) : (segC ns low high)[t]? = some (Nx ns c.pos (low + t)) := by
  have := c.lh
  have := c.hn
  unfold segC Nx
  have hl : low + t < ns.length := by omega
  simp only [Nat.mod_eq_of_lt hl]
  rw [List.getElem?_take_of_lt ht, List.getElem?_drop, List.getElem?_eq_getElem hl]
theorem segC_len (c : Cyc W ns low high) : (segC ns low high).length = high - low + 1 := by
  have := c.lh
  have := c.hn
  unfold segC
  rw [List.length_take, List.length_drop]; omega
theorem segC_nd (c : Cyc W ns low high) : (segC ns low high).Nodup := (c.nd.sublist (List.drop_sublist _ _)).sublist (List.take_sublist _ _)
theorem segC_mem (c : Cyc W ns low high) {x : Str} : x ∈ segC ns low high ↔ ∃ t, t < high - low + 1 ∧ x = Nx ns c.pos (low + t) := by
  constructor
  · intro h
    obtain ⟨t, ht⟩ := List.mem_iff_getElem?.mp h
    have hl := (List.getElem?_eq_some_iff.mp ht).1
    rw [segC_len c] at hl
    rw [segC_get c hl] at ht
    exact ⟨t, hl, (Option.some.inj ht).symm⟩
  · rintro ⟨t, ht, e⟩
    exact List.mem_iff_getElem?.mpr ⟨t, by rw [segC_get c ht, e]⟩
theorem turned_f (c : Cyc W ns low high) {j : Nat} (hj : j < high - low + 1) : (segC ns low high).drop j ++ (segC ns low high).take j = (List.range (high - low + 1)).map fun t => fC ns c.pos low (high - low + 1) j t := by
  have hl := segC_len c
  apply List.ext_getElem?
  intro k
  by_cases hk : k < high - low + 1
  · rw [List.getElem?_map, List.getElem?_range hk]
    show _ = some (Nx ns c.pos (low + (j + k) % (high - low + 1)))
    by_cases h : j + k < high - low + 1
    · rw [List.getElem?_append_left (by rw [List.length_drop, hl]; omega), List.getElem?_drop, segC_get c h, Nat.mod_eq_of_lt h]
    · have e : (j + k) % (high - low + 1) = j + k - (high - low + 1) := by
        rw [Nat.mod_eq_sub_mod (by omega), Nat.mod_eq_of_lt (by omega)]
      rw [List.getElem?_append_right (by rw [List.length_drop, hl]; omega), List.length_drop, hl, List.getElem?_take_of_lt (by omega), e]
      have e2 : k - (high - low + 1 - j) = j + k - (high - low + 1) := by omega
      rw [e2, segC_get c (by omega)]
  · rw [List.getElem?_eq_none (by simp [hl]; omega), List.getElem?_eq_none (by simp; omega)]
/-- the ring across is the least -/
theorem Cyc.best (c : Cyc W ns low high) {I : List Str} (hI : ∀ x, x ∈ I ↔ x ∈ ns) {o : Option (List Str)} (hb : Best W I I o) {j : Nat} {m : Str} (hj : (segC ns low high)[j]? = some m) (hm : ∀ y ∈ segC ns low high, ¬ slt y m) :
    o = some ((segC ns low high).drop j ++ (segC ns low high).take j) := by
  have hlh := c.lh
  have hhn := c.hn
  have hjl : j < high - low + 1 := by have := (List.getElem?_eq_some_iff.mp hj).1; rwa [segC_len c] at this
  have em : m = fC ns c.pos low (high - low + 1) j 0 := by
    rw [segC_get c hjl] at hj
    unfold fC
    rw [Nat.add_zero, Nat.mod_eq_of_lt hjl]
    exact (Option.some.inj hj).symm
  have hfm : ∀ k, fC ns c.pos low (high - low + 1) j k ∈ segC ns low high := fun k => (segC_mem c).mpr ⟨_, Nat.mod_lt _ (by omega), rfl⟩
  have segI : ∀ x ∈ segC ns low high, x ∈ I := fun x hx => (hI x).mpr (List.mem_of_mem_drop (List.mem_of_mem_take hx))
  rw [turned_f c hjl]
  have eT : (List.range (high - low + 1)).map (fun t => fC ns c.pos low (high - low + 1) j t) = m :: (List.range (high - low)).map fun t => fC ns c.pos low (high - low + 1) j (0 + 1 + t) := by
    rw [List.range_succ_eq_map, List.map_cons, List.map_map, em]
    congr 1
    refine List.map_congr_left fun t _ => ?_
    show fC ns c.pos low (high - low + 1) j (t + 1) = _
    congr 1; omega
  have ndT : ((List.range (high - low + 1)).map fun t => fC ns c.pos low (high - low + 1) j t).Nodup := by
    rw [← turned_f c hjl]
    have pm := List.perm_append_comm (l₁ := (segC ns low high).drop j) (l₂ := (segC ns low high).take j)
    rw [List.take_append_drop] at pm
    exact pm.nodup_iff.mpr (segC_nd c)
  have per : fC ns c.pos low (high - low + 1) j (0 + (high - low) + 1) = m := by
    rw [em]; unfold fC
    have : j + (0 + (high - low) + 1) = j + 0 + (high - low + 1) := by omega
    rw [this, Nat.add_mod_right]
  have ringT : Ring W I m ((List.range (high - low + 1)).map fun t => fC ns c.pos low (high - low + 1) j t) := by
    rw [eT]
    rw [eT] at ndT
    have nd := List.nodup_cons.mp ndT
    refine ⟨_, rfl, ?_, fun x hx => ?_, nd.2⟩
    · have h := ch_f (W := W) (f := fC ns c.pos low (high - low + 1) j) (c.fstep j) (high - low) 0
      rw [per, ← em] at h
      exact h
    · obtain ⟨t, _, rfl⟩ := List.mem_map.mp hx
      refine ⟨segI _ (hfm _), ?_⟩
      rcases slt_tri m (fC ns c.pos low (high - low + 1) j (0 + 1 + t)) with e | e | e
      · exact absurd (e ▸ hx) nd.1
      · exact e
      · exact absurd e (hm _ (hfm _))
  have lenT : ((List.range (high - low + 1)).map fun t => fC ns c.pos low (high - low + 1) j t).length = high - low + 1 := by simp
  have mI : m ∈ I := segI m (List.mem_of_getElem? hj)
  cases o with
  | none => exact absurd ringT (hb m mI _)
  | some r =>
    obtain ⟨⟨s, hs, hr⟩, hmin⟩ := hb
    have hrl : r.length ≤ high - low + 1 := by
      have := hmin m mI _ ringT
      unfold rlt at this
      rw [lenT] at this
      omega
    have rns : ∀ x ∈ r, x ∈ ns := fun x hx => (hI x).mp (ring_mem hs hr x hx)
    -- the ring comes to low
    have hlow : Nx ns c.pos low ∈ r := by
      by_cases hno : Nx ns c.pos low ∈ r
      · exact hno
      · have all : ∀ k i, Nx ns c.pos i ∈ r → Nx ns c.pos (i + k) ∈ r := by
          intro k
          induction k with
          | zero => intro i h; exact h
          | succ k ih =>
            intro i h
            obtain ⟨y, hy, hyW⟩ := hr.succ _ (ih i h)
            rcases (c.ed _ _).mp hyW with e | ⟨_, e⟩
            · rw [e] at hy; exact hy
            · rw [e] at hy; exact absurd hy hno
        obtain ⟨p, ep⟩ := hr.head
        have hsr : s ∈ r := by rw [ep]; simp
        obtain ⟨i, hi, ei⟩ := Nx_of (h := c.pos) (rns s hsr)
        rw [ei] at hsr
        have := all (ns.length + low - i) i hsr
        rw [Nx_congr (i := i + (ns.length + low - i)) (j := low) (by rw [show i + (ns.length + low - i) = low + ns.length by omega]; simp)] at this
        exact this
    have hall : ∀ t, t < high - low + 1 → Nx ns c.pos (low + t) ∈ r := by
      intro t
      induction t with
      | zero => intro _; exact hlow
      | succ t ih =>
        intro ht
        obtain ⟨y, hy, hyW⟩ := hr.succ _ (ih (by omega))
        rcases (c.ed _ _).mp hyW with e | ⟨e, _⟩
        · rw [e] at hy; exact hy
        · rw [Nat.mod_eq_of_lt (by omega)] at e; omega
    have sub : ∀ x ∈ segC ns low high, x ∈ r := fun x hx => by
      obtain ⟨t, ht, e⟩ := (segC_mem c).mp hx
      rw [e]; exact hall t ht
    have back := sub_back (segC_nd c) sub (by rw [segC_len c]; exact hrl)
    have hle := nodup_le (segC_nd c) sub
    rw [segC_len c] at hle
    obtain ⟨p, rfl, hc, ha, nd⟩ := hr
    have es : s = m := by
      rcases slt_tri s m with e | e | e
      · exact e
      · exact absurd e (hm s (back s (by simp)))
      · have hmr := sub m (List.mem_of_getElem? hj)
        rcases List.mem_cons.mp hmr with z | z
        · exact z.symm
        · exact absurd e (slt_asym (ha m z).2)
    subst es
    have hlen : p.length = high - low := by
      simp only [List.length_cons] at hrl hle
      omega
    rw [em] at hc
    have := ch_det (W := W) (f := fC ns c.pos low (high - low + 1) j) (M := fun y => ∃ t, t < high - low + 1 ∧ y = Nx ns c.pos (low + t)) (fun k y h1 h2 => c.funiq h1 h2) p 0 hc fun y hy => (segC_mem c).mp (back y (List.mem_cons_of_mem _ hy))
    rw [hlen] at this
    rw [eT, ← this]
end
end WL

set_option Elab.async false
set_option linter.all false
set_option maxRecDepth 100000
set_option maxHeartbeats 4000000
namespace WL
open PySem PySem.Spec PyProof.Rows L2
local macro_rules | `(tactic| walk_at "s") => `(tactic| first
  | ((with_reducible show vSeq _ _ _ _); refine u_seq ?_)
  | ((with_reducible show vSet _ _ _ _); refine u_set ?_)
  | ((with_reducible show kSet _ _ _ _); refine k_set rfl rfl ?_)
  | ((with_reducible show vRet _ _ _); refine u_ret ?_)
  | ((with_reducible show vIf _ _ _ _ _); refine u_if ?_)
  | ((with_reducible show vExpr _ _ _); refine u_expr ?_)
  | ((with_reducible show kExpr _ _ _); refine k_expr ?_)
  | ((with_reducible show vRetN _ _); refine u_retN ?_)
  | ((with_reducible show vAsg _ _ _ _); refine u_asg ?_)
  | ((with_reducible show kAsg _ _ _ _); refine k_asg rfl ?_)
  | ((with_reducible show vNext _ _); refine u_next ?_)
  | ((with_reducible show vBreak _ _); refine u_break ?_)
  | ((with_reducible show vCont _ _); refine u_cont ?_)
  | ((with_reducible show kIf _ _ _ _ _); (first | refine k_ifT ?_ | refine k_ifF ?_))
  | ((with_reducible show vVal _ _ _); refine u_val ?_)
  | ((with_reducible show kVal _ _ _); refine k_val ?_)
  | ((with_reducible show vPk _ _ _); refine u_pk rfl rfl ?_)
  | ((with_reducible show vC _ _ _); refine u_c ?_)
  | ((with_reducible show vVar _ _ _); (first | refine u_var rfl ?_ | refine u_varL rfl ?_ | refine u_varD rfl ?_ | refine u_varE rfl ?_))
  | ((with_reducible show vMv _ _ _); (first | refine u_mv rfl ?_ | refine u_mvO rfl ?_))
  | ((with_reducible show vBin _ _ _ _ _); refine u_bin ?_)
  | ((with_reducible show kBin1 _ _ _ _ _); refine k_bin1 ?_)
  | ((with_reducible show kBin2 _ _ _ _ _); refine k_bin2 rfl rfl ?_)
  | ((with_reducible show vUn _ _ _ _); refine u_un ?_)
  | ((with_reducible show kUn _ _ _ _); refine k_un rfl ?_)
  | ((with_reducible show vCons _ _ _ _); refine u_cons ?_)
  | ((with_reducible show kCons1 _ _ _ _); refine k_cons1 ?_)
  | ((with_reducible show vNil _ _); refine u_nil ?_)
  | ((with_reducible show kCons2 _ _ _ _); refine k_cons2 ?_)
  | ((with_reducible show vPrim _ _ _ _); refine u_prim ?_)
  | ((with_reducible show kPrim _ _ _ _); (first | refine k_prim1 rfl ?_ | refine k_prim2 rfl rfl ?_))
  | ((with_reducible show kRet _ _ _); (first | refine k_retV ?_ | refine k_retL ?_ | refine k_retT ?_ | refine k_retD ?_))
  | ((with_reducible show vSh _ _ _); refine u_sh ?_)
  | ((with_reducible show kSh _ _ _); (first | refine k_sh ?_ | refine k_shL ?_ | refine k_shD ?_))
  | ((with_reducible show vT _ _ _); refine u_t ?_)
  | ((with_reducible show kT _ _ _); refine k_t ?_)
  | ((with_reducible show vTru _ _ _); refine u_tru ?_)
  | ((with_reducible show kTru _ _ _); refine k_tru rfl rfl ?_)
  | ((with_reducible show vAnd _ _ _ _); refine u_and ?_)
  | ((with_reducible show kAnd _ _ _ _); (first | refine k_andT ?_ | refine k_andF ?_))
  | ((with_reducible show vOr _ _ _ _); refine u_or ?_)
  | ((with_reducible show kOr _ _ _ _); (first | refine k_orT ?_ | refine k_orF ?_))
  | ((with_reducible show vNot _ _ _); refine u_not ?_)
  | ((with_reducible show kNot _ _ _); refine k_not ?_)
  | ((with_reducible show vAndV _ _ _ _); refine u_andV ?_)
  | ((with_reducible show kAndV _ _ _ _); (first | refine k_andVT ?_ | refine k_andVF ?_))
  | ((with_reducible show kOrV _ _ _ _); (first | refine k_orVT ?_ | refine k_orVF ?_))
  | ((with_reducible show vOrV _ _ _ _); refine u_orV ?_)
  | ((with_reducible show vNotV _ _ _); refine u_notV ?_)
  | ((with_reducible show kNotV _ _ _); refine k_notV ?_)
  | ((with_reducible show vIfE _ _ _ _ _); refine u_ifE ?_)
  | ((with_reducible show kIfE _ _ _ _ _); (first | refine k_ifET ?_ | refine k_ifEF ?_))
  | ((with_reducible show vLst _ _ _); refine u_lst ?_)
  | ((with_reducible show kLst _ _ _); refine k_lst rfl (by simp only [List.length_cons, List.length_nil]; decide) ?_)
  | ((with_reducible show vTup _ _ _); refine u_tup ?_)
  | ((with_reducible show kTup _ _ _); refine k_tup rfl (by simp only [List.length_cons, List.length_nil]; decide) ?_)
  | ((with_reducible show vNewD _ _); refine u_newD ?_)
  | ((with_reducible show vSl _ _ _ _ _); refine u_sl ?_)
  | ((with_reducible show kSl0 _ _ _ _ _); refine k_sl0 ?_)
  | ((with_reducible show kSl1 _ _ _ _ _); refine k_sl1 ?_)
  | ((with_reducible show kSl2 _ _ _ _ _); refine k_sl2 rfl ?_)
  | ((with_reducible show vNoPart _ _); refine u_noPart ?_)
  | ((with_reducible show vPart _ _ _); refine u_part ?_)
  | ((with_reducible show kPart _ _ _); refine k_part ?_)
  | ((with_reducible show vApp _ _ _ _); refine u_app rfl ?_)
  | ((with_reducible show vPopAt _ _ _ _); refine u_popAt rfl ?_)
  | ((with_reducible show vExt _ _ _ _); refine u_ext rfl ?_)
  | ((with_reducible show vM1 _ _ _ _ _); refine u_m1 ?_)
  | ((with_reducible show kM1a _ _ _ _ _); refine k_m1a rfl ?_)
  | ((with_reducible show kM1b _ _ _ _ _); refine k_m1b rfl rfl ?_)
  | ((with_reducible show vGet2 _ _ _ _ _); refine u_get2 ?_)
  | ((with_reducible show kGet1 _ _ _ _ _); refine k_get1 rfl ?_)
  | ((with_reducible show kGet2 _ _ _ _ _); refine k_get2 ?_)
  | ((with_reducible show vSetL _ _ _ _ _); refine u_setL ?_)
  | ((with_reducible show kSetL1 _ _ _ _ _); refine k_setL1 rfl ?_)
  | ((with_reducible show kSetL2 _ _ _ _ _); (first | refine k_setL2j 0 rfl rfl (by simp) rfl ?_ | refine k_setL2j 1 rfl rfl (by simp) rfl ?_ | refine k_setL2j 2 rfl rfl (by simp) rfl ?_))
  | ((with_reducible show vPutD _ _ _ _ _); refine u_putD ?_)
  | ((with_reducible show kPutD1 _ _ _ _ _); refine k_putD1 rfl ?_)
  | ((with_reducible show vAugL _ _ _ _ _ _); refine u_augL rfl ?_)
  | ((with_reducible show kAugL1 _ _ _ _ _ _); (first | refine k_augL1j 0 rfl rfl rfl ?_ | refine k_augL1j 1 rfl rfl rfl ?_ | refine k_augL1j 2 rfl rfl rfl ?_))
  | ((with_reducible show kAugL2 _ _ _ _ _ _ _); refine k_augL2j rfl (by simp) ?_)
  | ((with_reducible show vAug _ _ _ _ _); refine u_aug rfl ?_)
  | ((with_reducible show kAug _ _ _ _ _ _); (first | refine k_augAdd rfl ?_ | refine k_augSub rfl ?_))
  | ((with_reducible show vCall _ _ _ _); refine u_call ?_)
  | ((with_reducible show gN _ _ _ _); refine u_gN rfl rfl ?_)
  | ((with_reducible show gT _ _ _ _); refine u_gT rfl ?_)
  | ((with_reducible show gL _ _ _ _); refine u_gL rfl rfl ?_)
  | ((with_reducible show gTs _ _ _ _); (first | refine u_gTs0 ?_ | refine u_gTs ?_))
  | ((with_reducible show vItL _ _ _); refine u_itL ?_)
  | ((with_reducible show kItL _ _ _); refine k_itL rfl rfl ?_)
  | ((with_reducible show vItT _ _ _); refine u_itT ?_)
  | ((with_reducible show kItT _ _ _); refine k_itT rfl rfl ?_)
  | ((with_reducible show vItR1 _ _ _); refine u_itR1 ?_)
  | ((with_reducible show vItR2 _ _ _); refine u_itR2 ?_)
  | ((with_reducible show vFor _ _ _ _ _); refine u_for ?_)
  | ((with_reducible show vLc _ _ _ _ _ _ _); refine u_lc ?_)
  | ((with_reducible show vLcK _ _ _ _ _ _ _); refine u_lcK rfl ?_)
  | ((with_reducible show vYes _ _); refine u_yes ?_)
  | ((with_reducible show kLcT _ _ _ _ _ _); refine k_lcTT ?_)
  | ((with_reducible show addP _ _); refine p_addI ?_)
  | ((with_reducible show subP _ _); refine p_subI ?_)
  | ((with_reducible show mulP _ _); (first | refine p_mulI (.inl (.inl (by omega))) ?_ | refine p_mulI (.inl (.inr (by omega))) ?_))
  | ((with_reducible show modP _ _); refine p_modI (by omega) ?_)
  | ((with_reducible show divP _ _); refine p_divI (.inl (by constructor <;> omega)) ?_)
  | ((with_reducible show negP _ _); refine p_negI ?_)
  | ((with_reducible show ltP _ _); refine p_ltI ?_)
  | ((with_reducible show leP _ _); refine p_leI ?_)
  | ((with_reducible show gtP _ _); refine p_gtI ?_)
  | ((with_reducible show geP _ _); refine p_geI ?_)
  | ((with_reducible show eqP _ _); (first | refine p_eqI ?_ | refine p_eqS ?_ | refine p_eqB ?_ | refine p_eqN ?_))
  | ((with_reducible show neP _ _); (first | refine p_neI ?_ | refine p_neS ?_ | refine p_neB ?_))
  | ((with_reducible show isNP _ _); (first | refine p_isNn ?_ | refine p_isNi ?_ | refine p_isNs ?_ | refine p_isNb ?_ | refine p_isNl ?_ | refine p_isNt ?_ | refine p_isNd ?_))
  | ((with_reducible show notNP _ _); (first | refine p_notNn ?_ | refine p_notNi ?_ | refine p_notNs ?_ | refine p_notNb ?_ | refine p_notNl ?_ | refine p_notNt ?_ | refine p_notNd ?_))
  | ((with_reducible show isiP _ _); refine p_isi rfl rfl ?_)
  | ((with_reducible show isiTP _ _); refine p_isiT rfl rfl ?_)
  | ((with_reducible show reprP _ _); (first | refine p_reprB ?_ | refine p_reprN ?_))
  | ((with_reducible show lenP _ _); (first | refine p_lenL ?_ | refine p_lenF ?_ | refine p_lenT ?_ | refine p_lenD ?_))
  | ((with_reducible show absP _ _); refine p_absI ?_)
  | ((with_reducible show intP _ _); refine p_intI ?_)
  | ((with_reducible show listP _ _); (first | refine p_listL ?_ | refine p_listF ?_ | refine p_listD ?_))
  | ((with_reducible show ixP _ _); (first | refine p_ixLj 0 rfl rfl ?_ | refine p_ixLj 1 rfl rfl ?_ | refine p_ixLj 2 rfl rfl ?_ | refine p_ixLj 3 rfl rfl ?_ | refine p_ixTj 0 rfl rfl ?_ | refine p_ixTj 1 rfl rfl ?_ | refine p_ixTj 2 rfl rfl ?_ | refine p_ixTj 3 rfl rfl ?_))
  | ((with_reducible show inP _ _ _); (first | refine p_inS0 ?_ | refine p_inS1 ?_ | refine p_inI0 ?_ | refine p_inI1 ?_ | refine p_inD0 rfl ?_ | refine p_inD1 rfl ?_))
  | ((with_reducible show slP _ _ _ _); (first | refine p_slL ?_ | refine p_slF ?_))
  | ((with_reducible show sumP _ _); refine p_sum ?_)
  | ((with_reducible show maxP _ _); refine p_max2 ?_)
  | ((with_reducible show minP _ _); refine p_min2 ?_)
  | ((with_reducible show allP _ _); refine p_all ?_)
  | ((with_reducible show anyP _ _); refine p_any ?_))
local macro_rules | `(tactic| walk_at "s") => `(tactic| first
  | ((with_reducible show vDc _ _ _ _ _ _ _ _); refine u_dc ?_)
  | ((with_reducible show vDcK _ _ _ _ _ _ _ _); refine u_dcK rfl ?_)
  | ((with_reducible show kDcT _ _ _ _ _ _ _); refine k_dcTT ?_)
  | ((with_reducible show kDcK _ _ _ _ _ _); refine k_dcK ?_)
  | ((with_reducible show vDisp1 _ _ _ _); refine u_disp1 ?_)
  | ((with_reducible show kDisp1 _ _ _ _); refine k_disp1 ?_)
  | ((with_reducible show kDisp2 _ _ _ _); refine k_disp2 rfl rfl ?_)
  | ((with_reducible show vShR _ _ _); refine u_shR ?_)
  | ((with_reducible show kShR _ _ _); refine k_shR ?_)
  | ((with_reducible show vPutR _ _ _ _ _); refine u_putR ?_))
local macro_rules | `(tactic| walk_at "ss") => `(tactic| repeat walk_at "s")
local macro_rules | `(tactic| walk_at "back") => `(tactic| refine k_back ?_ (by dsimp only [takeBack, backS, List.set, List.getElem?_cons_zero, List.getElem?_cons_succ]))
def v_k11_long : VS :=
  vSeq (vSet 2 (vSh (vCall S_names (vCons (vPk 0) (vCons (vVal (vSh (vBin addP (vVal (vC (.int 7))) (vVal (vCall S_pick (vCons (vPk 0) (vCons (vVal (vC (.int 24))) (vNil)))))))) (vCons (vVal (vVar 1)) (vNil)))))))
    (vSeq (vSet 3 (vPrim lenP (vCons (vPk 2) (vNil))))
    (vSeq (vSet 4 (vNewD))
    (vSeq (vFor (vItR1 (vCons (vPk 3) (vNil))) (gN 5) (vPutR 4 (vBin ixP (vPk 2) (vPk 5)) (vLst (vCons (vVal (vBin ixP (vPk 2) (vVal (vIfE (vT (vBin ltP (vVal (vBin addP (vPk 5) (vVal (vC (.int 1))))) (vPk 3))) (vBin addP (vPk 5) (vVal (vC (.int 1)))) (vC (.int 0)))))) (vNil)))))
    (vSeq (vSet 6 (vCall S_pick (vCons (vPk 0) (vCons (vVal (vVar 3)) (vNil)))))
    (vSeq (vSet 7 (vBin addP (vPk 6) (vVal (vCall S_pick (vCons (vPk 0) (vCons (vVal (vSh (vBin subP (vPk 3) (vPk 6)))) (vNil)))))))
    (vSeq (vAlias 4 8 2 6 (vBin ixP (vPk 2) (vPk 7)))
    (vSeq (vSet 9 (vSl (vPk 2) (vPart (vVar 6)) (vPart (vBin addP (vPk 7) (vVal (vC (.int 1)))))))
    (vSeq (vIf (vNot (vTru (vVal (vCall S_same (vCons (vVal (vShR (vCall S_knots_of (vCons (vVal (vVarR 4)) (vNil))))) (vCons (vVal (vSh (vLst (vCons (vVal (vPrim sortedP (vCons (vPk 2) (vNil)))) (vNil))))) (vNil))))))) (vRet (vC (.bl false))) (vNext))
    (vRet (vCall S_same (vCons (vVal (vSh (vCall S_least_ring (vCons (vVal (vVarR 4)) (vCons (vVal (vSh (vPrim sortedP (vCons (vPk 2) (vNil))))) (vNil)))))) (vCons (vVal (vSh (vCall S_k11_turned (vCons (vVal (vVar 9)) (vNil))))) (vNil)))))))))))))
/-! ### the drawn long ring -/
theorem lookup_zip : ∀ {ns : List Str} {rs : List (List Str)} {i : Nat} {x : Str} {l : List Str}, ns.Nodup → ns[i]? = some x → rs[i]? = some l → (ns.zip rs).lookup x = some l
  | [], _, _, _, _, _, h, _ => by simp at h
  | _ :: _, [], _, _, _, _, _, h => by simp at h
  | n :: ns, r :: rs, 0, x, l, _, h1, h2 => by
    simp at h1 h2; subst h1; subst h2
    rw [List.zip_cons_cons, List.lookup_cons]; simp
  | n :: ns, r :: rs, i + 1, x, l, nd, h1, h2 => by
    have nd' := List.nodup_cons.mp nd
    have hx : x ∈ ns := List.mem_of_getElem? (show ns[i]? = some x by simpa using h1)
    have hne : x ≠ n := fun z => nd'.1 (z ▸ hx)
    have e2 : (x == n) = false := by simp [hne]
    rw [List.zip_cons_cons, List.lookup_cons, e2]
    exact lookup_zip nd'.2 (by simpa using h1) (by simpa using h2)
theorem encG_zip (ns : List Str) (rs : List (List Str)) : rwD (some (ns.map Sum.inr)) (rs.map fun r => r.map D.str) = encG (ns.zip rs) := by
  show D.dct _ = D.dct _
  rw [List.map_map]
  congr 1
  rw [List.zip_map]
  rfl
theorem keys_zip {ns : List Str} {rs : List (List Str)} (h : ns.length = rs.length) : keysG (ns.zip rs) = ns := by unfold keysG; rw [List.map_fst_zip (by omega)]
/-- the rows behind the loop -/
def rows0 (ns : List Str) (h : 0 < ns.length) : List (List Str) := (List.range ns.length).map fun i => [Nx ns h (i + 1)]
theorem rows0_len {ns : List Str} {h : 0 < ns.length} : (rows0 ns h).length = ns.length := by unfold rows0; simp
theorem rows0_get {ns : List Str} {h : 0 < ns.length} {i : Nat} (hi : i < ns.length) : (rows0 ns h)[i]? = some [Nx ns h (i + 1)] := by unfold rows0; rw [List.getElem?_map, List.getElem?_range hi]; rfl
theorem Nx_get {ns : List Str} {h : 0 < ns.length} {i : Nat} (hi : i < ns.length) : ns[i]? = some (Nx ns h i) := by
  unfold Nx
  simp [Nat.mod_eq_of_lt hi, hi]
theorem cyc_of {ns : List Str} (h : 0 < ns.length) (nd : ns.Nodup) {low high : Nat} (hlh : low ≤ high) (hh : high < ns.length) {rs : List (List Str)} (hrs : (Nx ns h low = Nx ns h (high + 1) ∧ rs = rows0 ns h) ∨ rs = (rows0 ns h).set high [Nx ns h (high + 1), Nx ns h low]) : Cyc (getW (ns.zip rs)) ns low high := by
  have hl : rs.length = ns.length := by rcases hrs with ⟨_, e⟩ | e <;> rw [e] <;> simp [rows0_len]
  refine ⟨h, nd, hlh, hh, fun i y => ?_⟩
  have hm := Nat.mod_lt i h
  have e1 : Nx ns h i = Nx ns h (i % ns.length) := Nx_congr (by simp)
  have e2 : Nx ns h (i + 1) = Nx ns h (i % ns.length + 1) := Nx_congr (by rw [Nat.mod_add_mod])
  have hget : ∀ l, rs[i % ns.length]? = some l → getW (ns.zip rs) (Nx ns h i) = l := fun l hl' => by
    unfold getW
    rw [e1, lookup_zip nd (Nx_get hm) hl']; rfl
  rw [e2]
  rcases hrs with ⟨e, er⟩ | er
  · rw [hget [Nx ns h (i % ns.length + 1)] (by rw [er]; exact rows0_get hm), List.mem_singleton]
    constructor
    · exact .inl
    · rintro (z | ⟨z1, z2⟩)
      · exact z
      · rw [z2, e, z1]
  · by_cases hi : i % ns.length = high
    · rw [hget [Nx ns h (high + 1), Nx ns h low] (by rw [er, hi, List.getElem?_set_self (by rw [rows0_len]; exact hh)]), hi]
      simp
    · rw [hget [Nx ns h (i % ns.length + 1)] (by rw [er, List.getElem?_set_ne (Ne.symm hi)]; exact rows0_get hm), List.mem_singleton]
      exact ⟨.inl, fun z => z.elim id fun w => absurd w.1 hi⟩
theorem gok_of {ns : List Str} (h : 0 < ns.length) {n : Nat} (nok : NamesOk ns n) (hn : ns.length ≤ 40) {rs : List (List Str)} (hl : rs.length = ns.length) (hr : ∀ r ∈ rs, r.length ≤ 2 ∧ ∀ x ∈ r, x ∈ ns) : GOk (ns.zip rs) := by
  have hp : ∀ p ∈ ns.zip rs, p.1 ∈ ns ∧ p.2 ∈ rs := fun p hp => List.of_mem_zip (a := p.1) (b := p.2) hp
  refine ⟨by rw [keys_zip hl.symm]; exact nok.nd, by rw [List.length_zip]; omega, fun p h' => ⟨nok.tx _ (hp p h').1, fun x hx => nok.tx x ((hr _ (hp p h').2).2 x hx)⟩, ns, by omega, fun m x hx => ?_, fun m => ?_⟩
  · rcases getW_cases (ns.zip rs) m with z | ⟨p, h1, _, h3⟩
    · rw [z] at hx; cases hx
    · rw [← h3] at hx; exact (hr _ (hp p h1).2).2 x hx
  · rcases getW_cases (ns.zip rs) m with z | ⟨p, h1, _, h3⟩
    · rw [z]; simp
    · rw [← h3]; have := (hr _ (hp p h1).2).1; omega
theorem knots_cyc {ns : List Str} {rs : List (List Str)} {low high : Nat} (hl : ns.length = rs.length) (c : Cyc (getW (ns.zip rs)) ns low high) : theKnots (ns.zip rs) = [sortS ns] := by
  unfold theKnots
  rw [keys_zip hl]
  have hne : ns ≠ [] := List.length_pos_iff.mp c.pos
  cases e : sortS ns with
  | nil =>
    have := (sortS_perm ns).length_eq
    rw [e] at this
    exact absurd this.symm (by have := c.pos; simp; omega)
  | cons x l =>
    have := one_knot (W := getW (ns.zip rs)) (fun x hx y hy => c.rch hx hy) hne l x fun y hy => by
      rw [← e] at hy; exact mem_sortS.mp hy
    rw [this, e]
theorem u_alias {nx bk ct : Rho → Prop} {rt : Slot → Rho → Prop} {ρ : Rho} {w r a b : Nat} {tk : VE} {kd : D} {key : Key} {ks : List Key} {rows : List (List D)} {j : Nat} {ss : List Str} {s0 : Slot} {na : List D} {nb : Int} {x : Str} (hw : ρ[w]? = some (.rw (some ks) rows)) (htk : ∀ Q : VK0, Q (.sh kd) ρ → tk ρ Q) (hkey : keyD kd = some key) (nd : ks.Nodup) (hj : ks[j]? = some key) (hrow : rows[j]? = some (ss.map D.str))
    (er : ρ[r]? = some s0) (fr : s0.free = true) (hwr : w ≠ r) (har : a ≠ r) (hbr : b ≠ r) (hsz : ss.length < sizeLine) (ea : ρ[a]? = some (.sh (.lst na))) (eb : ρ[b]? = some (.sh (.int nb))) (hx : L2.atI na nb = some (.str x))
    (h : ∀ rows', ((x ∈ ss ∧ rows' = rows) ∨ rows' = rows.set j (ss.map D.str ++ [.str x])) → nx ((ρ.set r .un).set w (.rw (some ks) rows'))) : vAlias w r a b tk (.mk nx rt bk ct) ρ := by
  refine ⟨⟨ks, rows, hw⟩, htk _ ⟨kd, key, ks, rows, j, ss.map D.str, ss, s0, na, nb, x, rfl, hkey, hw, nd, hj, hrow, rfl, er, fr, hwr, har, hbr, by rw [List.length_map]; exact hsz, ea, eb, hx, fun hin => ?_, fun hno => h _ (.inr rfl)⟩⟩
  have := h rows (.inl ⟨hin, rfl⟩)
  rw [set_self (by rw [List.getElem?_set_ne (Ne.symm hwr)]; exact hw)] at this
  exact this
def S_k11_long : VSp := fun ρs R _ => ∃ a b c before, ρs = [srcD a b c, .sh (.int before)] ∧ 0 ≤ before ∧ before ≤ 100 ∧ ∀ a' b' c', R (.sh (.bl true)) [srcD a' b' c', .sh (.int before)]
theorem rd_k11_long : Reads S_k11_long (fun _ => v_k11_long) 8 := fun ρs R _ h => by
  obtain ⟨a, b, c, before, rfl, b0, b1, q⟩ := h
  unfold v_k11_long
  show vSeq _ _ _ [srcD a b c, .sh (.int before), .un, .un, .un, .un, .un, .un, .un, .un]
  walk_at "ss"
  refine k_call rfl ⟨a, b, c, 24, rfl, by decide, by decide, fun a b c n n0 n1 => ?_⟩
  walk_at "back"
  walk_at "ss"
  refine k_call rfl ⟨a, b, c, 7 + n, before, rfl, by omega, by omega, by omega, by omega, fun a b c st m tl ws h1 h2 h3 h4 h5 hp => ?_⟩
  have nok : NamesOk (ws.map SX.S) (7 + n).toNat := names_ok h1 (by omega) h4 h5 (by omega) hp
  revert nok
  generalize ws.map SX.S = ns
  intro nok
  have nl := nok.len
  have hpos : 0 < ns.length := by omega
  have hn40 : ns.length ≤ 30 := by omega
  walk_at "back"
  walk_at "ss"
  rw [List.length_map]
  refine k_itR1 rfl (by omega) ?_
  refine k_for (fun j ρ => ∃ (n4 n5 : Slot), ρ = [srcD a b c, .sh (.int before), .sh (sL ns), .sh (.int ns.length), n4, n5, .un, .un, .un, .un] ∧ Slot.free n5 = true ∧ j ≤ ns.length ∧
      ((n4 = .rw (some ((ns.take j).map Sum.inr)) (((rows0 ns hpos).take j).map fun r => r.map D.str)) ∨ (j = 0 ∧ n4 = .ow false (.dct [])))) ⟨_, .un, rfl, rfl, Nat.zero_le _, .inr ⟨rfl, rfl⟩⟩ ?_ ?_
  · rintro j d ρ' hj ⟨n4, n5, rfl, f5, hjl, h4⟩
    have hjn : j < ns.length := by
      have := (List.getElem?_eq_some_iff.mp hj).1
      rw [rangeD_len] at this
      omega
    rw [rangeD_get (by omega)] at hj
    cases hj
    refine u_gN rfl f5 ?_
    have ir : ∀ {s0 s1 s2 s3 : Slot} {r : List Slot}, isDRows (s0 :: s1 :: s2 :: s3 :: n4 :: r) 4 ((ns.take j).map Sum.inr) (((rows0 ns hpos).take j).map fun r => r.map D.str) := fun {s0 s1 s2 s3 r} => h4.imp (fun e => by rw [e]; rfl) (fun ⟨e1, e2⟩ => by subst e1; rw [e2]; exact ⟨rfl, rfl, rfl⟩)
    have hjx : ns[j]? = some (Nx ns hpos j) := Nx_get hjn
    have hxn : Nx ns hpos j ∉ ns.take j := fun w => by
      have hnd : (ns.take j ++ [Nx ns hpos j]).Nodup := by rw [← take_snoc hjx]; exact nok.nd.sublist (List.take_sublist _ _)
      exact (List.nodup_append.mp hnd).2.2 _ w _ (by simp) rfl
    have fin : ∃ (m4 m5 : Slot), [srcD a b c, .sh (.int before), .sh (sL ns), .sh (.int ns.length), Slot.rw (some ((ns.take j).map Sum.inr ++ [Sum.inr (Nx ns hpos j)])) ((((rows0 ns hpos).take j).map fun r => r.map D.str) ++ [[D.str (Nx ns hpos (j + 1))]]), .sh (.int (0 + (j : Int))), .un, .un, .un, .un] = [srcD a b c, .sh (.int before), .sh (sL ns), .sh (.int ns.length), m4, m5, .un, .un, .un, .un] ∧ Slot.free m5 = true ∧ j + 1 ≤ ns.length ∧
        ((m4 = .rw (some ((ns.take (j + 1)).map Sum.inr)) (((rows0 ns hpos).take (j + 1)).map fun r => r.map D.str)) ∨ (j + 1 = 0 ∧ m4 = .ow false (.dct []))) := by
      refine ⟨_, _, rfl, rfl, hjn, .inl ?_⟩
      rw [take_snoc hjx, take_snoc (rows0_get hjn), List.map_append, List.map_append]; rfl
    have rest : ∀ y, y = Nx ns hpos (j + 1) → kPutR1 4 (vBin ixP (vPk 2) (vPk 5)) (fun ρ => ∃ (n4 n5 : Slot), ρ = [srcD a b c, .sh (.int before), .sh (sL ns), .sh (.int ns.length), n4, n5, .un, .un, .un, .un] ∧ Slot.free n5 = true ∧ j + 1 ≤ ns.length ∧
      ((n4 = .rw (some ((ns.take (j + 1)).map Sum.inr)) (((rows0 ns hpos).take (j + 1)).map fun r => r.map D.str)) ∨ (j + 1 = 0 ∧ n4 = .ow false (.dct [])))) (.ow false (.lst [.str y])) [srcD a b c, .sh (.int before), .sh (sL ns), .sh (.int ns.length), n4, .sh (.int (0 + (j : Int))), .un, .un, .un, .un] := fun y ey => by
      subst ey
      refine k_putR1 ir ?_
      walk_at "ss"
      refine p_ixLj j (by omega) (by rw [List.getElem?_map, hjx]; rfl) ?_
      walk_at "ss"
      refine k_putR2 (key := .inr (Nx ns hpos j)) rfl ir (fun w => ?_) (small16 (by rw [List.length_map, List.length_take]; omega)) fin
      obtain ⟨x, hx, e⟩ := List.mem_map.mp w
      cases e
      exact hxn hx
    walk_at "ss"
    refine k_ifEd (fun hlt => ?_) (fun hlt => ?_)
    · walk_at "ss"
      refine p_ixLj (j + 1) (by omega) (by rw [List.getElem?_map, Nx_get (h := hpos) (show j + 1 < ns.length by omega)]; rfl) ?_
      walk_at "ss"
      exact rest _ rfl
    · walk_at "ss"
      refine p_ixLj 0 (by omega) (by rw [List.getElem?_map, Nx_get (h := hpos) hpos]; rfl) ?_
      walk_at "ss"
      exact rest _ (Nx_congr (by have : j + 1 = ns.length := by omega
                                 rw [this]; simp))
  · rintro ρ' ⟨n4, n5, rfl, f5, hjl, h4⟩
    rw [rangeD_len] at h4
    have en : ((ns.length : Int)).toNat = ns.length := by omega
    rw [en, List.take_length] at h4
    have et : (rows0 ns hpos).take ns.length = rows0 ns hpos := List.take_of_length_le (by rw [rows0_len]; omega)
    rw [et] at h4
    have e4 : n4 = .rw (some (ns.map Sum.inr)) ((rows0 ns hpos).map fun r => r.map D.str) := h4.elim id fun z => by omega
    subst e4
    walk_at "ss"
    refine k_call rfl ⟨a, b, c, (ns.length : Int), rfl, by omega, by omega, fun a b c low l0 l1 => ?_⟩
    walk_at "back"
    walk_at "ss"
    refine k_call rfl ⟨a, b, c, (ns.length : Int) - low, rfl, by omega, by omega, fun a b c dh d0 d1 => ?_⟩
    walk_at "back"
    walk_at "ss"
    obtain ⟨lo, rfl⟩ : ∃ lo : Nat, low = (lo : Int) := ⟨low.toNat, by omega⟩
    obtain ⟨hi, ehi⟩ : ∃ hi : Nat, (lo : Int) + dh = (hi : Int) := ⟨lo + dh.toNat, by omega⟩
    rw [ehi]
    have hlh : lo ≤ hi := by omega
    have hhn : hi < ns.length := by omega
    refine u_alias (kd := .str (Nx ns hpos hi)) (key := .inr (Nx ns hpos hi)) (j := hi) (ss := [Nx ns hpos (hi + 1)]) (x := Nx ns hpos lo) rfl (fun Q hQ => ?_) rfl (nodup_inr nok.nd) (by rw [List.getElem?_map, Nx_get (h := hpos) hhn]; rfl) (by rw [List.getElem?_map, rows0_get hhn]; rfl) rfl rfl (by decide) (by decide) (by decide) (small16 (by simp)) rfl rfl (L2.atI_nat (by rw [List.getElem?_map, Nx_get (h := hpos) (show lo < ns.length by omega)]; rfl)) fun rows' hrows' => ?_
    · walk_at "ss"
      refine p_ixLj hi rfl (by rw [List.getElem?_map, Nx_get (h := hpos) hhn]; rfl) ?_
      walk_at "ss"
      exact hQ
    obtain ⟨rs, er, hrs⟩ : ∃ rs : List (List Str), rows' = rs.map (fun r => r.map D.str) ∧ ((Nx ns hpos lo = Nx ns hpos (hi + 1) ∧ rs = rows0 ns hpos) ∨ rs = (rows0 ns hpos).set hi [Nx ns hpos (hi + 1), Nx ns hpos lo]) := by
      rcases hrows' with ⟨z1, z2⟩ | z
      · exact ⟨rows0 ns hpos, z2, .inl ⟨List.mem_singleton.mp z1, rfl⟩⟩
      · exact ⟨_, by rw [z, List.map_set]; rfl, .inr rfl⟩
    subst er
    have cy := cyc_of hpos nok.nd hlh hhn hrs
    have rl : rs.length = ns.length := by rcases hrs with ⟨_, e⟩ | e <;> rw [e] <;> simp [rows0_len]
    have rr : ∀ r ∈ rs, r.length ≤ 2 ∧ ∀ x ∈ r, x ∈ ns := by
      have r0 : ∀ r ∈ rows0 ns hpos, r.length ≤ 2 ∧ ∀ x ∈ r, x ∈ ns := fun r hr => by
        obtain ⟨i, _, rfl⟩ := List.mem_map.mp hr
        exact ⟨by simp, fun x hx => by rw [List.mem_singleton.mp hx]; exact Nx_mem⟩
      rcases hrs with ⟨_, e⟩ | e
      · rw [e]; exact r0
      · rw [e]
        intro r hr
        rcases List.mem_or_eq_of_mem_set hr with z | z
        · exact r0 r z
        · rw [z]
          refine ⟨by simp, fun x hx => ?_⟩
          rcases List.mem_cons.mp hx with w | w
          · rw [w]; exact Nx_mem
          · rw [List.mem_singleton.mp w]; exact Nx_mem
    have gok := gok_of hpos nok (by omega) rl rr
    have iok : IOk (sortS ns) := ⟨(sortS_perm ns).nodup_iff.mpr nok.nd, by rw [(sortS_perm ns).length_eq]; omega⟩
    dsimp only [List.set]
    walk_at "ss"
    have ecut : cutL (ns.map D.str) (some (lo : Int)) (some ((hi : Int) + 1)) = (segC ns lo hi).map D.str := by
      have e1 : ((hi : Int) + 1) = ((hi + 1 : Nat) : Int) := by omega
      rw [e1, cutL_map, cutL_both _ _ (by omega)]
      unfold segC
      have e2 : hi + 1 - lo = hi - lo + 1 := by omega
      rw [e2]
    rw [ecut]
    refine u_varR rfl ?_
    dsimp only [List.set]
    rw [encG_zip]
    walk_at "ss"
    refine k_call rfl ⟨_, rfl, gok, ?_⟩
    walk_at "back"
    walk_at "ss"
    rw [knots_D, knots_cyc rl.symm cy]
    refine p_sortS' (by omega) ?_
    walk_at "ss"
    refine k_call rfl ⟨.lst [sL (sortS ns)], rfl, ?_, ?_⟩
    · exact sm_lists (F := [sortS ns]) (fun ss hss => by rw [List.mem_singleton.mp hss]; exact ⟨fun x hx => nok.tx x (mem_sortS.mp hx), by have := iok.len; omega⟩) (by simp)
    walk_at "back"
    walk_at "ss"
    refine u_varR1 rfl ?_
    walk_at "ss"
    refine p_sortS' (by omega) ?_
    walk_at "ss"
    refine k_call rfl ⟨_, sortS ns, rfl, gok, iok, fun o hb ho => ?_⟩
    walk_at "back"
    walk_at "ss"
    have segne : segC ns lo hi ≠ [] := fun e => by have := segC_len cy; rw [e] at this; simp at this
    refine k_call rfl ⟨segC ns lo hi, rfl, segne, segC_nd cy, by rw [segC_len cy]; omega, fun j m hj hm => ?_⟩
    walk_at "back"
    have eo := cy.best (I := sortS ns) (fun x => mem_sortS) hb hj hm
    walk_at "ss"
    subst eo
    refine k_call rfl ⟨_, rfl, sm_tup (fun x hx => ?_) ?_, ?_⟩
    · have hx' : x ∈ segC ns lo hi := (List.mem_append.mp hx).elim List.mem_of_mem_drop List.mem_of_mem_take
      exact nok.tx x (List.mem_of_mem_drop (List.mem_of_mem_take hx'))
    · have := ho _ rfl
      omega
    walk_at "back"
    exact q a b c
end WL

set_option Elab.async false
set_option linter.all false
set_option maxRecDepth 100000
set_option maxHeartbeats 4000000
namespace WL
open PySem PySem.Spec PyProof.Rows L2
local macro_rules | `(tactic| walk_at "s") => `(tactic| first
  | ((with_reducible show vSeq _ _ _ _); refine u_seq ?_)
  | ((with_reducible show vSet _ _ _ _); refine u_set ?_)
  | ((with_reducible show kSet _ _ _ _); refine k_set rfl rfl ?_)
  | ((with_reducible show vRet _ _ _); refine u_ret ?_)
  | ((with_reducible show vIf _ _ _ _ _); refine u_if ?_)
  | ((with_reducible show vExpr _ _ _); refine u_expr ?_)
  | ((with_reducible show kExpr _ _ _); refine k_expr ?_)
  | ((with_reducible show vRetN _ _); refine u_retN ?_)
  | ((with_reducible show vAsg _ _ _ _); refine u_asg ?_)
  | ((with_reducible show kAsg _ _ _ _); refine k_asg rfl ?_)
  | ((with_reducible show vNext _ _); refine u_next ?_)
  | ((with_reducible show vBreak _ _); refine u_break ?_)
  | ((with_reducible show vCont _ _); refine u_cont ?_)
  | ((with_reducible show kIf _ _ _ _ _); (first | refine k_ifT ?_ | refine k_ifF ?_))
  | ((with_reducible show vVal _ _ _); refine u_val ?_)
  | ((with_reducible show kVal _ _ _); refine k_val ?_)
  | ((with_reducible show vPk _ _ _); refine u_pk rfl rfl ?_)
  | ((with_reducible show vC _ _ _); refine u_c ?_)
  | ((with_reducible show vVar _ _ _); (first | refine u_var rfl ?_ | refine u_varL rfl ?_ | refine u_varD rfl ?_ | refine u_varE rfl ?_))
  | ((with_reducible show vMv _ _ _); (first | refine u_mv rfl ?_ | refine u_mvO rfl ?_))
  | ((with_reducible show vBin _ _ _ _ _); refine u_bin ?_)
  | ((with_reducible show kBin1 _ _ _ _ _); refine k_bin1 ?_)
  | ((with_reducible show kBin2 _ _ _ _ _); refine k_bin2 rfl rfl ?_)
  | ((with_reducible show vUn _ _ _ _); refine u_un ?_)
  | ((with_reducible show kUn _ _ _ _); refine k_un rfl ?_)
  | ((with_reducible show vCons _ _ _ _); refine u_cons ?_)
  | ((with_reducible show kCons1 _ _ _ _); refine k_cons1 ?_)
  | ((with_reducible show vNil _ _); refine u_nil ?_)
  | ((with_reducible show kCons2 _ _ _ _); refine k_cons2 ?_)
  | ((with_reducible show vPrim _ _ _ _); refine u_prim ?_)
  | ((with_reducible show kPrim _ _ _ _); (first | refine k_prim1 rfl ?_ | refine k_prim2 rfl rfl ?_))
  | ((with_reducible show kRet _ _ _); (first | refine k_retV ?_ | refine k_retL ?_ | refine k_retT ?_ | refine k_retD ?_))
  | ((with_reducible show vSh _ _ _); refine u_sh ?_)
  | ((with_reducible show kSh _ _ _); (first | refine k_sh ?_ | refine k_shL ?_ | refine k_shD ?_))
  | ((with_reducible show vT _ _ _); refine u_t ?_)
  | ((with_reducible show kT _ _ _); refine k_t ?_)
  | ((with_reducible show vTru _ _ _); refine u_tru ?_)
  | ((with_reducible show kTru _ _ _); refine k_tru rfl rfl ?_)
  | ((with_reducible show vAnd _ _ _ _); refine u_and ?_)
  | ((with_reducible show kAnd _ _ _ _); (first | refine k_andT ?_ | refine k_andF ?_))
  | ((with_reducible show vOr _ _ _ _); refine u_or ?_)
  | ((with_reducible show kOr _ _ _ _); (first | refine k_orT ?_ | refine k_orF ?_))
  | ((with_reducible show vNot _ _ _); refine u_not ?_)
  | ((with_reducible show kNot _ _ _); refine k_not ?_)
  | ((with_reducible show vAndV _ _ _ _); refine u_andV ?_)
  | ((with_reducible show kAndV _ _ _ _); (first | refine k_andVT ?_ | refine k_andVF ?_))
  | ((with_reducible show kOrV _ _ _ _); (first | refine k_orVT ?_ | refine k_orVF ?_))
  | ((with_reducible show vOrV _ _ _ _); refine u_orV ?_)
  | ((with_reducible show vNotV _ _ _); refine u_notV ?_)
  | ((with_reducible show kNotV _ _ _); refine k_notV ?_)
  | ((with_reducible show vIfE _ _ _ _ _); refine u_ifE ?_)
  | ((with_reducible show kIfE _ _ _ _ _); (first | refine k_ifET ?_ | refine k_ifEF ?_))
  | ((with_reducible show vLst _ _ _); refine u_lst ?_)
  | ((with_reducible show kLst _ _ _); refine k_lst rfl (by simp only [List.length_cons, List.length_nil]; decide) ?_)
  | ((with_reducible show vTup _ _ _); refine u_tup ?_)
  | ((with_reducible show kTup _ _ _); refine k_tup rfl (by simp only [List.length_cons, List.length_nil]; decide) ?_)
  | ((with_reducible show vNewD _ _); refine u_newD ?_)
  | ((with_reducible show vSl _ _ _ _ _); refine u_sl ?_)
  | ((with_reducible show kSl0 _ _ _ _ _); refine k_sl0 ?_)
  | ((with_reducible show kSl1 _ _ _ _ _); refine k_sl1 ?_)
  | ((with_reducible show kSl2 _ _ _ _ _); refine k_sl2 rfl ?_)
  | ((with_reducible show vNoPart _ _); refine u_noPart ?_)
  | ((with_reducible show vPart _ _ _); refine u_part ?_)
  | ((with_reducible show kPart _ _ _); refine k_part ?_)
  | ((with_reducible show vApp _ _ _ _); refine u_app rfl ?_)
  | ((with_reducible show vPopAt _ _ _ _); refine u_popAt rfl ?_)
  | ((with_reducible show vExt _ _ _ _); refine u_ext rfl ?_)
  | ((with_reducible show vM1 _ _ _ _ _); refine u_m1 ?_)
  | ((with_reducible show kM1a _ _ _ _ _); refine k_m1a rfl ?_)
  | ((with_reducible show kM1b _ _ _ _ _); refine k_m1b rfl rfl ?_)
  | ((with_reducible show vGet2 _ _ _ _ _); refine u_get2 ?_)
  | ((with_reducible show kGet1 _ _ _ _ _); refine k_get1 rfl ?_)
  | ((with_reducible show kGet2 _ _ _ _ _); refine k_get2 ?_)
  | ((with_reducible show vSetL _ _ _ _ _); refine u_setL ?_)
  | ((with_reducible show kSetL1 _ _ _ _ _); refine k_setL1 rfl ?_)
  | ((with_reducible show kSetL2 _ _ _ _ _); (first | refine k_setL2j 0 rfl rfl (by simp) rfl ?_ | refine k_setL2j 1 rfl rfl (by simp) rfl ?_ | refine k_setL2j 2 rfl rfl (by simp) rfl ?_))
  | ((with_reducible show vPutD _ _ _ _ _); refine u_putD ?_)
  | ((with_reducible show kPutD1 _ _ _ _ _); refine k_putD1 rfl ?_)
  | ((with_reducible show vAugL _ _ _ _ _ _); refine u_augL rfl ?_)
  | ((with_reducible show kAugL1 _ _ _ _ _ _); (first | refine k_augL1j 0 rfl rfl rfl ?_ | refine k_augL1j 1 rfl rfl rfl ?_ | refine k_augL1j 2 rfl rfl rfl ?_))
  | ((with_reducible show kAugL2 _ _ _ _ _ _ _); refine k_augL2j rfl (by simp) ?_)
  | ((with_reducible show vAug _ _ _ _ _); refine u_aug rfl ?_)
  | ((with_reducible show kAug _ _ _ _ _ _); (first | refine k_augAdd rfl ?_ | refine k_augSub rfl ?_))
  | ((with_reducible show vCall _ _ _ _); refine u_call ?_)
  | ((with_reducible show gN _ _ _ _); refine u_gN rfl rfl ?_)
  | ((with_reducible show gT _ _ _ _); refine u_gT rfl ?_)
  | ((with_reducible show gL _ _ _ _); refine u_gL rfl rfl ?_)
  | ((with_reducible show gTs _ _ _ _); (first | refine u_gTs0 ?_ | refine u_gTs ?_))
  | ((with_reducible show vItL _ _ _); refine u_itL ?_)
  | ((with_reducible show kItL _ _ _); refine k_itL rfl rfl ?_)
  | ((with_reducible show vItT _ _ _); refine u_itT ?_)
  | ((with_reducible show kItT _ _ _); refine k_itT rfl rfl ?_)
  | ((with_reducible show vItR1 _ _ _); refine u_itR1 ?_)
  | ((with_reducible show vItR2 _ _ _); refine u_itR2 ?_)
  | ((with_reducible show vFor _ _ _ _ _); refine u_for ?_)
  | ((with_reducible show vLc _ _ _ _ _ _ _); refine u_lc ?_)
  | ((with_reducible show vLcK _ _ _ _ _ _ _); refine u_lcK rfl ?_)
  | ((with_reducible show vYes _ _); refine u_yes ?_)
  | ((with_reducible show kLcT _ _ _ _ _ _); refine k_lcTT ?_)
  | ((with_reducible show addP _ _); refine p_addI ?_)
  | ((with_reducible show subP _ _); refine p_subI ?_)
  | ((with_reducible show mulP _ _); (first | refine p_mulI (.inl (.inl (by omega))) ?_ | refine p_mulI (.inl (.inr (by omega))) ?_))
  | ((with_reducible show modP _ _); refine p_modI (by omega) ?_)
  | ((with_reducible show divP _ _); refine p_divI (.inl (by constructor <;> omega)) ?_)
  | ((with_reducible show negP _ _); refine p_negI ?_)
  | ((with_reducible show ltP _ _); refine p_ltI ?_)
  | ((with_reducible show leP _ _); refine p_leI ?_)
  | ((with_reducible show gtP _ _); refine p_gtI ?_)
  | ((with_reducible show geP _ _); refine p_geI ?_)
  | ((with_reducible show eqP _ _); (first | refine p_eqI ?_ | refine p_eqS ?_ | refine p_eqB ?_ | refine p_eqN ?_))
  | ((with_reducible show neP _ _); (first | refine p_neI ?_ | refine p_neS ?_ | refine p_neB ?_))
  | ((with_reducible show isNP _ _); (first | refine p_isNn ?_ | refine p_isNi ?_ | refine p_isNs ?_ | refine p_isNb ?_ | refine p_isNl ?_ | refine p_isNt ?_ | refine p_isNd ?_))
  | ((with_reducible show notNP _ _); (first | refine p_notNn ?_ | refine p_notNi ?_ | refine p_notNs ?_ | refine p_notNb ?_ | refine p_notNl ?_ | refine p_notNt ?_ | refine p_notNd ?_))
  | ((with_reducible show isiP _ _); refine p_isi rfl rfl ?_)
  | ((with_reducible show isiTP _ _); refine p_isiT rfl rfl ?_)
  | ((with_reducible show reprP _ _); (first | refine p_reprB ?_ | refine p_reprN ?_))
  | ((with_reducible show lenP _ _); (first | refine p_lenL ?_ | refine p_lenF ?_ | refine p_lenT ?_ | refine p_lenD ?_))
  | ((with_reducible show absP _ _); refine p_absI ?_)
  | ((with_reducible show intP _ _); refine p_intI ?_)
  | ((with_reducible show listP _ _); (first | refine p_listL ?_ | refine p_listF ?_ | refine p_listD ?_))
  | ((with_reducible show ixP _ _); (first | refine p_ixLj 0 rfl rfl ?_ | refine p_ixLj 1 rfl rfl ?_ | refine p_ixLj 2 rfl rfl ?_ | refine p_ixLj 3 rfl rfl ?_ | refine p_ixTj 0 rfl rfl ?_ | refine p_ixTj 1 rfl rfl ?_ | refine p_ixTj 2 rfl rfl ?_ | refine p_ixTj 3 rfl rfl ?_))
  | ((with_reducible show inP _ _ _); (first | refine p_inS0 ?_ | refine p_inS1 ?_ | refine p_inI0 ?_ | refine p_inI1 ?_ | refine p_inD0 rfl ?_ | refine p_inD1 rfl ?_))
  | ((with_reducible show slP _ _ _ _); (first | refine p_slL ?_ | refine p_slF ?_))
  | ((with_reducible show sumP _ _); refine p_sum ?_)
  | ((with_reducible show maxP _ _); refine p_max2 ?_)
  | ((with_reducible show minP _ _); refine p_min2 ?_)
  | ((with_reducible show allP _ _); refine p_all ?_)
  | ((with_reducible show anyP _ _); refine p_any ?_))
local macro_rules | `(tactic| walk_at "s") => `(tactic| first
  | ((with_reducible show vDc _ _ _ _ _ _ _ _); refine u_dc ?_)
  | ((with_reducible show vDcK _ _ _ _ _ _ _ _); refine u_dcK rfl ?_)
  | ((with_reducible show kDcT _ _ _ _ _ _ _); refine k_dcTT ?_)
  | ((with_reducible show kDcK _ _ _ _ _ _); refine k_dcK ?_)
  | ((with_reducible show vDisp1 _ _ _ _); refine u_disp1 ?_)
  | ((with_reducible show kDisp1 _ _ _ _); refine k_disp1 ?_)
  | ((with_reducible show kDisp2 _ _ _ _); refine k_disp2 rfl rfl ?_)
  | ((with_reducible show vShR _ _ _); refine u_shR ?_)
  | ((with_reducible show kShR _ _ _); refine k_shR ?_)
  | ((with_reducible show vPutR _ _ _ _ _); refine u_putR ?_))
local macro_rules | `(tactic| walk_at "ss") => `(tactic| repeat walk_at "s")
local macro_rules | `(tactic| walk_at "back") => `(tactic| refine k_back ?_ (by dsimp only [takeBack, backS, List.set, List.getElem?_cons_zero, List.getElem?_cons_succ]))
def v_law : VS :=
  vSeq (vSet 1 (vCall S_source (vCons (vVal (vVar 0)) (vCons (vVal (vC (.int 0))) (vNil)))))
    (vSeq (vSet 2 (vCall S_k11_waits (vCons (vPk 1) (vCons (vVal (vC (.int 1))) (vNil)))))
    (vSeq (vSet 3 (vCall S_k11_waits (vCons (vVal (vCall S_source (vCons (vVal (vVar 0)) (vCons (vVal (vC (.int 1))) (vNil))))) (vCons (vVal (vC (.int 3))) (vNil)))))
    (vSeq (vIf (vOr (vNot (vTru (vVal (vCall S_k11_right (vCons (vPk 1) (vCons (vVal (vVar 2)) (vNil))))))) (vNot (vTru (vVal (vCall S_k11_right (vCons (vVal (vCall S_source (vCons (vVal (vVar 0)) (vCons (vVal (vC (.int 2))) (vNil))))) (vCons (vVal (vVar 3)) (vNil)))))))) (vRet (vC (.bl false))) (vNext))
    (vSeq (vIf (vNot (vTru (vVal (vCall S_same (vCons (vVal (vShR (vCall S_knots_of (vCons (vVal (vVar 2)) (vNil))))) (vCons (vVal (vSh (vCall S_knots (vCons (vVal (vVar 2)) (vNil))))) (vNil))))))) (vRet (vC (.bl false))) (vNext))
    (vSeq (vIf (vNot (vTru (vVal (vCall S_same (vCons (vVal (vSh (vLst (vCons (vVal (vShR (vCall S_knots_of (vCons (vVal (vSh (vNewD))) (vNil))))) (vCons (vVal (vCall S_least_ring (vCons (vVal (vSh (vNewD))) (vCons (vVal (vSh (vLst (vNil)))) (vNil))))) (vNil)))))) (vCons (vVal (vSh (vLst (vCons (vVal (vLst (vNil))) (vCons (vVal (vC .non)) (vNil)))))) (vNil))))))) (vRet (vC (.bl false))) (vNext))
    (vRet (vCall S_k11_long (vCons (vVal (vCall S_source (vCons (vVal (vVar 0)) (vCons (vVal (vC (.int 3))) (vNil))))) (vCons (vVal (vC (.int 5))) (vNil))))))))))
/-! ### the law -/
def S_law : VSp := fun ρs R _ => ∃ ns : List Int, ρs = [.sh (.fls (ns.map D.int))] ∧ ns.length ≤ 63 ∧ R (.sh (.bl true)) [.sh (.fls (ns.map D.int))]
theorem gok_nil : GOk [] := ⟨.nil, by simp, by simp, [], by simp, fun n x hx => (by cases hx), fun n => by simp [getW]⟩
theorem rd_law : Reads S_law (fun _ => v_law) 3 := fun ρs R _ h => by
  obtain ⟨ns, rfl, hn, q⟩ := h
  unfold v_law
  show vSeq _ _ _ [.sh (.fls (ns.map D.int)), .un, .un, .un]
  walk_at "ss"
  refine k_call rfl ⟨ns, 0, rfl, by omega, by decide, by decide, fun a b => ?_⟩
  walk_at "back"
  walk_at "ss"
  refine k_call rfl ⟨a, b, 0, 1, rfl, by decide, by decide, fun a b c g wok => ?_⟩
  walk_at "back"
  walk_at "ss"
  refine k_call rfl ⟨ns, 1, rfl, by omega, by decide, by decide, fun a2 b2 => ?_⟩
  walk_at "back"
  walk_at "ss"
  refine k_call rfl ⟨a2, b2, 1, 3, rfl, by decide, by decide, fun a2 b2 c2 g2 wok2 => ?_⟩
  walk_at "back"
  walk_at "ss"
  refine k_call rfl ⟨a, b, c, g, rfl, wok, fun a b c => ?_⟩
  walk_at "back"
  walk_at "ss"
  refine k_call rfl ⟨ns, 2, rfl, by omega, by decide, by decide, fun a3 b3 => ?_⟩
  walk_at "back"
  walk_at "ss"
  refine k_call rfl ⟨a3, b3, 2, g2, rfl, wok2, fun a3 b3 c3 => ?_⟩
  walk_at "back"
  walk_at "ss"
  refine k_call rfl ⟨g, rfl, wok.ok, ?_⟩
  walk_at "back"
  walk_at "ss"
  rw [knots_D]
  refine k_call rfl ⟨g, rfl, wok.ok, ?_⟩
  walk_at "back"
  walk_at "ss"
  refine k_call rfl ⟨.lst ((theKnots g).map sL), rfl, knots_sm wok.ok, ?_⟩
  walk_at "back"
  walk_at "ss"
  refine k_call rfl ⟨[], rfl, gok_nil, ?_⟩
  walk_at "back"
  walk_at "ss"
  refine k_call rfl ⟨[], [], rfl, gok_nil, ⟨.nil, by simp⟩, fun o hb _ => ?_⟩
  have eo : o = none := by
    cases o with
    | none => rfl
    | some r => obtain ⟨⟨s, hs, _⟩, _⟩ := hb; cases hs
  subst eo
  walk_at "back"
  walk_at "ss"
  have ek : rwD none ((theKnots []).map fun k => k.map D.str) = .lst [] := by
    rw [knots_D]
    have : theKnots [] = [] := List.length_eq_zero_iff.mp (Nat.le_zero.mp (knots_len (g := [])))
    rw [this]; rfl
  rw [ek]
  refine k_call rfl ⟨.lst [.lst [], .non], rfl, .lst (fun d hd => ?_) (by simp), ?_⟩
  · rcases List.mem_cons.mp hd with e | e
    · rw [e]; exact .lst (fun _ z => by cases z) (by simp)
    · rw [List.mem_singleton.mp e]; exact .non
  walk_at "back"
  walk_at "ss"
  refine k_call rfl ⟨ns, 3, rfl, by omega, by decide, by decide, fun a4 b4 => ?_⟩
  walk_at "back"
  walk_at "ss"
  refine k_call rfl ⟨a4, b4, 3, 5, rfl, by decide, by decide, fun a4 b4 c4 => ?_⟩
  walk_at "back"
  exact q
end WL

set_option Elab.async false
set_option linter.all false
set_option maxRecDepth 100000
set_option maxHeartbeats 4000000
namespace WL
open PySem PySem.Spec PyProof.Rows L2
/-! ### the text (printed by gen.py) -/
def topS (i : Nat) : Stmt := PySem.Challenge.pw_firstreasons_k11_knots_by_all_rings.main.body.getD i (.Pass ⟨0, 0, 0, 0⟩)
abbrev sreached_names : Stmt := topS 1
def Nreached_names : List Str := ["waits", "start", "found", "queue", "name"]
theorem screached_names : FnScope Nreached_names ["waits", "start"] (defScope sreached_names) := ⟨rfl, rfl, rfl, by decide +kernel, rfl, by decide +kernel, by decide +kernel⟩
abbrev sknots_of : Stmt := topS 2
def Nknots_of : List Str := ["waits", "reach", "placed", "knots", "name", "knot", "other"]
theorem scknots_of : FnScope Nknots_of ["waits"] (defScope sknots_of) := ⟨rfl, rfl, rfl, by decide +kernel, rfl, by decide +kernel, by decide +kernel⟩
abbrev ssteps_back : Stmt := topS 3
def Nsteps_back : List Str := ["waits", "inside", "start", "steps", "layer", "many", "fresh", "name", "other"]
theorem scsteps_back : FnScope Nsteps_back ["waits", "inside", "start"] (defScope ssteps_back) := ⟨rfl, rfl, rfl, by decide +kernel, rfl, by decide +kernel, by decide +kernel⟩
abbrev sring_from : Stmt := topS 4
def Nring_from : List Str := ["waits", "inside", "start", "steps", "ways", "ring", "left", "follow", "name"]
theorem scring_from : FnScope Nring_from ["waits", "inside", "start"] (defScope sring_from) := ⟨rfl, rfl, rfl, by decide +kernel, rfl, by decide +kernel, by decide +kernel⟩
abbrev sleast_ring : Stmt := topS 5
def Nleast_ring : List Str := ["waits", "knot", "inside", "best", "start", "ring", "name"]
theorem scleast_ring : FnScope Nleast_ring ["waits", "knot"] (defScope sleast_ring) := ⟨rfl, rfl, rfl, by decide +kernel, rfl, by decide +kernel, by decide +kernel⟩
abbrev ssource : Stmt := topS 7
def Nsource : List Str := ["script", "at", "cell", "size", "small", "one"]
theorem scsource : FnScope Nsource ["script", "at"] (defScope ssource) := ⟨rfl, rfl, rfl, by decide +kernel, rfl, by decide +kernel, by decide +kernel⟩
abbrev spick : Stmt := topS 8
def Npick : List Str := ["source", "many", "found"]
theorem scpick : FnScope Npick ["source", "many"] (defScope spick) := ⟨rfl, rfl, rfl, by decide +kernel, rfl, by decide +kernel, by decide +kernel⟩
abbrev schoice : Stmt := topS 9
def Nchoice : List Str := ["source", "things"]
theorem scchoice : FnScope Nchoice ["source", "things"] (defScope schoice) := ⟨rfl, rfl, rfl, by decide +kernel, rfl, by decide +kernel, by decide +kernel⟩
abbrev sshuffled : Stmt := topS 10
def Nshuffled : List Str := ["source", "things", "left", "found"]
theorem scshuffled : FnScope Nshuffled ["source", "things"] (defScope sshuffled) := ⟨rfl, rfl, rfl, by decide +kernel, rfl, by decide +kernel, by decide +kernel⟩
abbrev snames : Stmt := topS 11
def Nnames : List Str := ["source", "many", "before", "letters", "stem", "mark", "tail", "k"]
theorem scnames : FnScope Nnames ["source", "many", "before"] (defScope snames) := ⟨rfl, rfl, rfl, by decide +kernel, rfl, by decide +kernel, by decide +kernel⟩
abbrev ssame : Stmt := topS 12
def Nsame : List Str := ["answer", "due", "pairs", "key", "one", "at"]
theorem scsame : FnScope Nsame ["answer", "due"] (defScope ssame) := ⟨rfl, rfl, rfl, by decide +kernel, rfl, by decide +kernel, by decide +kernel⟩
abbrev scopied : Stmt := topS 13
def Ncopied : List Str := ["thing", "one", "key"]
theorem sccopied : FnScope Ncopied ["thing"] (defScope scopied) := ⟨rfl, rfl, rfl, by decide +kernel, rfl, by decide +kernel, by decide +kernel⟩
abbrev sreached : Stmt := topS 14
def Nreached : List Str := ["waits", "start", "found", "left", "name"]
theorem screached : FnScope Nreached ["waits", "start"] (defScope sreached) := ⟨rfl, rfl, rfl, by decide +kernel, rfl, by decide +kernel, by decide +kernel⟩
abbrev sknots : Stmt := topS 15
def Nknots : List Str := ["waits", "reach", "found", "name", "knot", "other"]
theorem scknots : FnScope Nknots ["waits"] (defScope sknots) := ⟨rfl, rfl, rfl, by decide +kernel, rfl, by decide +kernel, by decide +kernel⟩
abbrev srings : Stmt := topS 16
def Nrings : List Str := ["waits", "knot", "found", "start", "rows", "row", "name"]
theorem scrings : FnScope Nrings ["waits", "knot"] (defScope srings) := ⟨rfl, rfl, rfl, by decide +kernel, rfl, by decide +kernel, by decide +kernel⟩
abbrev slleast_ring : Stmt := topS 17
def Nlleast_ring : List Str := ["waits", "knot", "rings", "ring"]
theorem sclleast_ring : FnScope Nlleast_ring ["waits", "knot"] (defScope slleast_ring) := ⟨rfl, rfl, rfl, by decide +kernel, rfl, by decide +kernel, by decide +kernel⟩
abbrev sk11_waits : Stmt := topS 18
def Nk11_waits : List Str := ["source", "before", "names", "sparse", "stranger", "waits", "name", "row", "other"]
theorem sck11_waits : FnScope Nk11_waits ["source", "before"] (defScope sk11_waits) := ⟨rfl, rfl, rfl, by decide +kernel, rfl, by decide +kernel, by decide +kernel⟩
abbrev sk11_asked : Stmt := topS 19
def Nk11_asked : List Str := ["source", "waits", "names", "found", "turn", "knot"]
theorem sck11_asked : FnScope Nk11_asked ["source", "waits"] (defScope sk11_asked) := ⟨rfl, rfl, rfl, by decide +kernel, rfl, by decide +kernel, by decide +kernel⟩
abbrev sk11_right : Stmt := topS 20
def Nk11_right : List Str := ["source", "waits", "held", "due", "told", "row", "names", "passed"]
theorem sck11_right : FnScope Nk11_right ["source", "waits"] (defScope sk11_right) := ⟨rfl, rfl, rfl, by decide +kernel, rfl, by decide +kernel, by decide +kernel⟩
abbrev sk11_turned : Stmt := topS 21
def Nk11_turned : List Str := ["row", "at"]
theorem sck11_turned : FnScope Nk11_turned ["row"] (defScope sk11_turned) := ⟨rfl, rfl, rfl, by decide +kernel, rfl, by decide +kernel, by decide +kernel⟩
abbrev sk11_long : Stmt := topS 22
def Nk11_long : List Str := ["source", "before", "names", "many", "waits", "at", "low", "high", "rows", "ring"]
theorem sck11_long : FnScope Nk11_long ["source", "before"] (defScope sk11_long) := ⟨rfl, rfl, rfl, by decide +kernel, rfl, by decide +kernel, by decide +kernel⟩
abbrev slaw : Stmt := topS 23
def Nlaw : List Str := ["script", "source", "one", "other"]
theorem sclaw : FnScope Nlaw ["script"] (defScope slaw) := ⟨rfl, rfl, rfl, by decide +kernel, rfl, by decide +kernel, by decide +kernel⟩
/-- the built-in names that the text leaves as they are -/
structure Blt (mg : Str → Option Value) : Prop where
  b_abs : mg "abs" = none
  b_all : mg "all" = none
  b_dict : mg "dict" = none
  b_int : mg "int" = none
  b_isinstance : mg "isinstance" = none
  b_len : mg "len" = none
  b_list : mg "list" = none
  b_min : mg "min" = none
  b_range : mg "range" = none
  b_repr : mg "repr" = none
  b_sorted : mg "sorted" = none
  b_str : mg "str" = none
  b_sum : mg "sum" = none
  b_tuple : mg "tuple" = none
section
variable {P : Program} {w : World} {K : PySem.W.Frag} {mg : Str → Option Value} {base : Heap}
theorem def_reached_names {f : Addr} {fd : FuncData} (T : Blt mg) (F : Fun K "reached_names" "reached_names" sreached_names f fd) (g : mg "reached_names" = some (.ref f))
    (rd : Reads S_reached_names (fun EX => v_reached_names) 3) (len : ∀ ρs R RX, S_reached_names ρs R RX → ρs.length = 2) : Def P w K mg base 1 "reached_names" ["waits", "start"] S_reached_names := by
  refine ⟨f, fd, fn_w (t := fun EX => v_reached_names) F screached_names (by decide) len (fun Φ cdv A outer s H E hr tk => ?_) rd, g, F.kp, F.binds fun _ _ _ _ _ _ us hl => match us, hl with | [_, _], _ => rfl⟩
  show PWSs _ Φ _ (v_reached_names)
  have hu : (A.deeper (envOfC "reached_names" (defScope sreached_names) s.heap.objs.size f cdv)).units + 1 < cLine := hu_of hr
  have hu64 : (A.deeper (envOfC "reached_names" (defScope sreached_names) s.heap.objs.size f cdv)).units + 64 < cLine := hr.units
  have hu65 : (A.deeper (envOfC "reached_names" (defScope sreached_names) s.heap.objs.size f cdv)).units + 65 < cLine := by have := hr.un; omega
  unfold v_reached_names
  exact pwss_cons (pws_set (ps_set (i := 2) screached_names.nd rfl (Or.inl rfl) pe_sem) (PWE.sem (pwe_of pe_dnewK run_newD)))
    (pwss_cons (pws_set (ps_set (i := 3) screached_names.nd rfl (Or.inl rfl) pe_sem) (PWE.sem (pwe_of (pe_callTy (call_listA rfl) (by rfl) T.b_list (by decide +kernel) pa_sem) (run_prim ok_list (pwa_cons (pwo_val (by exact pwe_of (pe_dget2 hu pe_sem pe_sem pe_sem ⟨rfl, rfl, rfl, rfl⟩) (run_get2 (pwo_var 0 (pv 0)) (pwe_var 1 (pv 1)) (pwe_lst (pwa_nil))))) (pwa_nil))))))
    (pwss_cons (pws_while (ps_while (passes_of rfl) pt_sem pss_sem) (pwt_of (pt_cmpR op_gtA pe_sem pe_sem (nomark _)) (run_bin ok_gt (pwo_val (by exact pwe_of (pe_callB call_lenA (by rfl) T.b_len (by decide +kernel) pa_sem) (run_prim ok_len (pwa_cons (pwo_var 3 (pv 3)) (pwa_nil))))) (pwo_val (by exact pwe_int)))) (pwss_cons (pws_set (ps_set (i := 4) screached_names.nd rfl (Or.inl rfl) pe_sem) (PWE.sem (pwe_of (pe_bm0 PySem.F.plainAttrs_list PySem.F.slot_list_pop PySem.F.type_list_pop mt_pop (pv 3)) (run_pop 3))))
    (pwss_one (pws_if (pwt_of (pt_cmpR (op_notinA hu) pe_sem pe_sem (by rfl)) (run_bin ok_in (pwo_var 4 (pv 4)) (pwo_var 2 (pv 2)))) (pwss_cons (pws_putD 2 (ps_dput hu (pv 2) pe_sem pe_sem rfl) (pwe_var 4 (pv 4)) (pwe_bl))
    (pwss_one (pws_expr (ps_expr pe_sem) (PWE.sem (pwe_of (pe_bm PySem.F.plainAttrs_list PySem.F.slot_list_extend PySem.F.type_list_extend mt_extend (pv 3) (pa_cons pe_sem pa_nil)) (run_ext 3 (pwe_of (pe_callTy (call_listA rfl) (by rfl) T.b_list (by decide +kernel) pa_sem) (run_prim ok_list (pwa_cons (pwo_val (by exact pwe_of (pe_dget2 hu pe_sem pe_sem pe_sem ⟨rfl, rfl, rfl, rfl⟩) (run_get2 (pwo_var 0 (pv 0)) (pwe_var 4 (pv 4)) (pwe_lst (pwa_nil))))) (pwa_nil)))))))))) (pwss_nil)))))
    (pwss_one (pws_ret (pwe_mv 2 (pv 2))))))
theorem def_knots_of {f : Addr} {fd : FuncData} (T : Blt mg) (D_reached_names : Def P w K mg base 1 "reached_names" ["waits", "start"] S_reached_names) (F : Fun K "knots_of" "knots_of" sknots_of f fd) (g : mg "knots_of" = some (.ref f))
    (rd : Reads S_knots_of (fun EX => v_knots_of) 6) (len : ∀ ρs R RX, S_knots_of ρs R RX → ρs.length = 1) : Def P w K mg base 2 "knots_of" ["waits"] S_knots_of := by
  refine ⟨f, fd, fn_w (t := fun EX => v_knots_of) F scknots_of (by decide) len (fun Φ cdv A outer s H E hr tk => ?_) rd, g, F.kp, F.binds fun _ _ _ _ _ _ us hl => match us, hl with | [_], _ => rfl⟩
  show PWSs _ Φ _ (v_knots_of)
  have hu : (A.deeper (envOfC "knots_of" (defScope sknots_of) s.heap.objs.size f cdv)).units + 1 < cLine := hu_of hr
  have hu64 : (A.deeper (envOfC "knots_of" (defScope sknots_of) s.heap.objs.size f cdv)).units + 64 < cLine := hr.units
  have hu65 : (A.deeper (envOfC "knots_of" (defScope sknots_of) s.heap.objs.size f cdv)).units + 65 < cLine := by have := hr.un; omega
  unfold v_knots_of
  exact pwss_cons (pws_set (ps_set (i := 1) scknots_of.nd rfl (Or.inr rfl) pe_sem) (PWE.sem (pwe_dcK 0 (pe_dc0 (own := [("name", 4)]) rfl scknots_of.nd (pi_keys (pv 0)) (blkOk_by (own := [("name", 4)]) (N := Nknots_of) (sc := defScope sknots_of) (by decide +kernel))) (rung_U (fun _ _ _ _ _ => by exact pwg_of (pg_name (i := 4) scknots_of.nd rfl (by first | exact Or.inl rfl | exact Or.inr rfl)) (rung_name 4))) runt_yes (rune_U (fun _ _ _ _ _ => by exact pwe_var 4 (pv 4))) (rune_U (fun _ _ _ _ _ => by exact pwe_callD D_reached_names (hr.mono (by decide)) (by rfl) (pwa_cons (pwo_val (pwe_var 0 (pv 0))) (pwa_cons (pwo_val (pwe_var 4 (pv 4))) (pwa_nil))))) (by decide))))
    (pwss_cons (pws_set (ps_set (i := 2) scknots_of.nd rfl (Or.inl rfl) pe_sem) (PWE.sem (pwe_of pe_dnewK run_newD)))
    (pwss_cons (pws_set (ps_set (i := 3) scknots_of.nd rfl (Or.inl rfl) pe_sem) (PWE.sem (pwe_lst (pwa_nil))))
    (pwss_cons (pws_for (ps_for (passes_of rfl) rfl pi_sem pg_sem pss_sem) (pwi_list (pwe_of (pe_callB (call_sortDA rfl) (by rfl) T.b_sorted (by decide +kernel) pa_sem) (run_prim ok_sortD (pwa_cons (pwo_var 1 (pv 1)) (pwa_nil))))) (pwg_of (pg_name (i := 4) scknots_of.nd rfl (Or.inr rfl)) (rung_name 4)) (pwss_cons (pws_if (PWW.pt (pww_or (pwt_of (pt_cmpR (op_inA hu) pe_sem pe_sem (by rfl)) (run_bin ok_in (pwo_var 4 (pv 4)) (pwo_var 2 (pv 2)))) (pww_or1 (pwt_of (pt_cmpR (op_notinA hu) pe_sem pe_sem (by rfl)) (run_bin ok_in (pwo_var 4 (pv 4)) (pwo_val (by exact pwe_of (pe_ix (ix_all hu) pe_sem pe_sem (fun _ _ => rfl)) (run_bin ok_ix (pwo_var 1 (pv 1)) (pwo_var 4 (pv 4)))))))))) (pwss_one (pws_cont)) (pwss_nil))
    (pwss_cons (pws_set (ps_set (i := 5) scknots_of.nd rfl (Or.inl rfl) pe_sem) (PWE.sem (pwe_of (pe_callB call_sortedA (by rfl) T.b_sorted (by decide +kernel) pa_sem) (run_prim ok_sorted (pwa_cons (pwo_val (by exact pwe_lcKix 1 4 (pe_lcK1 (own := [("other", 6)]) rfl scknots_of.nd (pi_keys (pe_ix (ix_all hu) (pv 1) (pv 4) (fun _ _ => rfl))) (blkOk_by (own := [("other", 6)]) (N := Nknots_of) (sc := defScope sknots_of) (by decide +kernel))) (rung_U (fun _ _ _ _ _ => by exact pwg_of (pg_name (i := 6) scknots_of.nd rfl (by first | exact Or.inl rfl | exact Or.inr rfl)) (rung_name 6))) (runt_U (fun _ _ _ _ _ => by exact PWW.pt (pww_and (pwt_of (pt_cmpR (op_inA hu) pe_sem pe_sem (by rfl)) (run_bin ok_in (pwo_var 6 (pv 6)) (pwo_var 1 (pv 1)))) (pww_and1 (pwt_of (pt_cmpR (op_inA hu) pe_sem pe_sem (by rfl)) (run_bin ok_in (pwo_var 4 (pv 4)) (pwo_val (by exact pwe_of (pe_ix (ix_all hu) pe_sem pe_sem (fun _ _ => rfl)) (run_bin ok_ix (pwo_var 1 (pv 1)) (pwo_var 6 (pv 6))))))))))) (rune_U (fun _ _ _ _ _ => by exact pwe_var 6 (pv 6))) (by decide))) (pwa_nil))))))
    (pwss_cons (pws_forO 5 (ps_for (passes_of rfl) rfl (pi_list (pv 5)) pg_sem pss_sem) (pwg_of (pg_name (i := 6) scknots_of.nd rfl (Or.inl rfl)) (rung_name 6)) (pwss_one (pws_putD 2 (ps_dput hu (pv 2) pe_sem pe_sem rfl) (pwe_var 6 (pv 6)) (pwe_bl))))
    (pwss_one (pws_expr (ps_expr pe_sem) (PWE.sem (pwe_of (pe_bm PySem.F.plainAttrs_list PySem.F.slot_list_append PySem.F.type_list_append mt_append (pv 3) (pa_cons pe_sem pa_nil)) (run_appR 3 (pwe_mv 5 (pv 5)))))))))))
    (pwss_one (pws_ret (pwe_mvR 3 (pv 3)))))))
theorem def_steps_back {f : Addr} {fd : FuncData} (T : Blt mg) (F : Fun K "steps_back" "steps_back" ssteps_back f fd) (g : mg "steps_back" = some (.ref f))
    (rd : Reads S_steps_back (fun EX => v_steps_back) 6) (len : ∀ ρs R RX, S_steps_back ρs R RX → ρs.length = 3) : Def P w K mg base 1 "steps_back" ["waits", "inside", "start"] S_steps_back := by
  refine ⟨f, fd, fn_w (t := fun EX => v_steps_back) F scsteps_back (by decide) len (fun Φ cdv A outer s H E hr tk => ?_) rd, g, F.kp, F.binds fun _ _ _ _ _ _ us hl => match us, hl with | [_, _, _], _ => rfl⟩
  show PWSs _ Φ _ (v_steps_back)
  have hu : (A.deeper (envOfC "steps_back" (defScope ssteps_back) s.heap.objs.size f cdv)).units + 1 < cLine := hu_of hr
  have hu64 : (A.deeper (envOfC "steps_back" (defScope ssteps_back) s.heap.objs.size f cdv)).units + 64 < cLine := hr.units
  have hu65 : (A.deeper (envOfC "steps_back" (defScope ssteps_back) s.heap.objs.size f cdv)).units + 65 < cLine := by have := hr.un; omega
  unfold v_steps_back
  exact pwss_cons (pws_set (ps_set (i := 3) scsteps_back.nd rfl (Or.inl rfl) pe_sem) (PWE.sem (pwe_disp1 (pwe_var 2 (pv 2)) (pwe_int))))
    (pwss_cons (pws_set (ps_set (i := 4) scsteps_back.nd rfl (Or.inr rfl) pe_sem) (PWE.sem (pwe_sh (pwe_disp1 (pwe_var 2 (pv 2)) (pwe_bl)))))
    (pwss_cons (pws_set (ps_set (i := 5) scsteps_back.nd rfl (Or.inl rfl) pe_sem) (PWE.sem (pwe_int)))
    (pwss_cons (pws_while (ps_while (passes_of rfl) pt_sem pss_sem) (pwt_of (pt_cmpR op_gtA pe_sem pe_sem (nomark _)) (run_bin ok_gt (pwo_val (by exact pwe_of (pe_callB call_lenA (by rfl) T.b_len (by decide +kernel) pa_sem) (run_prim ok_len (pwa_cons (pwo_var 4 (pv 4)) (pwa_nil))))) (pwo_val (by exact pwe_int)))) (pwss_cons (pws_aug (ps_aug (i := 5) scsteps_back.nd rfl (Or.inl rfl) pe_sem ip_addA) ok_iadd (pwe_int))
    (pwss_cons (pws_set (ps_set (i := 6) scsteps_back.nd rfl (Or.inl rfl) pe_sem) (PWE.sem (pwe_of pe_dnewK run_newD)))
    (pwss_cons (pws_forK 1 (ps_for (passes_of rfl) rfl (pi_keys (pv 1)) pg_sem pss_sem) (pwg_of (pg_name (i := 7) scsteps_back.nd rfl (Or.inl rfl)) (rung_name 7)) (pwss_one (pws_if (PWW.pt (pww_and (pwt_of (pt_cmpR op_gtA pe_sem pe_sem (nomark _)) (run_bin ok_gt (pwo_var 7 (pv 7)) (pwo_var 2 (pv 2)))) (pww_and1 (pwt_of (pt_cmpR (op_notinA hu) pe_sem pe_sem (by rfl)) (run_bin ok_in (pwo_var 7 (pv 7)) (pwo_var 3 (pv 3))))))) (pwss_one (pws_if (pwt_of (pt_cmpR op_gtA pe_sem pe_sem (nomark _)) (run_bin ok_gt (pwo_val (by exact pwe_of (pe_callB call_lenA (by rfl) T.b_len (by decide +kernel) pa_sem) (run_prim ok_len (pwa_cons (pwo_val (by exact pwe_of (pe_lc1 rfl scsteps_back.nd (blkOk_by (own := [("other", 8)]) (N := Nsteps_back) (sc := defScope ssteps_back) (by decide +kernel))) (run_lc1 (own := [("other", 8)]) (by exact pwi_list (pwe_of (pe_dget2 hu pe_sem pe_sem pe_sem ⟨rfl, rfl, rfl, rfl⟩) (run_get2 (pwo_var 0 (pv 0)) (pwe_var 7 (pv 7)) (pwe_lst (pwa_nil))))) (fun _ _ _ _ _ => by exact pwg_of (pg_name (i := 8) scsteps_back.nd rfl (by first | exact Or.inl rfl | exact Or.inr rfl)) (rung_name 8)) (fun _ _ _ _ _ => by exact pwt_of (pt_cmpR (op_inA hu) pe_sem pe_sem (by rfl)) (run_bin ok_in (pwo_var 8 (pv 8)) (pwo_var 4 (pv 4)))) (fun _ _ _ _ _ => by exact pwe_var 8 (pv 8))))) (pwa_nil))))) (pwo_val (by exact pwe_int)))) (pwss_one (pws_putD 6 (ps_dput hu (pv 6) pe_sem pe_sem rfl) (pwe_var 7 (pv 7)) (pwe_bl))) (pwss_nil))) (pwss_nil))))
    (pwss_cons (pws_know 6 (pws_forK 6 (ps_for (passes_of rfl) rfl (pi_keys (pv 6)) pg_sem pss_sem) (pwg_of (pg_name (i := 7) scsteps_back.nd rfl (Or.inl rfl)) (rung_name 7)) (pwss_one (pws_putD 3 (ps_dput hu (pv 3) pe_sem pe_sem rfl) (pwe_var 7 (pv 7)) (pwe_var 5 (pv 5))))))
    (pwss_one (pws_set (ps_set (i := 4) scsteps_back.nd rfl (Or.inr rfl) pe_sem) (PWE.sem (pwe_sh (pwe_var 6 (pv 6)))))))))))
    (pwss_one (pws_ret (pwe_mv 3 (pv 3)))))))
theorem def_ring_from {f : Addr} {fd : FuncData} (T : Blt mg) (D_steps_back : Def P w K mg base 1 "steps_back" ["waits", "inside", "start"] S_steps_back) (F : Fun K "ring_from" "ring_from" sring_from f fd) (g : mg "ring_from" = some (.ref f))
    (rd : Reads S_ring_from (fun EX => v_ring_from) 6) (len : ∀ ρs R RX, S_ring_from ρs R RX → ρs.length = 3) : Def P w K mg base 2 "ring_from" ["waits", "inside", "start"] S_ring_from := by
  refine ⟨f, fd, fn_w (t := fun EX => v_ring_from) F scring_from (by decide) len (fun Φ cdv A outer s H E hr tk => ?_) rd, g, F.kp, F.binds fun _ _ _ _ _ _ us hl => match us, hl with | [_, _, _], _ => rfl⟩
  show PWSs _ Φ _ (v_ring_from)
  have hu : (A.deeper (envOfC "ring_from" (defScope sring_from) s.heap.objs.size f cdv)).units + 1 < cLine := hu_of hr
  have hu64 : (A.deeper (envOfC "ring_from" (defScope sring_from) s.heap.objs.size f cdv)).units + 64 < cLine := hr.units
  have hu65 : (A.deeper (envOfC "ring_from" (defScope sring_from) s.heap.objs.size f cdv)).units + 65 < cLine := by have := hr.un; omega
  unfold v_ring_from
  exact pwss_cons (pws_if (pwt_of (pt_cmpR (op_inA hu) pe_sem pe_sem (by rfl)) (run_bin ok_in (pwo_var 2 (pv 2)) (pwo_val (by exact pwe_of (pe_dget2 hu pe_sem pe_sem pe_sem ⟨rfl, rfl, rfl, rfl⟩) (run_get2 (pwo_var 0 (pv 0)) (pwe_var 2 (pv 2)) (pwe_lst (pwa_nil))))))) (pwss_one (pws_ret (pwe_tup (pwa_cons (pwo_val (by exact pwe_var 2 (pv 2))) (pwa_nil))))) (pwss_nil))
    (pwss_cons (pws_set (ps_set (i := 3) scring_from.nd rfl (Or.inr rfl) pe_sem) (PWE.sem (pwe_callD D_steps_back (hr.mono (by decide)) (by rfl) (pwa_cons (pwo_val (pwe_var 0 (pv 0))) (pwa_cons (pwo_val (pwe_var 1 (pv 1))) (pwa_cons (pwo_val (pwe_var 2 (pv 2))) (pwa_nil)))))))
    (pwss_cons (pws_set (ps_setLc1 (i := 4) rfl scring_from.nd rfl rfl (sw_true rfl rfl rfl (by decide +kernel)) pi_sem (blkOk_by (own := [("name", 8)]) (N := Nring_from) (sc := defScope sring_from) (by decide +kernel))) (run_lc1 (own := [("name", 8)]) (by exact pwi_list (pwe_of (pe_dget2 hu pe_sem pe_sem pe_sem ⟨rfl, rfl, rfl, rfl⟩) (run_get2 (pwo_var 0 (pv 0)) (pwe_var 2 (pv 2)) (pwe_lst (pwa_nil))))) (fun _ _ _ _ _ => by exact pwg_of (pg_name (i := 8) scring_from.nd rfl (by first | exact Or.inl rfl | exact Or.inr rfl)) (rung_name 8)) (fun _ _ _ _ _ => by exact PWW.pt (pww_and (pwt_of (pt_cmpR (op_inA hu) pe_sem pe_sem (by rfl)) (run_bin ok_in (pwo_var 8 (pv 8)) (pwo_var 3 (pv 3)))) (pww_and1 (pwt_of (pt_cmpR (op_neA hu64) pe_sem pe_sem (nomark _)) (run_bin ok_ne (pwo_var 8 (pv 8)) (pwo_var 2 (pv 2))))))) (fun _ _ _ _ _ => by exact pwe_of (pe_ix (ix_all hu) pe_sem pe_sem (fun _ _ => rfl)) (run_bin ok_ix (pwo_var 3 (pv 3)) (pwo_var 8 (pv 8))))))
    (pwss_cons (pws_if (pwt_of (pt_cmpR (op_eqA hu64) pe_sem pe_sem (nomark _)) (run_bin ok_eq (pwo_val (by exact pwe_of (pe_callB call_lenA (by rfl) T.b_len (by decide +kernel) pa_sem) (run_prim ok_len (pwa_cons (pwo_var 4 (pv 4)) (pwa_nil))))) (pwo_val (by exact pwe_int)))) (pwss_one (pws_ret (pwe_non))) (pwss_nil))
    (pwss_cons (pws_set (ps_set (i := 5) scring_from.nd rfl (Or.inl rfl) pe_sem) (PWE.sem (pwe_lst (pwa_cons (pwo_val (by exact pwe_var 2 (pv 2))) (pwa_nil)))))
    (pwss_cons (pws_set (ps_set (i := 6) scring_from.nd rfl (Or.inr rfl) pe_sem) (PWE.sem (pwe_of (pe_callB (call_minA rfl) (by rfl) T.b_min (by decide +kernel) pa_sem) (run_prim ok_min (pwa_cons (pwo_var 4 (pv 4)) (pwa_nil))))))
    (pwss_cons (pws_while (ps_while (passes_of rfl) pt_sem pss_sem) (pwt_of (pt_cmpR op_gtA pe_sem pe_sem (nomark _)) (run_bin ok_gt (pwo_var 6 (pv 6)) (pwo_val (by exact pwe_int)))) (pwss_cons (pws_set (ps_setLc1 (i := 7) rfl scring_from.nd rfl rfl (sw_true rfl rfl rfl (by decide +kernel)) pi_sem (blkOk_by (own := [("name", 8)]) (N := Nring_from) (sc := defScope sring_from) (by decide +kernel))) (run_lc1 (own := [("name", 8)]) (by exact pwi_list (pwe_of (pe_ix (ix_all hu) pe_sem pe_sem (fun _ _ => rfl)) (run_bin ok_ix (pwo_var 0 (pv 0)) (pwo_val (by exact pwe_of (pe_ix (ix_all hu) pe_sem pe_sem (fun _ _ => rfl)) (run_bin ok_ix (pwo_var 5 (pv 5)) (pwo_val (by exact pwe_of (pe_un un_neg pe_sem) (run_un ok_neg (pwo_val (by exact pwe_int))))))))))) (fun _ _ _ _ _ => by exact pwg_of (pg_name (i := 8) scring_from.nd rfl (by first | exact Or.inl rfl | exact Or.inr rfl)) (rung_name 8)) (fun _ _ _ _ _ => by exact pwt_of (pt_cmpR (op_eqA hu64) pe_sem pe_sem (nomark _)) (run_bin ok_eq (pwo_val (by exact pwe_of (pe_dget2 hu pe_sem pe_sem pe_sem ⟨rfl, rfl, rfl, rfl⟩) (run_get2 (pwo_var 3 (pv 3)) (pwe_var 8 (pv 8)) (pwe_int)))) (pwo_var 6 (pv 6)))) (fun _ _ _ _ _ => by exact pwe_var 8 (pv 8))))
    (pwss_cons (pws_expr (ps_expr pe_sem) (PWE.sem (pwe_of (pe_bm PySem.F.plainAttrs_list PySem.F.slot_list_append PySem.F.type_list_append mt_append (pv 5) (pa_cons pe_sem pa_nil)) (run_app 5 (pwe_of (pe_callB (call_minDA rfl hu64) (by rfl) T.b_min (by decide +kernel) pa_sem) (run_prim ok_minD (pwa_cons (pwo_var 7 (pv 7)) (pwa_nil))))))))
    (pwss_one (pws_aug (ps_aug (i := 6) scring_from.nd rfl (Or.inr rfl) pe_sem ip_subA) ok_sub (pwe_int))))))
    (pwss_one (pws_ret (pwe_of (pe_callTy call_tuple_of (by rfl) T.b_tuple (by decide +kernel) pa_sem) (run_prim ok_tuple (pwa_cons (pwo_var 5 (pv 5)) (pwa_nil))))))))))))
theorem def_least_ring {f : Addr} {fd : FuncData} (T : Blt mg) (D_ring_from : Def P w K mg base 2 "ring_from" ["waits", "inside", "start"] S_ring_from) (F : Fun K "least_ring" "least_ring" sleast_ring f fd) (g : mg "least_ring" = some (.ref f))
    (rd : Reads S_least_ring (fun EX => v_least_ring) 5) (len : ∀ ρs R RX, S_least_ring ρs R RX → ρs.length = 2) : Def P w K mg base 3 "least_ring" ["waits", "knot"] S_least_ring := by
  refine ⟨f, fd, fn_w (t := fun EX => v_least_ring) F scleast_ring (by decide) len (fun Φ cdv A outer s H E hr tk => ?_) rd, g, F.kp, F.binds fun _ _ _ _ _ _ us hl => match us, hl with | [_, _], _ => rfl⟩
  show PWSs _ Φ _ (v_least_ring)
  have hu : (A.deeper (envOfC "least_ring" (defScope sleast_ring) s.heap.objs.size f cdv)).units + 1 < cLine := hu_of hr
  have hu64 : (A.deeper (envOfC "least_ring" (defScope sleast_ring) s.heap.objs.size f cdv)).units + 64 < cLine := hr.units
  have hu65 : (A.deeper (envOfC "least_ring" (defScope sleast_ring) s.heap.objs.size f cdv)).units + 65 < cLine := by have := hr.un; omega
  unfold v_least_ring
  exact pwss_cons (pws_set (ps_setDc0 (i := 2) (own := [("name", 6)]) rfl scleast_ring.nd rfl rfl (sw_trueD rfl rfl rfl (by decide +kernel)) pi_sem (blkOk_by (own := [("name", 6)]) (N := Nleast_ring) (sc := defScope sleast_ring) (by decide +kernel))) (run_dc0 (own := [("name", 6)]) (by exact pwi_list (pwe_var 1 (pv 1))) (fun _ _ _ _ _ => by exact pwg_of (pg_name (i := 6) scleast_ring.nd rfl (by first | exact Or.inl rfl | exact Or.inr rfl)) (rung_name 6)) (fun _ _ _ _ _ => by exact pwe_var 6 (pv 6)) (fun _ _ _ _ _ => by exact pwe_bl)))
    (pwss_cons (pws_set (ps_set (i := 3) scleast_ring.nd rfl (Or.inl rfl) pe_sem) (PWE.sem (pwe_non)))
    (pwss_cons (pws_know 2 (pws_for (ps_for (passes_of rfl) rfl pi_sem pg_sem pss_sem) (pwi_list (pwe_of (pe_callB (call_sortDA rfl) (by rfl) T.b_sorted (by decide +kernel) pa_sem) (run_prim ok_sortD (pwa_cons (pwo_var 2 (pv 2)) (pwa_nil))))) (pwg_of (pg_name (i := 4) scleast_ring.nd rfl (Or.inl rfl)) (rung_name 4)) (pwss_cons (pws_set (ps_set (i := 5) scleast_ring.nd rfl (Or.inl rfl) pe_sem) (PWE.sem (pwe_callD D_ring_from (hr.mono (by decide)) (by rfl) (pwa_cons (pwo_val (pwe_var 0 (pv 0))) (pwa_cons (pwo_val (pwe_var 2 (pv 2))) (pwa_cons (pwo_val (pwe_var 4 (pv 4))) (pwa_nil)))))))
    (pwss_one (pws_if (PWW.pt (pww_and (pwt_of (pt_cmpR op_notN pe_sem pe_sem (nomark _)) (run_bin ok_notN (pwo_var 5 (pv 5)) (pwo_val (by exact pwe_non)))) (pww_and1 (PWW.pt (pww_or (pwt_of (pt_cmpR op_isN pe_sem pe_sem (nomark _)) (run_bin ok_isN (pwo_var 3 (pv 3)) (pwo_val (by exact pwe_non)))) (pww_or1 (pwt_of (pt_cmpR op_ltA pe_sem pe_sem (nomark _)) (run_bin ok_lt (pwo_val (by exact pwe_of (pe_callB call_lenA (by rfl) T.b_len (by decide +kernel) pa_sem) (run_prim ok_len (pwa_cons (pwo_var 5 (pv 5)) (pwa_nil))))) (pwo_val (by exact pwe_of (pe_callB call_lenA (by rfl) T.b_len (by decide +kernel) pa_sem) (run_prim ok_len (pwa_cons (pwo_var 3 (pv 3)) (pwa_nil))))))))))))) (pwss_one (pws_set (ps_set (i := 3) scleast_ring.nd rfl (Or.inl rfl) pe_sem) (PWE.sem (pwe_var 5 (pv 5))))) (pwss_nil))))))
    (pwss_one (pws_ret (pwe_mv 3 (pv 3))))))
theorem def_source {f : Addr} {fd : FuncData} (T : Blt mg) (F : Fun K "_law_source" "_law_source" ssource f fd) (g : mg "_law_source" = some (.ref f))
    (rd : Reads S_source (fun EX => v_source) 4) (len : ∀ ρs R RX, S_source ρs R RX → ρs.length = 2) : Def P w K mg base 1 "_law_source" ["script", "at"] S_source := by
  refine ⟨f, fd, fn_w (t := fun EX => v_source) F scsource (by decide) len (fun Φ cdv A outer s H E hr tk => ?_) rd, g, F.kp, F.binds fun _ _ _ _ _ _ us hl => match us, hl with | [_, _], _ => rfl⟩
  show PWSs _ Φ _ (v_source)
  have hu : (A.deeper (envOfC "_law_source" (defScope ssource) s.heap.objs.size f cdv)).units + 1 < cLine := hu_of hr
  have hu64 : (A.deeper (envOfC "_law_source" (defScope ssource) s.heap.objs.size f cdv)).units + 64 < cLine := hr.units
  have hu65 : (A.deeper (envOfC "_law_source" (defScope ssource) s.heap.objs.size f cdv)).units + 65 < cLine := by have := hr.un; omega
  unfold v_source
  exact pwss_cons (pws_set (ps_set (i := 2) scsource.nd rfl (Or.inl rfl) pe_sem) (PWE.sem (pwe_if (pwt_of (pt_cmpR op_ltA pe_sem pe_sem (nomark _)) (run_bin ok_lt (pwo_var 1 (pv 1)) (pwo_val (by exact pwe_of (pe_callB call_lenA (by rfl) T.b_len (by decide +kernel) pa_sem) (run_prim ok_len (pwa_cons (pwo_var 0 (pv 0)) (pwa_nil))))))) (pwe_of (pe_callTy call_int1 (by rfl) T.b_int (by decide +kernel) pa_sem) (run_prim ok_int (pwa_cons (pwo_val (by exact pwe_of (pe_ix (ix_all hu) pe_sem pe_sem (fun _ _ => rfl)) (run_bin ok_ix (pwo_var 0 (pv 0)) (pwo_var 1 (pv 1))))) (pwa_nil)))) (pwe_of (pe_op op_addA pe_sem pe_sem) (run_bin ok_add (pwo_val (by exact pwe_of (pe_op op_mulA pe_sem pe_sem) (run_bin ok_mul (pwo_val (by exact pwe_int)) (pwo_val (by exact pwe_of (pe_callB (cr_sum rfl) (by rfl) T.b_sum (by decide +kernel) pa_sem) (run_prim ok_sum (pwa_cons (pwo_val (by exact pwe_of (pe_lc0 rfl scsource.nd (blkOk_by (own := [("one", 5)]) (N := Nsource) (sc := defScope ssource) (by decide +kernel))) (run_lc0 (own := [("one", 5)]) (by exact pwi_list (pwe_of (pe_slice sl_all pe_sem po_none (po_some pe_sem)) (run_sl (pwo_var 0 (pv 0)) runo_none (runo_some (pwe_int))))) (fun _ _ _ _ _ => by exact pwg_of (pg_name (i := 5) scsource.nd rfl (by first | exact Or.inl rfl | exact Or.inr rfl)) (rung_name 5)) (fun _ _ _ _ _ => by exact pwe_of (pe_op op_mod pe_sem pe_sem) (run_bin ok_mod (pwo_val (by exact pwe_of (pe_callTy call_int1 (by rfl) T.b_int (by decide +kernel) pa_sem) (run_prim ok_int (pwa_cons (pwo_var 5 (pv 5)) (pwa_nil))))) (pwo_val (by exact pwe_int))))))) (pwa_nil)))))))) (pwo_val (by exact pwe_int)))))))
    (pwss_cons (pws_set (ps_set (i := 3) scsource.nd rfl (Or.inl rfl) pe_sem) (PWE.sem (pwe_of (pe_op op_mod pe_sem pe_sem) (run_bin ok_mod (pwo_val (by exact pwe_of (pe_callB call_abs (by rfl) T.b_abs (by decide +kernel) pa_sem) (run_prim ok_abs (pwa_cons (pwo_var 2 (pv 2)) (pwa_nil))))) (pwo_val (by exact pwe_of (pe_op op_mulA pe_sem pe_sem) (run_bin ok_mul (pwo_val (by exact pwe_of (pe_op op_pow pe_sem pe_sem) (run_bin ok_pow (pwo_val (by exact pwe_int)) (pwo_val (by exact pwe_int))))) (pwo_val (by exact pwe_of (pe_op op_pow pe_sem pe_sem) (run_bin ok_pow (pwo_val (by exact pwe_int)) (pwo_val (by exact pwe_int))))))))))))
    (pwss_cons (pws_set (ps_set (i := 4) scsource.nd rfl (Or.inl rfl) pe_sem) (PWE.sem (pwe_of (pe_op op_mod pe_sem pe_sem) (run_bin ok_mod (pwo_val (by exact pwe_of (pe_callTy call_int1 (by rfl) T.b_int (by decide +kernel) pa_sem) (run_prim ok_int (pwa_cons (pwo_val (by exact pwe_of (pe_op op_addA pe_sem pe_sem) (run_bin ok_add (pwo_val (by exact pwe_of (pe_op op_addA pe_sem pe_sem) (run_bin ok_add (pwo_val (by exact pwe_of (pe_op op_addA pe_sem pe_sem) (run_bin ok_add (pwo_val (by exact pwe_of (pe_op op_mulA pe_sem pe_sem) (run_bin ok_mul (pwo_val (by exact pwe_int)) (pwo_var 3 (pv 3))))) (pwo_val (by exact pwe_if (pwt_of (pt_cmpR op_ltA pe_sem pe_sem (nomark _)) (run_bin ok_lt (pwo_var 2 (pv 2)) (pwo_val (by exact pwe_int)))) (pwe_int) (pwe_int)))))) (pwo_val (by exact pwe_of (pe_op op_mulA pe_sem pe_sem) (run_bin ok_mul (pwo_var 1 (pv 1)) (pwo_val (by exact pwe_int)))))))) (pwo_val (by exact pwe_int))))) (pwa_nil))))) (pwo_val (by exact pwe_int))))))
    (pwss_one (pws_ret (pwe_lst (pwa_cons (pwo_val (by exact pwe_if (pwt_of (pt_cmpR op_ge pe_sem pe_sem (nomark _)) (run_bin ok_ge (pwo_var 3 (pv 3)) (pwo_val (by exact pwe_of (pe_op op_pow pe_sem pe_sem) (run_bin ok_pow (pwo_val (by exact pwe_int)) (pwo_val (by exact pwe_int))))))) (pwe_var 3 (pv 3)) (pwe_int))) (pwa_cons (pwo_val (by exact pwe_of (pe_op op_mod pe_sem pe_sem) (run_bin ok_mod (pwo_val (by exact pwe_of (pe_callTy call_int1 (by rfl) T.b_int (by decide +kernel) pa_sem) (run_prim ok_int (pwa_cons (pwo_val (by exact pwe_of (pe_op op_mulA pe_sem pe_sem) (run_bin ok_mul (pwo_val (by exact pwe_of (pe_op op_addA pe_sem pe_sem) (run_bin ok_add (pwo_var 4 (pv 4)) (pwo_val (by exact pwe_int))))) (pwo_val (by exact pwe_of (pe_op op_addA pe_sem pe_sem) (run_bin ok_add (pwo_var 4 (pv 4)) (pwo_val (by exact pwe_int)))))))) (pwa_nil))))) (pwo_val (by exact pwe_int))))) (pwa_cons (pwo_val (by exact pwe_var 1 (pv 1))) (pwa_nil)))))))))
theorem def_pick {f : Addr} {fd : FuncData} (T : Blt mg) (F : Fun K "_law_pick" "_law_pick" spick f fd) (g : mg "_law_pick" = some (.ref f))
    (rd : Reads S_pick (fun EX => v_pick) 1) (len : ∀ ρs R RX, S_pick ρs R RX → ρs.length = 2) : Def P w K mg base 1 "_law_pick" ["source", "many"] S_pick := by
  refine ⟨f, fd, fn_w (t := fun EX => v_pick) F scpick (by decide) len (fun Φ cdv A outer s H E hr tk => ?_) rd, g, F.kp, F.binds fun _ _ _ _ _ _ us hl => match us, hl with | [_, _], _ => rfl⟩
  show PWSs _ Φ _ (v_pick)
  have hu : (A.deeper (envOfC "_law_pick" (defScope spick) s.heap.objs.size f cdv)).units + 1 < cLine := hu_of hr
  have hu64 : (A.deeper (envOfC "_law_pick" (defScope spick) s.heap.objs.size f cdv)).units + 64 < cLine := hr.units
  have hu65 : (A.deeper (envOfC "_law_pick" (defScope spick) s.heap.objs.size f cdv)).units + 65 < cLine := by have := hr.un; omega
  unfold v_pick
  exact pwss_cons (pws_if (pwt_of (pt_cmpR op_gtA pe_sem pe_sem (nomark _)) (run_bin ok_gt (pwo_val (by exact pwe_of (pe_ix (ix_all hu) pe_sem pe_sem (fun _ _ => rfl)) (run_bin ok_ix (pwo_var 0 (pv 0)) (pwo_val (by exact pwe_int))))) (pwo_val (by exact pwe_int)))) (pwss_cons (pws_set (ps_set (i := 2) scpick.nd rfl (Or.inl rfl) pe_sem) (PWE.sem (pwe_of (pe_op op_mod pe_sem pe_sem) (run_bin ok_mod (pwo_val (by exact pwe_of (pe_callTy call_int1 (by rfl) T.b_int (by decide +kernel) pa_sem) (run_prim ok_int (pwa_cons (pwo_val (by exact pwe_of (pe_ix (ix_all hu) pe_sem pe_sem (fun _ _ => rfl)) (run_bin ok_ix (pwo_var 0 (pv 0)) (pwo_val (by exact pwe_int))))) (pwa_nil))))) (pwo_var 1 (pv 1))))))
    (pwss_cons (pws_setL 0 (ps_asg pe_sem (pg_sub (pv 0) pe_sem set_list)) (pwe_int) (pwe_of (pe_op op_divA pe_sem pe_sem) (run_bin ok_div (pwo_val (by exact pwe_of (pe_ix (ix_all hu) pe_sem pe_sem (fun _ _ => rfl)) (run_bin ok_ix (pwo_var 0 (pv 0)) (pwo_val (by exact pwe_int))))) (pwo_var 1 (pv 1)))))
    (pwss_one (pws_ret (pwe_mv 2 (pv 2)))))) (pwss_nil))
    (pwss_cons (pws_augL 0 (ps_augS (pv 0) pe_sem pget_list pe_sem ip_addA set_list) ok_iadd (pwe_int) (pwe_int))
    (pwss_cons (pws_setL 0 (ps_asg pe_sem (pg_sub (pv 0) pe_sem set_list)) (pwe_int) (pwe_of (pe_op op_mod pe_sem pe_sem) (run_bin ok_mod (pwo_val (by exact pwe_of (pe_callTy call_int1 (by rfl) T.b_int (by decide +kernel) pa_sem) (run_prim ok_int (pwa_cons (pwo_val (by exact pwe_of (pe_op op_addA pe_sem pe_sem) (run_bin ok_add (pwo_val (by exact pwe_of (pe_op op_mulA pe_sem pe_sem) (run_bin ok_mul (pwo_val (by exact pwe_of (pe_ix (ix_all hu) pe_sem pe_sem (fun _ _ => rfl)) (run_bin ok_ix (pwo_var 0 (pv 0)) (pwo_val (by exact pwe_int))))) (pwo_val (by exact pwe_int))))) (pwo_val (by exact pwe_of (pe_op op_mulA pe_sem pe_sem) (run_bin ok_mul (pwo_val (by exact pwe_of (pe_ix (ix_all hu) pe_sem pe_sem (fun _ _ => rfl)) (run_bin ok_ix (pwo_var 0 (pv 0)) (pwo_val (by exact pwe_int))))) (pwo_val (by exact pwe_int)))))))) (pwa_nil))))) (pwo_val (by exact pwe_int)))))
    (pwss_one (pws_ret (pwe_of (pe_op op_mod pe_sem pe_sem) (run_bin ok_mod (pwo_val (by exact pwe_of (pe_op op_divA pe_sem pe_sem) (run_bin ok_div (pwo_val (by exact pwe_of (pe_op op_mod pe_sem pe_sem) (run_bin ok_mod (pwo_val (by exact pwe_of (pe_callTy call_int1 (by rfl) T.b_int (by decide +kernel) pa_sem) (run_prim ok_int (pwa_cons (pwo_val (by exact pwe_of (pe_op op_addA pe_sem pe_sem) (run_bin ok_add (pwo_val (by exact pwe_of (pe_op op_mulA pe_sem pe_sem) (run_bin ok_mul (pwo_val (by exact pwe_of (pe_ix (ix_all hu) pe_sem pe_sem (fun _ _ => rfl)) (run_bin ok_ix (pwo_var 0 (pv 0)) (pwo_val (by exact pwe_int))))) (pwo_val (by exact pwe_int))))) (pwo_val (by exact pwe_of (pe_op op_mulA pe_sem pe_sem) (run_bin ok_mul (pwo_val (by exact pwe_of (pe_ix (ix_all hu) pe_sem pe_sem (fun _ _ => rfl)) (run_bin ok_ix (pwo_var 0 (pv 0)) (pwo_val (by exact pwe_int))))) (pwo_val (by exact pwe_int)))))))) (pwa_nil))))) (pwo_val (by exact pwe_int))))) (pwo_val (by exact pwe_int))))) (pwo_var 1 (pv 1))))))))
theorem def_choice {f : Addr} {fd : FuncData} (T : Blt mg) (D_pick : Def P w K mg base 1 "_law_pick" ["source", "many"] S_pick) (F : Fun K "_law_choice" "_law_choice" schoice f fd) (g : mg "_law_choice" = some (.ref f))
    (rd : Reads S_choice (fun EX => v_choice) 0) (len : ∀ ρs R RX, S_choice ρs R RX → ρs.length = 2) : Def P w K mg base 2 "_law_choice" ["source", "things"] S_choice := by
  refine ⟨f, fd, fn_w (t := fun EX => v_choice) F scchoice (by decide) len (fun Φ cdv A outer s H E hr tk => ?_) rd, g, F.kp, F.binds fun _ _ _ _ _ _ us hl => match us, hl with | [_, _], _ => rfl⟩
  show PWSs _ Φ _ (v_choice)
  have hu : (A.deeper (envOfC "_law_choice" (defScope schoice) s.heap.objs.size f cdv)).units + 1 < cLine := hu_of hr
  have hu64 : (A.deeper (envOfC "_law_choice" (defScope schoice) s.heap.objs.size f cdv)).units + 64 < cLine := hr.units
  have hu65 : (A.deeper (envOfC "_law_choice" (defScope schoice) s.heap.objs.size f cdv)).units + 65 < cLine := by have := hr.un; omega
  unfold v_choice
  exact pwss_one (pws_ret (pwe_of (pe_ix (ix_all hu) pe_sem pe_sem (fun _ _ => rfl)) (run_bin ok_ix (pwo_var 1 (pv 1)) (pwo_val (by exact pwe_callD D_pick (hr.mono (by decide)) (by rfl) (pwa_cons (pwo_var 0 (pv 0)) (pwa_cons (pwo_val (pwe_sh (by exact pwe_of (pe_callB call_lenA (by rfl) T.b_len (by decide +kernel) pa_sem) (run_prim ok_len (pwa_cons (pwo_var 1 (pv 1)) (pwa_nil)))))) (pwa_nil))))))))
theorem def_shuffled {f : Addr} {fd : FuncData} (T : Blt mg) (D_pick : Def P w K mg base 1 "_law_pick" ["source", "many"] S_pick) (F : Fun K "_law_shuffled" "_law_shuffled" sshuffled f fd) (g : mg "_law_shuffled" = some (.ref f))
    (rd : Reads S_shuffled (fun EX => v_shuffled) 2) (len : ∀ ρs R RX, S_shuffled ρs R RX → ρs.length = 2) : Def P w K mg base 2 "_law_shuffled" ["source", "things"] S_shuffled := by
  refine ⟨f, fd, fn_w (t := fun EX => v_shuffled) F scshuffled (by decide) len (fun Φ cdv A outer s H E hr tk => ?_) rd, g, F.kp, F.binds fun _ _ _ _ _ _ us hl => match us, hl with | [_, _], _ => rfl⟩
  show PWSs _ Φ _ (v_shuffled)
  have hu : (A.deeper (envOfC "_law_shuffled" (defScope sshuffled) s.heap.objs.size f cdv)).units + 1 < cLine := hu_of hr
  have hu64 : (A.deeper (envOfC "_law_shuffled" (defScope sshuffled) s.heap.objs.size f cdv)).units + 64 < cLine := hr.units
  have hu65 : (A.deeper (envOfC "_law_shuffled" (defScope sshuffled) s.heap.objs.size f cdv)).units + 65 < cLine := by have := hr.un; omega
  unfold v_shuffled
  exact pwss_cons (pws_set (ps_set (i := 2) scshuffled.nd rfl (Or.inl rfl) pe_sem) (PWE.sem (pwe_of (pe_callTy (call_listA rfl) (by rfl) T.b_list (by decide +kernel) pa_sem) (run_prim ok_list (pwa_cons (pwo_var 1 (pv 1)) (pwa_nil))))))
    (pwss_cons (pws_set (ps_set (i := 3) scshuffled.nd rfl (Or.inl rfl) pe_sem) (PWE.sem (pwe_lst (pwa_nil))))
    (pwss_cons (pws_while (ps_while (passes_of rfl) pt_sem pss_sem) (pwt_of (pt_cmpR op_gtA pe_sem pe_sem (nomark _)) (run_bin ok_gt (pwo_val (by exact pwe_of (pe_callB call_lenA (by rfl) T.b_len (by decide +kernel) pa_sem) (run_prim ok_len (pwa_cons (pwo_var 2 (pv 2)) (pwa_nil))))) (pwo_val (by exact pwe_int)))) (pwss_one (pws_expr (ps_expr pe_sem) (PWE.sem (pwe_of (pe_bm PySem.F.plainAttrs_list PySem.F.slot_list_append PySem.F.type_list_append mt_append (pv 3) (pa_cons pe_sem pa_nil)) (run_app 3 (pwe_of (pe_bm PySem.F.plainAttrs_list PySem.F.slot_list_pop PySem.F.type_list_pop mt_popAt (pv 2) (pa_cons pe_sem pa_nil)) (run_popAt 2 (pwe_callD D_pick (hr.mono (by decide)) (by rfl) (pwa_cons (pwo_var 0 (pv 0)) (pwa_cons (pwo_val (pwe_sh (by exact pwe_of (pe_callB call_lenA (by rfl) T.b_len (by decide +kernel) pa_sem) (run_prim ok_len (pwa_cons (pwo_var 2 (pv 2)) (pwa_nil)))))) (pwa_nil))))))))))))
    (pwss_one (pws_ret (pwe_mv 3 (pv 3))))))
theorem def_names {f : Addr} {fd : FuncData} (T : Blt mg) (D_choice : Def P w K mg base 2 "_law_choice" ["source", "things"] S_choice) (D_pick : Def P w K mg base 1 "_law_pick" ["source", "many"] S_pick) (D_shuffled : Def P w K mg base 2 "_law_shuffled" ["source", "things"] S_shuffled) (F : Fun K "_law_names" "_law_names" snames f fd) (g : mg "_law_names" = some (.ref f))
    (rd : Reads S_names (fun EX => v_names) 5) (len : ∀ ρs R RX, S_names ρs R RX → ρs.length = 3) : Def P w K mg base 3 "_law_names" ["source", "many", "before"] S_names := by
  refine ⟨f, fd, fn_w (t := fun EX => v_names) F scnames (by decide) len (fun Φ cdv A outer s H E hr tk => ?_) rd, g, F.kp, F.binds fun _ _ _ _ _ _ us hl => match us, hl with | [_, _, _], _ => rfl⟩
  show PWSs _ Φ _ (v_names)
  have hu : (A.deeper (envOfC "_law_names" (defScope snames) s.heap.objs.size f cdv)).units + 1 < cLine := hu_of hr
  have hu64 : (A.deeper (envOfC "_law_names" (defScope snames) s.heap.objs.size f cdv)).units + 64 < cLine := hr.units
  have hu65 : (A.deeper (envOfC "_law_names" (defScope snames) s.heap.objs.size f cdv)).units + 65 < cLine := by have := hr.un; omega
  unfold v_names
  exact pwss_cons (pws_set (ps_set (i := 3) scnames.nd rfl (Or.inr rfl) pe_sem) (PWE.sem (pwe_str)))
    (pwss_cons (pws_set (ps_set (i := 4) scnames.nd rfl (Or.inr rfl) pe_sem) (PWE.sem (pwe_of (pe_join pe_sem pe_sem) (run_m1 ok_join (pwo_val (by exact pwe_str)) (pwo_val (by exact pwe_of (pe_lc0 rfl scnames.nd (blkOk_by (own := [("k", 7)]) (N := Nnames) (sc := defScope snames) (by decide +kernel))) (run_lc0 (own := [("k", 7)]) (by exact pwi_range1 (pi_range1 (by rfl) T.b_range pa_sem) (pwa_cons (pwo_val (by exact pwe_of (pe_op op_addA pe_sem pe_sem) (run_bin ok_add (pwo_val (by exact pwe_int)) (pwo_val (by exact pwe_callD D_pick (hr.mono (by decide)) (by rfl) (pwa_cons (pwo_var 0 (pv 0)) (pwa_cons (pwo_val (pwe_int)) (pwa_nil)))))))) (pwa_nil))) (fun _ _ _ _ _ => by exact pwg_of (pg_name (i := 7) scnames.nd rfl (by first | exact Or.inl rfl | exact Or.inr rfl)) (rung_name 7)) (fun _ _ _ _ _ => by exact pwe_of (pe_ix (ix_all hu) pe_sem pe_sem (fun _ _ => rfl)) (run_bin ok_ix (pwo_var 3 (pv 3)) (pwo_val (by exact pwe_callD D_pick (hr.mono (by decide)) (by rfl) (pwa_cons (pwo_var 0 (pv 0)) (pwa_cons (pwo_val (pwe_int)) (pwa_nil))))))))))))))
    (pwss_cons (pws_set (ps_set (i := 5) scnames.nd rfl (Or.inr rfl) pe_sem) (PWE.sem (pwe_callD D_choice (hr.mono (by decide)) (by rfl) (pwa_cons (pwo_var 0 (pv 0)) (pwa_cons (pwo_val (pwe_sh (by exact pwe_lst (pwa_cons (pwo_val (by exact pwe_str)) (pwa_cons (pwo_val (by exact pwe_str)) (pwa_cons (pwo_val (by exact pwe_str)) (pwa_cons (pwo_val (by exact pwe_str)) (pwa_nil)))))))) (pwa_nil))))))
    (pwss_cons (pws_set (ps_set (i := 6) scnames.nd rfl (Or.inr rfl) pe_sem) (PWE.sem (pwe_callD D_choice (hr.mono (by decide)) (by rfl) (pwa_cons (pwo_var 0 (pv 0)) (pwa_cons (pwo_val (pwe_sh (by exact pwe_lst (pwa_cons (pwo_val (by exact pwe_str)) (pwa_cons (pwo_val (by exact pwe_str)) (pwa_cons (pwo_val (by exact pwe_str)) (pwa_cons (pwo_val (by exact pwe_str)) (pwa_nil)))))))) (pwa_nil))))))
    (pwss_one (pws_ret (pwe_callD D_shuffled (hr.mono (by decide)) (by rfl) (pwa_cons (pwo_var 0 (pv 0)) (pwa_cons (pwo_val (pwe_sh (by exact pwe_of (pe_lc0 rfl scnames.nd (blkOk_by (own := [("k", 7)]) (N := Nnames) (sc := defScope snames) (by decide +kernel))) (run_lc0 (own := [("k", 7)]) (by exact pwi_range1 (pi_range1 (by rfl) T.b_range pa_sem) (pwa_cons (pwo_var 1 (pv 1)) (pwa_nil))) (fun _ _ _ _ _ => by exact pwg_of (pg_name (i := 7) scnames.nd rfl (by first | exact Or.inl rfl | exact Or.inr rfl)) (rung_name 7)) (fun _ _ _ _ _ => by exact pwe_of (pe_op op_addA pe_sem pe_sem) (run_bin ok_add (pwo_val (by exact pwe_of (pe_op op_addA pe_sem pe_sem) (run_bin ok_add (pwo_val (by exact pwe_of (pe_op op_addA pe_sem pe_sem) (run_bin ok_add (pwo_var 4 (pv 4)) (pwo_var 5 (pv 5))))) (pwo_val (by exact pwe_of (pe_callTy call_strA (by rfl) T.b_str (by decide +kernel) pa_sem) (run_prim ok_str (pwa_cons (pwo_val (by exact pwe_of (pe_op op_addA pe_sem pe_sem) (run_bin ok_add (pwo_val (by exact pwe_of (pe_op op_addA pe_sem pe_sem) (run_bin ok_add (pwo_val (by exact pwe_int)) (pwo_val (by exact pwe_of (pe_op op_mulA pe_sem pe_sem) (run_bin ok_mul (pwo_var 2 (pv 2)) (pwo_val (by exact pwe_int)))))))) (pwo_var 7 (pv 7))))) (pwa_nil)))))))) (pwo_var 6 (pv 6)))))))) (pwa_nil)))))))))
theorem def_same {f : Addr} {fd : FuncData} (T : Blt mg) {kr : Nat} {S_same S1_same : VSp} (D_same : Def P w K mg base kr "_law_same" ["answer", "due"] S_same) (F : Fun K "_law_same" "_law_same" ssame f fd) (g : mg "_law_same" = some (.ref f))
    (rd : Reads S1_same (fun EX => v_same S_same) 4) (len : ∀ ρs R RX, S1_same ρs R RX → ρs.length = 2) : Def P w K mg base (kr + 1) "_law_same" ["answer", "due"] S1_same := by
  refine ⟨f, fd, fn_w (t := fun EX => v_same S_same) F scsame (by decide) len (fun Φ cdv A outer s H E hr tk => ?_) rd, g, F.kp, F.binds fun _ _ _ _ _ _ us hl => match us, hl with | [_, _], _ => rfl⟩
  show PWSs _ Φ _ (v_same S_same)
  have hu : (A.deeper (envOfC "_law_same" (defScope ssame) s.heap.objs.size f cdv)).units + 1 < cLine := hu_of hr
  have hu64 : (A.deeper (envOfC "_law_same" (defScope ssame) s.heap.objs.size f cdv)).units + 64 < cLine := hr.units
  have hu65 : (A.deeper (envOfC "_law_same" (defScope ssame) s.heap.objs.size f cdv)).units + 65 < cLine := by have := hr.un; omega
  unfold v_same
  exact pwss_cons (pws_if (pwt_truth (pwo_val (by exact pwe_of (pe_callB call_isi (by rfl) T.b_isinstance (by decide +kernel) pa_sem) (run_prim ok_isi (pwa_cons (pwo_var 1 (pv 1)) (pwa_cons (pwo_val (by exact pwe_c (pe_bltn (v := .ty "dict") (by rfl) T.b_dict (by decide +kernel) rfl) (fun _ _ => .opq))) (pwa_nil))))))) (pwss_cons (pws_setLcK 1 (ps_setLc0 (i := 2) (own := [("key", 3)]) rfl scsame.nd rfl rfl (sw_true rfl rfl rfl (by decide +kernel)) (pi_keys (pv 1)) (blkOk_by (own := [("key", 3)]) (N := Nsame) (sc := defScope ssame) (by decide +kernel))) (rung_U (fun _ _ _ _ _ => by exact pwg_of (pg_name (i := 3) scsame.nd rfl (by first | exact Or.inl rfl | exact Or.inr rfl)) (rung_name 3))) runt_yes (rune_U (fun _ _ _ _ _ => by exact pwe_lst (pwa_cons (pwo_val (by exact pwe_var 3 (pv 3))) (pwa_cons (pwo_val (by exact pwe_of (pe_ix (ix_all hu) pe_sem pe_sem (fun _ _ => rfl)) (run_bin ok_ix (pwo_var 1 (pv 1)) (pwo_var 3 (pv 3))))) (pwa_nil))))) (by decide))
    (pwss_cons (pws_if (PWW.pt (pww_or (pwt_not (pwt_truth (pwo_val (by exact pwe_of (pe_callB call_isi (by rfl) T.b_isinstance (by decide +kernel) pa_sem) (run_prim ok_isi (pwa_cons (pwo_var 0 (pv 0)) (pwa_cons (pwo_val (by exact pwe_c (pe_bltn (v := .ty "dict") (by rfl) T.b_dict (by decide +kernel) rfl) (fun _ _ => .opq))) (pwa_nil)))))))) (pww_or1 (pwt_of (pt_cmpR (op_neA hu64) pe_sem pe_sem (nomark _)) (run_bin ok_ne (pwo_val (by exact pwe_of (pe_callB call_lenA (by rfl) T.b_len (by decide +kernel) pa_sem) (run_prim ok_len (pwa_cons (pwo_var 0 (pv 0)) (pwa_nil))))) (pwo_val (by exact pwe_of (pe_callB call_lenA (by rfl) T.b_len (by decide +kernel) pa_sem) (run_prim ok_len (pwa_cons (pwo_var 1 (pv 1)) (pwa_nil)))))))))) (pwss_one (pws_ret (pwe_bl))) (pwss_nil))
    (pwss_one (pws_ret (pwe_of (pe_callB (cr_all rfl) (by rfl) T.b_all (by decide +kernel) pa_sem) (run_prim ok_all (pwa_cons (pwo_val (by exact pwe_of (pe_lc0 rfl scsame.nd (blkOk_by (own := [("key", 3), ("one", 4)]) (N := Nsame) (sc := defScope ssame) (by decide +kernel))) (run_lc0 (own := [("key", 3), ("one", 4)]) (by exact pwi_list (pwe_var 2 (pv 2))) (fun _ _ _ _ _ => by exact pwg_of (pg_lst rfl (pgs_cons (pg_name (i := 3) scsame.nd rfl (by first | exact Or.inl rfl | exact Or.inr rfl)) (pgs_cons (pg_name (i := 4) scsame.nd rfl (by first | exact Or.inl rfl | exact Or.inr rfl)) pgs_nil))) (rung_lst [3, 4])) (fun _ _ _ _ _ => by exact pwe_and (pwe_of (pe_cmpR (op_inA hu) pe_sem pe_sem (by rfl)) (run_bin ok_in (pwo_var 3 (pv 3)) (pwo_var 0 (pv 0)))) (pwe_one (pwe_callD D_same (hr.mono (Nat.le_refl _)) (by rfl) (pwa_cons (pwo_val (pwe_sh (by exact pwe_of (pe_ix (ix_all hu) pe_sem pe_sem (fun _ _ => rfl)) (run_bin ok_ix (pwo_var 0 (pv 0)) (pwo_var 3 (pv 3)))))) (pwa_cons (pwo_val (pwe_var 4 (pv 4))) (pwa_nil))))))))) (pwa_nil)))))))) (pwss_nil))
    (pwss_cons (pws_if (pwt_truth (pwo_val (by exact pwe_of (pe_callB call_isiT (by rfl) T.b_isinstance (by decide +kernel) pa_sem) (run_prim ok_isiT (pwa_cons (pwo_var 1 (pv 1)) (pwa_cons (pwo_val (by exact pwe_tup (pwa_cons (pwo_val (by exact pwe_c (pe_bltn (v := .ty "list") (by rfl) T.b_list (by decide +kernel) rfl) (fun _ _ => .opq))) (pwa_cons (pwo_val (by exact pwe_c (pe_bltn (v := .ty "tuple") (by rfl) T.b_tuple (by decide +kernel) rfl) (fun _ _ => .opq))) (pwa_nil))))) (pwa_nil))))))) (pwss_cons (pws_if (PWW.pt (pww_or (pwt_of (pt_cmpR (op_neA hu64) pe_sem pe_sem (nomark _)) (run_bin ok_ne (pwo_val (by exact pwe_of (pe_callB call_isi (by rfl) T.b_isinstance (by decide +kernel) pa_sem) (run_prim ok_isi (pwa_cons (pwo_var 1 (pv 1)) (pwa_cons (pwo_val (by exact pwe_c (pe_bltn (v := .ty "list") (by rfl) T.b_list (by decide +kernel) rfl) (fun _ _ => .opq))) (pwa_nil)))))) (pwo_val (by exact pwe_of (pe_callB call_isi (by rfl) T.b_isinstance (by decide +kernel) pa_sem) (run_prim ok_isi (pwa_cons (pwo_var 0 (pv 0)) (pwa_cons (pwo_val (by exact pwe_c (pe_bltn (v := .ty "list") (by rfl) T.b_list (by decide +kernel) rfl) (fun _ _ => .opq))) (pwa_nil)))))))) (pww_or1 (pwt_of (pt_cmpR (op_neA hu64) pe_sem pe_sem (nomark _)) (run_bin ok_ne (pwo_val (by exact pwe_of (pe_callB call_isi (by rfl) T.b_isinstance (by decide +kernel) pa_sem) (run_prim ok_isi (pwa_cons (pwo_var 1 (pv 1)) (pwa_cons (pwo_val (by exact pwe_c (pe_bltn (v := .ty "tuple") (by rfl) T.b_tuple (by decide +kernel) rfl) (fun _ _ => .opq))) (pwa_nil)))))) (pwo_val (by exact pwe_of (pe_callB call_isi (by rfl) T.b_isinstance (by decide +kernel) pa_sem) (run_prim ok_isi (pwa_cons (pwo_var 0 (pv 0)) (pwa_cons (pwo_val (by exact pwe_c (pe_bltn (v := .ty "tuple") (by rfl) T.b_tuple (by decide +kernel) rfl) (fun _ _ => .opq))) (pwa_nil))))))))))) (pwss_one (pws_ret (pwe_bl))) (pwss_nil))
    (pwss_one (pws_ret (pwe_and (pwe_of (pe_cmpR (op_eqA hu64) pe_sem pe_sem (nomark _)) (run_bin ok_eq (pwo_val (by exact pwe_of (pe_callB call_lenA (by rfl) T.b_len (by decide +kernel) pa_sem) (run_prim ok_len (pwa_cons (pwo_var 0 (pv 0)) (pwa_nil))))) (pwo_val (by exact pwe_of (pe_callB call_lenA (by rfl) T.b_len (by decide +kernel) pa_sem) (run_prim ok_len (pwa_cons (pwo_var 1 (pv 1)) (pwa_nil))))))) (pwe_one (pwe_of (pe_callB (cr_all rfl) (by rfl) T.b_all (by decide +kernel) pa_sem) (run_prim ok_all (pwa_cons (pwo_val (by exact pwe_of (pe_lc0 rfl scsame.nd (blkOk_by (own := [("at", 5)]) (N := Nsame) (sc := defScope ssame) (by decide +kernel))) (run_lc0 (own := [("at", 5)]) (by exact pwi_range1 (pi_range1 (by rfl) T.b_range pa_sem) (pwa_cons (pwo_val (by exact pwe_of (pe_callB call_lenA (by rfl) T.b_len (by decide +kernel) pa_sem) (run_prim ok_len (pwa_cons (pwo_var 1 (pv 1)) (pwa_nil))))) (pwa_nil))) (fun _ _ _ _ _ => by exact pwg_of (pg_name (i := 5) scsame.nd rfl (by first | exact Or.inl rfl | exact Or.inr rfl)) (rung_name 5)) (fun _ _ _ _ _ => by exact pwe_callD D_same (hr.mono (Nat.le_refl _)) (by rfl) (pwa_cons (pwo_val (pwe_sh (by exact pwe_of (pe_ix (ix_all hu) pe_sem pe_sem (fun _ _ => rfl)) (run_bin ok_ix (pwo_var 0 (pv 0)) (pwo_var 5 (pv 5)))))) (pwa_cons (pwo_val (pwe_sh (by exact pwe_of (pe_ix (ix_all hu) pe_sem pe_sem (fun _ _ => rfl)) (run_bin ok_ix (pwo_var 1 (pv 1)) (pwo_var 5 (pv 5)))))) (pwa_nil))))))) (pwa_nil))))))))) (pwss_nil))
    (pwss_one (pws_ret (pwe_and (pwe_or (pwe_of (pe_cmpR op_isN pe_sem pe_sem (nomark _)) (run_bin ok_isN (pwo_var 0 (pv 0)) (pwo_val (by exact pwe_non)))) (pwe_one (pwe_of (pe_callB call_isiT (by rfl) T.b_isinstance (by decide +kernel) pa_sem) (run_prim ok_isiT (pwa_cons (pwo_var 0 (pv 0)) (pwa_cons (pwo_val (by exact pwe_tup (pwa_cons (pwo_val (by exact pwe_c (pe_bltn (v := .ty "int") (by rfl) T.b_int (by decide +kernel) rfl) (fun _ _ => .opq))) (pwa_cons (pwo_val (by exact pwe_c (pe_bltn (v := .ty "str") (by rfl) T.b_str (by decide +kernel) rfl) (fun _ _ => .opq))) (pwa_nil))))) (pwa_nil))))))) (pwe_one (pwe_of (pe_cmpR (op_eqA hu64) pe_sem pe_sem (nomark _)) (run_bin ok_eq (pwo_val (by exact pwe_of (pe_callB call_reprA (by rfl) T.b_repr (by decide +kernel) pa_sem) (run_prim ok_repr (pwa_cons (pwo_var 0 (pv 0)) (pwa_nil))))) (pwo_val (by exact pwe_of (pe_callB call_reprA (by rfl) T.b_repr (by decide +kernel) pa_sem) (run_prim ok_repr (pwa_cons (pwo_var 1 (pv 1)) (pwa_nil))))))))))))
theorem def_copied {f : Addr} {fd : FuncData} (T : Blt mg) {kr : Nat} {S_copied S1_copied : VSp} (D_copied : Def P w K mg base kr "_law_copied" ["thing"] S_copied) (F : Fun K "_law_copied" "_law_copied" scopied f fd) (g : mg "_law_copied" = some (.ref f))
    (rd : Reads S1_copied (fun EX => v_copied S_copied) 2) (len : ∀ ρs R RX, S1_copied ρs R RX → ρs.length = 1) : Def P w K mg base (kr + 1) "_law_copied" ["thing"] S1_copied := by
  refine ⟨f, fd, fn_w (t := fun EX => v_copied S_copied) F sccopied (by decide) len (fun Φ cdv A outer s H E hr tk => ?_) rd, g, F.kp, F.binds fun _ _ _ _ _ _ us hl => match us, hl with | [_], _ => rfl⟩
  show PWSs _ Φ _ (v_copied S_copied)
  have hu : (A.deeper (envOfC "_law_copied" (defScope scopied) s.heap.objs.size f cdv)).units + 1 < cLine := hu_of hr
  have hu64 : (A.deeper (envOfC "_law_copied" (defScope scopied) s.heap.objs.size f cdv)).units + 64 < cLine := hr.units
  have hu65 : (A.deeper (envOfC "_law_copied" (defScope scopied) s.heap.objs.size f cdv)).units + 65 < cLine := by have := hr.un; omega
  unfold v_copied
  exact pwss_cons (pws_if (pwt_truth (pwo_val (by exact pwe_of (pe_callB call_isi (by rfl) T.b_isinstance (by decide +kernel) pa_sem) (run_prim ok_isi (pwa_cons (pwo_var 0 (pv 0)) (pwa_cons (pwo_val (by exact pwe_c (pe_bltn (v := .ty "list") (by rfl) T.b_list (by decide +kernel) rfl) (fun _ _ => .opq))) (pwa_nil))))))) (pwss_one (pws_ret (pwe_of (pe_lc0 rfl sccopied.nd (blkOk_by (own := [("one", 1)]) (N := Ncopied) (sc := defScope scopied) (by decide +kernel))) (run_lc0 (own := [("one", 1)]) (by exact pwi_list (pwe_var 0 (pv 0))) (fun _ _ _ _ _ => by exact pwg_of (pg_name (i := 1) sccopied.nd rfl (by first | exact Or.inl rfl | exact Or.inr rfl)) (rung_name 1)) (fun _ _ _ _ _ => by exact pwe_callD D_copied (hr.mono (Nat.le_refl _)) (by rfl) (pwa_cons (pwo_val (pwe_var 1 (pv 1))) (pwa_nil))))))) (pwss_nil))
    (pwss_cons (pws_if (pwt_truth (pwo_val (by exact pwe_of (pe_callB call_isi (by rfl) T.b_isinstance (by decide +kernel) pa_sem) (run_prim ok_isi (pwa_cons (pwo_var 0 (pv 0)) (pwa_cons (pwo_val (by exact pwe_c (pe_bltn (v := .ty "tuple") (by rfl) T.b_tuple (by decide +kernel) rfl) (fun _ _ => .opq))) (pwa_nil))))))) (pwss_one (pws_ret (pwe_of (pe_callTy call_tuple_of (by rfl) T.b_tuple (by decide +kernel) pa_sem) (run_prim ok_tuple (pwa_cons (pwo_val (by exact pwe_of (pe_lc0 rfl sccopied.nd (blkOk_by (own := [("one", 1)]) (N := Ncopied) (sc := defScope scopied) (by decide +kernel))) (run_lc0 (own := [("one", 1)]) (by exact pwi_list (pwe_var 0 (pv 0))) (fun _ _ _ _ _ => by exact pwg_of (pg_name (i := 1) sccopied.nd rfl (by first | exact Or.inl rfl | exact Or.inr rfl)) (rung_name 1)) (fun _ _ _ _ _ => by exact pwe_callD D_copied (hr.mono (Nat.le_refl _)) (by rfl) (pwa_cons (pwo_val (pwe_var 1 (pv 1))) (pwa_nil)))))) (pwa_nil)))))) (pwss_nil))
    (pwss_cons (pws_if (pwt_truth (pwo_val (by exact pwe_of (pe_callB call_isi (by rfl) T.b_isinstance (by decide +kernel) pa_sem) (run_prim ok_isi (pwa_cons (pwo_var 0 (pv 0)) (pwa_cons (pwo_val (by exact pwe_c (pe_bltn (v := .ty "dict") (by rfl) T.b_dict (by decide +kernel) rfl) (fun _ _ => .opq))) (pwa_nil))))))) (pwss_one (pws_ret (pwe_of (pe_callTy (call_dictP rfl) (by rfl) T.b_dict (by decide +kernel) pa_sem) (run_prim ok_dict (pwa_cons (pwo_val (by exact pwe_lcK 0 (pe_lcK0 (own := [("key", 2)]) rfl sccopied.nd (pi_keys (pv 0)) (blkOk_by (own := [("key", 2)]) (N := Ncopied) (sc := defScope scopied) (by decide +kernel))) (rung_U (fun _ _ _ _ _ => by exact pwg_of (pg_name (i := 2) sccopied.nd rfl (by first | exact Or.inl rfl | exact Or.inr rfl)) (rung_name 2))) runt_yes (rune_U (fun _ _ _ _ _ => by exact pwe_tup (pwa_cons (pwo_val (by exact pwe_var 2 (pv 2))) (pwa_cons (pwo_val (by exact pwe_callD D_copied (hr.mono (Nat.le_refl _)) (by rfl) (pwa_cons (pwo_val (pwe_sh (by exact pwe_of (pe_ix (ix_all hu) pe_sem pe_sem (fun _ _ => rfl)) (run_bin ok_ix (pwo_var 0 (pv 0)) (pwo_var 2 (pv 2)))))) (pwa_nil)))) (pwa_nil))))) (by decide))) (pwa_nil)))))) (pwss_nil))
    (pwss_one (pws_ret (pwe_mv 0 (pv 0))))))
theorem def_reached {f : Addr} {fd : FuncData} (T : Blt mg) (F : Fun K "_law_reached" "_law_reached" sreached f fd) (g : mg "_law_reached" = some (.ref f))
    (rd : Reads S_reached (fun EX => v_reached) 3) (len : ∀ ρs R RX, S_reached ρs R RX → ρs.length = 2) : Def P w K mg base 1 "_law_reached" ["waits", "start"] S_reached := by
  refine ⟨f, fd, fn_w (t := fun EX => v_reached) F screached (by decide) len (fun Φ cdv A outer s H E hr tk => ?_) rd, g, F.kp, F.binds fun _ _ _ _ _ _ us hl => match us, hl with | [_, _], _ => rfl⟩
  show PWSs _ Φ _ (v_reached)
  have hu : (A.deeper (envOfC "_law_reached" (defScope sreached) s.heap.objs.size f cdv)).units + 1 < cLine := hu_of hr
  have hu64 : (A.deeper (envOfC "_law_reached" (defScope sreached) s.heap.objs.size f cdv)).units + 64 < cLine := hr.units
  have hu65 : (A.deeper (envOfC "_law_reached" (defScope sreached) s.heap.objs.size f cdv)).units + 65 < cLine := by have := hr.un; omega
  unfold v_reached
  exact pwss_cons (pws_set (ps_set (i := 2) screached.nd rfl (Or.inl rfl) pe_sem) (PWE.sem (pwe_lst (pwa_nil))))
    (pwss_cons (pws_set (ps_set (i := 3) screached.nd rfl (Or.inl rfl) pe_sem) (PWE.sem (pwe_of (pe_callTy (call_listA rfl) (by rfl) T.b_list (by decide +kernel) pa_sem) (run_prim ok_list (pwa_cons (pwo_val (by exact pwe_of (pe_dget2 hu pe_sem pe_sem pe_sem ⟨rfl, rfl, rfl, rfl⟩) (run_get2 (pwo_var 0 (pv 0)) (pwe_var 1 (pv 1)) (pwe_lst (pwa_nil))))) (pwa_nil))))))
    (pwss_cons (pws_while (ps_while (passes_of rfl) pt_sem pss_sem) (pwt_of (pt_cmpR op_gtA pe_sem pe_sem (nomark _)) (run_bin ok_gt (pwo_val (by exact pwe_of (pe_callB call_lenA (by rfl) T.b_len (by decide +kernel) pa_sem) (run_prim ok_len (pwa_cons (pwo_var 3 (pv 3)) (pwa_nil))))) (pwo_val (by exact pwe_int)))) (pwss_cons (pws_set (ps_set (i := 4) screached.nd rfl (Or.inl rfl) pe_sem) (PWE.sem (pwe_of (pe_bm0 PySem.F.plainAttrs_list PySem.F.slot_list_pop PySem.F.type_list_pop mt_pop (pv 3)) (run_pop 3))))
    (pwss_one (pws_if (pwt_of (pt_cmpR (op_notinA hu) pe_sem pe_sem (by rfl)) (run_bin ok_in (pwo_var 4 (pv 4)) (pwo_var 2 (pv 2)))) (pwss_cons (pws_expr (ps_expr pe_sem) (PWE.sem (pwe_of (pe_bm PySem.F.plainAttrs_list PySem.F.slot_list_append PySem.F.type_list_append mt_append (pv 2) (pa_cons pe_sem pa_nil)) (run_app 2 (pwe_var 4 (pv 4))))))
    (pwss_one (pws_set (ps_set (i := 3) screached.nd rfl (Or.inl rfl) pe_sem) (PWE.sem (pwe_of (pe_op op_addA pe_sem pe_sem) (run_bin ok_add (pwo_var 3 (pv 3)) (pwo_val (by exact pwe_of (pe_callTy (call_listA rfl) (by rfl) T.b_list (by decide +kernel) pa_sem) (run_prim ok_list (pwa_cons (pwo_val (by exact pwe_of (pe_dget2 hu pe_sem pe_sem pe_sem ⟨rfl, rfl, rfl, rfl⟩) (run_get2 (pwo_var 0 (pv 0)) (pwe_var 4 (pv 4)) (pwe_lst (pwa_nil))))) (pwa_nil))))))))))) (pwss_nil)))))
    (pwss_one (pws_ret (pwe_mv 2 (pv 2))))))
theorem def_knots {f : Addr} {fd : FuncData} (T : Blt mg) (D_reached : Def P w K mg base 1 "_law_reached" ["waits", "start"] S_reached) (F : Fun K "_law_knots" "_law_knots" sknots f fd) (g : mg "_law_knots" = some (.ref f))
    (rd : Reads S_knots (fun EX => v_knots) 5) (len : ∀ ρs R RX, S_knots ρs R RX → ρs.length = 1) : Def P w K mg base 2 "_law_knots" ["waits"] S_knots := by
  refine ⟨f, fd, fn_w (t := fun EX => v_knots) F scknots (by decide) len (fun Φ cdv A outer s H E hr tk => ?_) rd, g, F.kp, F.binds fun _ _ _ _ _ _ us hl => match us, hl with | [_], _ => rfl⟩
  show PWSs _ Φ _ (v_knots)
  have hu : (A.deeper (envOfC "_law_knots" (defScope sknots) s.heap.objs.size f cdv)).units + 1 < cLine := hu_of hr
  have hu64 : (A.deeper (envOfC "_law_knots" (defScope sknots) s.heap.objs.size f cdv)).units + 64 < cLine := hr.units
  have hu65 : (A.deeper (envOfC "_law_knots" (defScope sknots) s.heap.objs.size f cdv)).units + 65 < cLine := by have := hr.un; omega
  unfold v_knots
  exact pwss_cons (pws_set (ps_set (i := 1) scknots.nd rfl (Or.inr rfl) pe_sem) (PWE.sem (pwe_of (pe_callTy (call_dictP rfl) (by rfl) T.b_dict (by decide +kernel) pa_sem) (run_prim ok_dict (pwa_cons (pwo_val (by exact pwe_lcK 0 (pe_lcK0 (own := [("name", 3)]) rfl scknots.nd (pi_keys (pv 0)) (blkOk_by (own := [("name", 3)]) (N := Nknots) (sc := defScope sknots) (by decide +kernel))) (rung_U (fun _ _ _ _ _ => by exact pwg_of (pg_name (i := 3) scknots.nd rfl (by first | exact Or.inl rfl | exact Or.inr rfl)) (rung_name 3))) runt_yes (rune_U (fun _ _ _ _ _ => by exact pwe_tup (pwa_cons (pwo_val (by exact pwe_var 3 (pv 3))) (pwa_cons (pwo_val (by exact pwe_callD D_reached (hr.mono (by decide)) (by rfl) (pwa_cons (pwo_val (pwe_var 0 (pv 0))) (pwa_cons (pwo_val (pwe_var 3 (pv 3))) (pwa_nil))))) (pwa_nil))))) (by decide))) (pwa_nil))))))
    (pwss_cons (pws_set (ps_set (i := 2) scknots.nd rfl (Or.inl rfl) pe_sem) (PWE.sem (pwe_lst (pwa_nil))))
    (pwss_cons (pws_for (ps_for (passes_of rfl) rfl pi_sem pg_sem pss_sem) (pwi_list (pwe_of (pe_callB (call_sortDA rfl) (by rfl) T.b_sorted (by decide +kernel) pa_sem) (run_prim ok_sortD (pwa_cons (pwo_var 0 (pv 0)) (pwa_nil))))) (pwg_of (pg_name (i := 3) scknots.nd rfl (Or.inr rfl)) (rung_name 3)) (pwss_one (pws_if (pwt_of (pt_cmpR (op_inA hu) pe_sem pe_sem (by rfl)) (run_bin ok_in (pwo_var 3 (pv 3)) (pwo_val (by exact pwe_of (pe_ix (ix_all hu) pe_sem pe_sem (fun _ _ => rfl)) (run_bin ok_ix (pwo_var 1 (pv 1)) (pwo_var 3 (pv 3))))))) (pwss_cons (pws_set (ps_set (i := 4) scknots.nd rfl (Or.inl rfl) pe_sem) (PWE.sem (pwe_of (pe_callB call_sortedA (by rfl) T.b_sorted (by decide +kernel) pa_sem) (run_prim ok_sorted (pwa_cons (pwo_val (by exact pwe_of (pe_lc1 rfl scknots.nd (blkOk_by (own := [("other", 5)]) (N := Nknots) (sc := defScope sknots) (by decide +kernel))) (run_lc1 (own := [("other", 5)]) (by exact pwi_list (pwe_of (pe_ix (ix_all hu) pe_sem pe_sem (fun _ _ => rfl)) (run_bin ok_ix (pwo_var 1 (pv 1)) (pwo_var 3 (pv 3))))) (fun _ _ _ _ _ => by exact pwg_of (pg_name (i := 5) scknots.nd rfl (by first | exact Or.inl rfl | exact Or.inr rfl)) (rung_name 5)) (fun _ _ _ _ _ => by exact PWW.pt (pww_and (pwt_of (pt_cmpR (op_inA hu) pe_sem pe_sem (by rfl)) (run_bin ok_in (pwo_var 5 (pv 5)) (pwo_var 1 (pv 1)))) (pww_and1 (pwt_of (pt_cmpR (op_inA hu) pe_sem pe_sem (by rfl)) (run_bin ok_in (pwo_var 3 (pv 3)) (pwo_val (by exact pwe_of (pe_ix (ix_all hu) pe_sem pe_sem (fun _ _ => rfl)) (run_bin ok_ix (pwo_var 1 (pv 1)) (pwo_var 5 (pv 5)))))))))) (fun _ _ _ _ _ => by exact pwe_var 5 (pv 5))))) (pwa_nil))))))
    (pwss_one (pws_if (pwt_of (pt_cmpR (op_notinDA hu65) pe_sem pe_sem (by rfl)) (run_bin ok_inD (pwo_var 4 (pv 4)) (pwo_var 2 (pv 2)))) (pwss_one (pws_expr (ps_expr pe_sem) (PWE.sem (pwe_of (pe_bm PySem.F.plainAttrs_list PySem.F.slot_list_append PySem.F.type_list_append mt_append (pv 2) (pa_cons pe_sem pa_nil)) (run_app 2 (pwe_var 4 (pv 4))))))) (pwss_nil)))) (pwss_nil))))
    (pwss_one (pws_ret (pwe_mv 2 (pv 2))))))
theorem def_rings {f : Addr} {fd : FuncData} (T : Blt mg) (F : Fun K "_law_rings" "_law_rings" srings f fd) (g : mg "_law_rings" = some (.ref f))
    (rd : Reads S_rings (fun EX => v_rings) 5) (len : ∀ ρs R RX, S_rings ρs R RX → ρs.length = 2) : Def P w K mg base 1 "_law_rings" ["waits", "knot"] S_rings := by
  refine ⟨f, fd, fn_w (t := fun EX => v_rings) F scrings (by decide) len (fun Φ cdv A outer s H E hr tk => ?_) rd, g, F.kp, F.binds fun _ _ _ _ _ _ us hl => match us, hl with | [_, _], _ => rfl⟩
  show PWSs _ Φ _ (v_rings)
  have hu : (A.deeper (envOfC "_law_rings" (defScope srings) s.heap.objs.size f cdv)).units + 1 < cLine := hu_of hr
  have hu64 : (A.deeper (envOfC "_law_rings" (defScope srings) s.heap.objs.size f cdv)).units + 64 < cLine := hr.units
  have hu65 : (A.deeper (envOfC "_law_rings" (defScope srings) s.heap.objs.size f cdv)).units + 65 < cLine := by have := hr.un; omega
  unfold v_rings
  exact pwss_cons (pws_set (ps_set (i := 2) scrings.nd rfl (Or.inl rfl) pe_sem) (PWE.sem (pwe_lst (pwa_nil))))
    (pwss_cons (pws_for (ps_for (passes_of rfl) rfl pi_sem pg_sem pss_sem) (pwi_list (pwe_of (pe_callB call_sortedA (by rfl) T.b_sorted (by decide +kernel) pa_sem) (run_prim ok_sorted (pwa_cons (pwo_var 1 (pv 1)) (pwa_nil))))) (pwg_of (pg_name (i := 3) scrings.nd rfl (Or.inl rfl)) (rung_name 3)) (pwss_cons (pws_set (ps_set (i := 4) scrings.nd rfl (Or.inl rfl) pe_sem) (PWE.sem (pwe_lst (pwa_cons (pwo_val (by exact pwe_tup (pwa_cons (pwo_val (by exact pwe_var 3 (pv 3))) (pwa_nil)))) (pwa_nil)))))
    (pwss_one (pws_while (ps_while (passes_of rfl) pt_sem pss_sem) (pwt_of (pt_cmpR op_gtA pe_sem pe_sem (nomark _)) (run_bin ok_gt (pwo_val (by exact pwe_of (pe_callB call_lenA (by rfl) T.b_len (by decide +kernel) pa_sem) (run_prim ok_len (pwa_cons (pwo_var 4 (pv 4)) (pwa_nil))))) (pwo_val (by exact pwe_int)))) (pwss_cons (pws_set (ps_set (i := 5) scrings.nd rfl (Or.inl rfl) pe_sem) (PWE.sem (pwe_of (pe_bm0 PySem.F.plainAttrs_list PySem.F.slot_list_pop PySem.F.type_list_pop mt_pop (pv 4)) (run_pop 4))))
    (pwss_one (pws_for (ps_for (passes_of rfl) rfl pi_sem pg_sem pss_sem) (pwi_list (pwe_of (pe_dget2 hu pe_sem pe_sem pe_sem ⟨rfl, rfl, rfl, rfl⟩) (run_get2 (pwo_var 0 (pv 0)) (pwe_of (pe_ix (ix_all hu) pe_sem pe_sem (fun _ _ => rfl)) (run_bin ok_ix (pwo_var 5 (pv 5)) (pwo_val (by exact pwe_of (pe_un un_neg pe_sem) (run_un ok_neg (pwo_val (by exact pwe_int))))))) (pwe_lst (pwa_nil))))) (pwg_of (pg_name (i := 6) scrings.nd rfl (Or.inl rfl)) (rung_name 6)) (pwss_one (pws_if (pwt_of (pt_cmpR (op_eqA hu64) pe_sem pe_sem (nomark _)) (run_bin ok_eq (pwo_var 6 (pv 6)) (pwo_var 3 (pv 3)))) (pwss_one (pws_if (pwt_of (pt_cmpR (op_notinDA hu65) pe_sem pe_sem (by rfl)) (run_bin ok_inD (pwo_var 5 (pv 5)) (pwo_var 2 (pv 2)))) (pwss_one (pws_expr (ps_expr pe_sem) (PWE.sem (pwe_of (pe_bm PySem.F.plainAttrs_list PySem.F.slot_list_append PySem.F.type_list_append mt_append (pv 2) (pa_cons pe_sem pa_nil)) (run_app 2 (pwe_var 5 (pv 5))))))) (pwss_nil))) (pwss_one (pws_if (PWW.pt (pww_and (pwt_of (pt_cmpR (op_inA hu) pe_sem pe_sem (by rfl)) (run_bin ok_in (pwo_var 6 (pv 6)) (pwo_var 1 (pv 1)))) (pww_and (pwt_of (pt_cmpR op_gtA pe_sem pe_sem (nomark _)) (run_bin ok_gt (pwo_var 6 (pv 6)) (pwo_var 3 (pv 3)))) (pww_and1 (pwt_of (pt_cmpR (op_notinA hu) pe_sem pe_sem (by rfl)) (run_bin ok_in (pwo_var 6 (pv 6)) (pwo_var 5 (pv 5)))))))) (pwss_one (pws_expr (ps_expr pe_sem) (PWE.sem (pwe_of (pe_bm PySem.F.plainAttrs_list PySem.F.slot_list_append PySem.F.type_list_append mt_append (pv 4) (pa_cons pe_sem pa_nil)) (run_app 4 (pwe_of (pe_op op_addA pe_sem pe_sem) (run_bin ok_add (pwo_var 5 (pv 5)) (pwo_val (by exact pwe_tup (pwa_cons (pwo_val (by exact pwe_var 6 (pv 6))) (pwa_nil))))))))))) (pwss_nil))))))))))))
    (pwss_one (pws_ret (pwe_mv 2 (pv 2)))))
theorem def_lleast_ring {f : Addr} {fd : FuncData} (T : Blt mg) (D_rings : Def P w K mg base 1 "_law_rings" ["waits", "knot"] S_rings) (F : Fun K "_law_least_ring" "_law_least_ring" slleast_ring f fd) (g : mg "_law_least_ring" = some (.ref f))
    (rd : Reads S_lleast_ring (fun EX => v_lleast_ring) 2) (len : ∀ ρs R RX, S_lleast_ring ρs R RX → ρs.length = 2) : Def P w K mg base 2 "_law_least_ring" ["waits", "knot"] S_lleast_ring := by
  refine ⟨f, fd, fn_w (t := fun EX => v_lleast_ring) F sclleast_ring (by decide) len (fun Φ cdv A outer s H E hr tk => ?_) rd, g, F.kp, F.binds fun _ _ _ _ _ _ us hl => match us, hl with | [_, _], _ => rfl⟩
  show PWSs _ Φ _ (v_lleast_ring)
  have hu : (A.deeper (envOfC "_law_least_ring" (defScope slleast_ring) s.heap.objs.size f cdv)).units + 1 < cLine := hu_of hr
  have hu64 : (A.deeper (envOfC "_law_least_ring" (defScope slleast_ring) s.heap.objs.size f cdv)).units + 64 < cLine := hr.units
  have hu65 : (A.deeper (envOfC "_law_least_ring" (defScope slleast_ring) s.heap.objs.size f cdv)).units + 65 < cLine := by have := hr.un; omega
  unfold v_lleast_ring
  exact pwss_cons (pws_set (ps_setLc0 (i := 2) rfl sclleast_ring.nd rfl rfl (sw_true rfl rfl rfl (by decide +kernel)) pi_sem (blkOk_by (own := [("ring", 3)]) (N := Nlleast_ring) (sc := defScope slleast_ring) (by decide +kernel))) (run_lc0 (own := [("ring", 3)]) (by exact pwi_list (pwe_callD D_rings (hr.mono (by decide)) (by rfl) (pwa_cons (pwo_val (pwe_var 0 (pv 0))) (pwa_cons (pwo_val (pwe_var 1 (pv 1))) (pwa_nil))))) (fun _ _ _ _ _ => by exact pwg_of (pg_name (i := 3) sclleast_ring.nd rfl (by first | exact Or.inl rfl | exact Or.inr rfl)) (rung_name 3)) (fun _ _ _ _ _ => by exact pwe_tup (pwa_cons (pwo_val (by exact pwe_of (pe_callB call_lenA (by rfl) T.b_len (by decide +kernel) pa_sem) (run_prim ok_len (pwa_cons (pwo_var 3 (pv 3)) (pwa_nil))))) (pwa_cons (pwo_val (by exact pwe_var 3 (pv 3))) (pwa_nil))))))
    (pwss_one (pws_ret (pwe_if (pwt_of (pt_cmpR op_gtA pe_sem pe_sem (nomark _)) (run_bin ok_gt (pwo_val (by exact pwe_of (pe_callB call_lenA (by rfl) T.b_len (by decide +kernel) pa_sem) (run_prim ok_len (pwa_cons (pwo_var 2 (pv 2)) (pwa_nil))))) (pwo_val (by exact pwe_int)))) (pwe_of (pe_ix (ix_all hu) pe_sem pe_sem (fun _ _ => rfl)) (run_bin ok_ix (pwo_val (by exact pwe_of (pe_callB (call_minDA rfl hu64) (by rfl) T.b_min (by decide +kernel) pa_sem) (run_prim ok_minD (pwa_cons (pwo_var 2 (pv 2)) (pwa_nil))))) (pwo_val (by exact pwe_int)))) (pwe_non))))
theorem def_k11_waits {f : Addr} {fd : FuncData} (T : Blt mg) (D_names : Def P w K mg base 3 "_law_names" ["source", "many", "before"] S_names) (D_pick : Def P w K mg base 1 "_law_pick" ["source", "many"] S_pick) (D_shuffled : Def P w K mg base 2 "_law_shuffled" ["source", "things"] S_shuffled) (F : Fun K "_law_k11_waits" "_law_k11_waits" sk11_waits f fd) (g : mg "_law_k11_waits" = some (.ref f))
    (rd : Reads S_k11_waits (fun EX => v_k11_waits) 7) (len : ∀ ρs R RX, S_k11_waits ρs R RX → ρs.length = 2) : Def P w K mg base 4 "_law_k11_waits" ["source", "before"] S_k11_waits := by
  refine ⟨f, fd, fn_w (t := fun EX => v_k11_waits) F sck11_waits (by decide) len (fun Φ cdv A outer s H E hr tk => ?_) rd, g, F.kp, F.binds fun _ _ _ _ _ _ us hl => match us, hl with | [_, _], _ => rfl⟩
  show PWSs _ Φ _ (v_k11_waits)
  have hu : (A.deeper (envOfC "_law_k11_waits" (defScope sk11_waits) s.heap.objs.size f cdv)).units + 1 < cLine := hu_of hr
  have hu64 : (A.deeper (envOfC "_law_k11_waits" (defScope sk11_waits) s.heap.objs.size f cdv)).units + 64 < cLine := hr.units
  have hu65 : (A.deeper (envOfC "_law_k11_waits" (defScope sk11_waits) s.heap.objs.size f cdv)).units + 65 < cLine := by have := hr.un; omega
  unfold v_k11_waits
  exact pwss_cons (pws_set (ps_set (i := 2) sck11_waits.nd rfl (Or.inl rfl) pe_sem) (PWE.sem (pwe_callD D_names (hr.mono (by decide)) (by rfl) (pwa_cons (pwo_var 0 (pv 0)) (pwa_cons (pwo_val (pwe_sh (by exact pwe_of (pe_op op_addA pe_sem pe_sem) (run_bin ok_add (pwo_val (by exact pwe_int)) (pwo_val (by exact pwe_callD D_pick (hr.mono (by decide)) (by rfl) (pwa_cons (pwo_var 0 (pv 0)) (pwa_cons (pwo_val (pwe_int)) (pwa_nil))))))))) (pwa_cons (pwo_val (pwe_var 1 (pv 1))) (pwa_nil)))))))
    (pwss_cons (pws_set (ps_set (i := 3) sck11_waits.nd rfl (Or.inr rfl) pe_sem) (PWE.sem (pwe_of (pe_op op_addA pe_sem pe_sem) (run_bin ok_add (pwo_val (by exact pwe_int)) (pwo_val (by exact pwe_callD D_pick (hr.mono (by decide)) (by rfl) (pwa_cons (pwo_var 0 (pv 0)) (pwa_cons (pwo_val (pwe_int)) (pwa_nil)))))))))
    (pwss_cons (pws_set (ps_set (i := 4) sck11_waits.nd rfl (Or.inl rfl) pe_sem) (PWE.sem (pwe_of (pe_ix (ix_all hu) pe_sem pe_sem (fun _ _ => rfl)) (run_bin ok_ix (pwo_val (by exact pwe_callD D_names (hr.mono (by decide)) (by rfl) (pwa_cons (pwo_var 0 (pv 0)) (pwa_cons (pwo_val (pwe_int)) (pwa_cons (pwo_val (pwe_sh (by exact pwe_of (pe_op op_addA pe_sem pe_sem) (run_bin ok_add (pwo_var 1 (pv 1)) (pwo_val (by exact pwe_int)))))) (pwa_nil)))))) (pwo_val (by exact pwe_int))))))
    (pwss_cons (pws_set (ps_set (i := 5) sck11_waits.nd rfl (Or.inl rfl) pe_sem) (PWE.sem (pwe_of pe_dnewK run_newD)))
    (pwss_cons (pws_for (ps_for (passes_of rfl) rfl pi_sem pg_sem pss_sem) (pwi_list (pwe_var 2 (pv 2))) (pwg_of (pg_name (i := 6) sck11_waits.nd rfl (Or.inl rfl)) (rung_name 6)) (pwss_cons (pws_set (ps_setLc1 (i := 7) rfl sck11_waits.nd rfl rfl (sw_true rfl rfl rfl (by decide +kernel)) pi_sem (blkOk_by (own := [("other", 8)]) (N := Nk11_waits) (sc := defScope sk11_waits) (by decide +kernel))) (run_lc1 (own := [("other", 8)]) (by exact pwi_list (pwe_callD D_shuffled (hr.mono (by decide)) (by rfl) (pwa_cons (pwo_var 0 (pv 0)) (pwa_cons (pwo_val (pwe_var 2 (pv 2))) (pwa_nil))))) (fun _ _ _ _ _ => by exact pwg_of (pg_name (i := 8) sck11_waits.nd rfl (by first | exact Or.inl rfl | exact Or.inr rfl)) (rung_name 8)) (fun _ _ _ _ _ => by exact pwt_of (pt_cmpR (op_eqA hu64) pe_sem pe_sem (nomark _)) (run_bin ok_eq (pwo_val (by exact pwe_callD D_pick (hr.mono (by decide)) (by rfl) (pwa_cons (pwo_var 0 (pv 0)) (pwa_cons (pwo_val (pwe_var 3 (pv 3))) (pwa_nil))))) (pwo_val (by exact pwe_int)))) (fun _ _ _ _ _ => by exact pwe_var 8 (pv 8))))
    (pwss_cons (pws_if (pwt_of (pt_cmpR (op_eqA hu64) pe_sem pe_sem (nomark _)) (run_bin ok_eq (pwo_val (by exact pwe_callD D_pick (hr.mono (by decide)) (by rfl) (pwa_cons (pwo_var 0 (pv 0)) (pwa_cons (pwo_val (pwe_int)) (pwa_nil))))) (pwo_val (by exact pwe_int)))) (pwss_one (pws_expr (ps_expr pe_sem) (PWE.sem (pwe_of (pe_bm PySem.F.plainAttrs_list PySem.F.slot_list_append PySem.F.type_list_append mt_append (pv 7) (pa_cons pe_sem pa_nil)) (run_app 7 (pwe_var 4 (pv 4))))))) (pwss_nil))
    (pwss_one (pws_putD 5 (ps_dput hu (pv 5) pe_sem pe_sem rfl) (pwe_var 6 (pv 6)) (pwe_var 7 (pv 7)))))))
    (pwss_one (pws_ret (pwe_mv 5 (pv 5))))))))
theorem def_k11_asked {f : Addr} {fd : FuncData} (T : Blt mg) (D_knots : Def P w K mg base 2 "_law_knots" ["waits"] S_knots) (D_pick : Def P w K mg base 1 "_law_pick" ["source", "many"] S_pick) (D_shuffled : Def P w K mg base 2 "_law_shuffled" ["source", "things"] S_shuffled) (F : Fun K "_law_k11_asked" "_law_k11_asked" sk11_asked f fd) (g : mg "_law_k11_asked" = some (.ref f))
    (rd : Reads S_k11_asked (fun EX => v_k11_asked) 4) (len : ∀ ρs R RX, S_k11_asked ρs R RX → ρs.length = 2) : Def P w K mg base 3 "_law_k11_asked" ["source", "waits"] S_k11_asked := by
  refine ⟨f, fd, fn_w (t := fun EX => v_k11_asked) F sck11_asked (by decide) len (fun Φ cdv A outer s H E hr tk => ?_) rd, g, F.kp, F.binds fun _ _ _ _ _ _ us hl => match us, hl with | [_, _], _ => rfl⟩
  show PWSs _ Φ _ (v_k11_asked)
  have hu : (A.deeper (envOfC "_law_k11_asked" (defScope sk11_asked) s.heap.objs.size f cdv)).units + 1 < cLine := hu_of hr
  have hu64 : (A.deeper (envOfC "_law_k11_asked" (defScope sk11_asked) s.heap.objs.size f cdv)).units + 64 < cLine := hr.units
  have hu65 : (A.deeper (envOfC "_law_k11_asked" (defScope sk11_asked) s.heap.objs.size f cdv)).units + 65 < cLine := by have := hr.un; omega
  unfold v_k11_asked
  exact pwss_cons (pws_set (ps_set (i := 2) sck11_asked.nd rfl (Or.inl rfl) pe_sem) (PWE.sem (pwe_of (pe_callTy (call_listA rfl) (by rfl) T.b_list (by decide +kernel) pa_sem) (run_prim ok_list (pwa_cons (pwo_var 1 (pv 1)) (pwa_nil))))))
    (pwss_cons (pws_set (ps_setLc0 (i := 3) rfl sck11_asked.nd rfl rfl (sw_true rfl rfl rfl (by decide +kernel)) pi_sem (blkOk_by (own := [("knot", 5)]) (N := Nk11_asked) (sc := defScope sk11_asked) (by decide +kernel))) (run_lc0 (own := [("knot", 5)]) (by exact pwi_list (pwe_callD D_knots (hr.mono (by decide)) (by rfl) (pwa_cons (pwo_val (pwe_var 1 (pv 1))) (pwa_nil)))) (fun _ _ _ _ _ => by exact pwg_of (pg_name (i := 5) sck11_asked.nd rfl (by first | exact Or.inl rfl | exact Or.inr rfl)) (rung_name 5)) (fun _ _ _ _ _ => by exact pwe_callD D_shuffled (hr.mono (by decide)) (by rfl) (pwa_cons (pwo_var 0 (pv 0)) (pwa_cons (pwo_val (pwe_var 5 (pv 5))) (pwa_nil))))))
    (pwss_cons (pws_for (ps_for (passes_of rfl) rfl pi_sem pg_sem pss_sem) (pwi_range1 (pi_range1 (by rfl) T.b_range pa_sem) (pwa_cons (pwo_val (by exact pwe_int)) (pwa_nil))) (pwg_of (pg_name (i := 4) sck11_asked.nd rfl (Or.inl rfl)) (rung_name 4)) (pwss_one (pws_expr (ps_expr pe_sem) (PWE.sem (pwe_of (pe_bm PySem.F.plainAttrs_list PySem.F.slot_list_append PySem.F.type_list_append mt_append (pv 3) (pa_cons pe_sem pa_nil)) (run_app 3 (pwe_of (pe_slice sl_all pe_sem po_none (po_some pe_sem)) (run_sl (pwo_val (by exact pwe_callD D_shuffled (hr.mono (by decide)) (by rfl) (pwa_cons (pwo_var 0 (pv 0)) (pwa_cons (pwo_val (pwe_var 2 (pv 2))) (pwa_nil))))) runo_none (runo_some (pwe_of (pe_op op_addA pe_sem pe_sem) (run_bin ok_add (pwo_val (by exact pwe_int)) (pwo_val (by exact pwe_callD D_pick (hr.mono (by decide)) (by rfl) (pwa_cons (pwo_var 0 (pv 0)) (pwa_cons (pwo_val (pwe_sh (by exact pwe_of (pe_callB call_lenA (by rfl) T.b_len (by decide +kernel) pa_sem) (run_prim ok_len (pwa_cons (pwo_var 2 (pv 2)) (pwa_nil)))))) (pwa_nil))))))))))))))))
    (pwss_one (pws_ret (pwe_mv 3 (pv 3))))))
theorem def_k11_right {f : Addr} {fd : FuncData} (T : Blt mg) (D_copied : Def P w K mg base 3 "_law_copied" ["thing"] S_copied) (D_k11_asked : Def P w K mg base 3 "_law_k11_asked" ["source", "waits"] S_k11_asked) (D_knots : Def P w K mg base 2 "_law_knots" ["waits"] S_knots) (D_lleast_ring : Def P w K mg base 2 "_law_least_ring" ["waits", "knot"] S_lleast_ring) (D_same : Def P w K mg base 4 "_law_same" ["answer", "due"] S_same) (D_knots_of : Def P w K mg base 2 "knots_of" ["waits"] S_knots_of) (D_least_ring : Def P w K mg base 3 "least_ring" ["waits", "knot"] S_least_ring) (F : Fun K "_law_k11_right" "_law_k11_right" sk11_right f fd) (g : mg "_law_k11_right" = some (.ref f))
    (rd : Reads S_k11_right (fun EX => v_k11_right) 6) (len : ∀ ρs R RX, S_k11_right ρs R RX → ρs.length = 2) : Def P w K mg base 5 "_law_k11_right" ["source", "waits"] S_k11_right := by
  refine ⟨f, fd, fn_w (t := fun EX => v_k11_right) F sck11_right (by decide) len (fun Φ cdv A outer s H E hr tk => ?_) rd, g, F.kp, F.binds fun _ _ _ _ _ _ us hl => match us, hl with | [_, _], _ => rfl⟩
  show PWSs _ Φ _ (v_k11_right)
  have hu : (A.deeper (envOfC "_law_k11_right" (defScope sk11_right) s.heap.objs.size f cdv)).units + 1 < cLine := hu_of hr
  have hu64 : (A.deeper (envOfC "_law_k11_right" (defScope sk11_right) s.heap.objs.size f cdv)).units + 64 < cLine := hr.units
  have hu65 : (A.deeper (envOfC "_law_k11_right" (defScope sk11_right) s.heap.objs.size f cdv)).units + 65 < cLine := by have := hr.un; omega
  unfold v_k11_right
  exact pwss_cons (pws_set (ps_set (i := 2) sck11_right.nd rfl (Or.inl rfl) pe_sem) (PWE.sem (pwe_callD D_copied (hr.mono (by decide)) (by rfl) (pwa_cons (pwo_val (pwe_var 1 (pv 1))) (pwa_nil)))))
    (pwss_cons (pws_set (ps_set (i := 3) sck11_right.nd rfl (Or.inl rfl) pe_sem) (PWE.sem (pwe_sh (pwe_callD D_knots (hr.mono (by decide)) (by rfl) (pwa_cons (pwo_val (pwe_var 1 (pv 1))) (pwa_nil))))))
    (pwss_cons (pws_set (ps_set (i := 4) sck11_right.nd rfl (Or.inl rfl) pe_sem) (PWE.sem (pwe_callD D_knots_of (hr.mono (by decide)) (by rfl) (pwa_cons (pwo_val (pwe_var 2 (pv 2))) (pwa_nil)))))
    (pwss_cons (pws_if (pwt_not (pwt_truth (pwo_val (by exact pwe_callB 4 3 D_same (hr.mono (by decide)) (by rfl) (pv 4) (pv 3))))) (pwss_one (pws_ret (pwe_bl))) (pwss_nil))
    (pwss_cons (pws_forApp 4 5 "zz" (ps_for (passes_of rfl) rfl (pi_list (pv 4)) (pg_name (i := 5) sck11_right.nd rfl (Or.inl rfl)) (pss_one (ps_expr (pe_bm PySem.F.plainAttrs_list PySem.F.slot_list_append PySem.F.type_list_append mt_append (pv 5) (pa_cons pe_str pa_nil))))))
    (pwss_cons (pws_expr (ps_expr pe_sem) (PWE.sem (pwe_of (pe_bm PySem.F.plainAttrs_list PySem.F.slot_list_append PySem.F.type_list_append mt_append (pv 4) (pa_cons pe_sem pa_nil)) (run_appR 4 (pwe_lst (pwa_nil))))))
    (pwss_cons (pws_if (pwt_not (pwt_truth (pwo_val (by exact pwe_callD D_same (hr.mono (by decide)) (by rfl) (pwa_cons (pwo_val (pwe_shR (by exact pwe_callD D_knots_of (hr.mono (by decide)) (by rfl) (pwa_cons (pwo_val (pwe_var 2 (pv 2))) (pwa_nil))))) (pwa_cons (pwo_val (pwe_var 3 (pv 3))) (pwa_nil))))))) (pwss_one (pws_ret (pwe_bl))) (pwss_nil))
    (pwss_cons (pws_for (ps_for (passes_of rfl) rfl pi_sem pg_sem pss_sem) (pwi_list (pwe_callD D_k11_asked (hr.mono (by decide)) (by rfl) (pwa_cons (pwo_var 0 (pv 0)) (pwa_cons (pwo_val (pwe_var 1 (pv 1))) (pwa_nil))))) (pwg_of (pg_name (i := 6) sck11_right.nd rfl (Or.inl rfl)) (rung_name 6)) (pwss_cons (pws_set (ps_set (i := 7) sck11_right.nd rfl (Or.inl rfl) pe_sem) (PWE.sem (pwe_of (pe_callTy (call_listA rfl) (by rfl) T.b_list (by decide +kernel) pa_sem) (run_prim ok_list (pwa_cons (pwo_var 6 (pv 6)) (pwa_nil))))))
    (pwss_one (pws_if (PWW.pt (pww_or (pwt_not (pwt_truth (pwo_val (by exact pwe_callD D_same (hr.mono (by decide)) (by rfl) (pwa_cons (pwo_val (pwe_sh (by exact pwe_callD D_least_ring (hr.mono (by decide)) (by rfl) (pwa_cons (pwo_val (pwe_var 2 (pv 2))) (pwa_cons (pwo_val (pwe_var 7 (pv 7))) (pwa_nil)))))) (pwa_cons (pwo_val (pwe_sh (by exact pwe_callD D_lleast_ring (hr.mono (by decide)) (by rfl) (pwa_cons (pwo_val (pwe_var 1 (pv 1))) (pwa_cons (pwo_val (pwe_var 6 (pv 6))) (pwa_nil)))))) (pwa_nil))))))) (pww_or1 (pwt_of (pt_cmpR (op_neA hu64) pe_sem pe_sem (nomark _)) (run_bin ok_ne (pwo_var 7 (pv 7)) (pwo_var 6 (pv 6))))))) (pwss_one (pws_ret (pwe_bl))) (pwss_nil)))))
    (pwss_one (pws_ret (pwe_callD D_same (hr.mono (by decide)) (by rfl) (pwa_cons (pwo_val (pwe_var 2 (pv 2))) (pwa_cons (pwo_val (pwe_var 1 (pv 1))) (pwa_nil)))))))))))))
theorem def_k11_turned {f : Addr} {fd : FuncData} (T : Blt mg) (F : Fun K "_law_k11_turned" "_law_k11_turned" sk11_turned f fd) (g : mg "_law_k11_turned" = some (.ref f))
    (rd : Reads S_k11_turned (fun EX => v_k11_turned) 1) (len : ∀ ρs R RX, S_k11_turned ρs R RX → ρs.length = 1) : Def P w K mg base 1 "_law_k11_turned" ["row"] S_k11_turned := by
  refine ⟨f, fd, fn_w (t := fun EX => v_k11_turned) F sck11_turned (by decide) len (fun Φ cdv A outer s H E hr tk => ?_) rd, g, F.kp, F.binds fun _ _ _ _ _ _ us hl => match us, hl with | [_], _ => rfl⟩
  show PWSs _ Φ _ (v_k11_turned)
  have hu : (A.deeper (envOfC "_law_k11_turned" (defScope sk11_turned) s.heap.objs.size f cdv)).units + 1 < cLine := hu_of hr
  have hu64 : (A.deeper (envOfC "_law_k11_turned" (defScope sk11_turned) s.heap.objs.size f cdv)).units + 64 < cLine := hr.units
  have hu65 : (A.deeper (envOfC "_law_k11_turned" (defScope sk11_turned) s.heap.objs.size f cdv)).units + 65 < cLine := by have := hr.un; omega
  unfold v_k11_turned
  exact pwss_cons (pws_set (ps_set (i := 1) sck11_turned.nd rfl (Or.inl rfl) pe_sem) (PWE.sem (pwe_of (pe_bm PySem.F.plainAttrs_list PySem.F.slot_list_index PySem.F.type_list_index mt_index (pv 0) (pa_cons pe_sem pa_nil)) (run_idx 0 (pwe_of (pe_callB (call_minDA rfl hu64) (by rfl) T.b_min (by decide +kernel) pa_sem) (run_prim ok_minD (pwa_cons (pwo_var 0 (pv 0)) (pwa_nil))))))))
    (pwss_one (pws_ret (pwe_of (pe_callTy call_tuple_of (by rfl) T.b_tuple (by decide +kernel) pa_sem) (run_prim ok_tuple (pwa_cons (pwo_val (by exact pwe_of (pe_op op_addA pe_sem pe_sem) (run_bin ok_add (pwo_val (by exact pwe_of (pe_slice sl_all pe_sem (po_some pe_sem) po_none) (run_sl (pwo_var 0 (pv 0)) (runo_some (pwe_var 1 (pv 1))) runo_none))) (pwo_val (by exact pwe_of (pe_slice sl_all pe_sem po_none (po_some pe_sem)) (run_sl (pwo_var 0 (pv 0)) runo_none (runo_some (pwe_var 1 (pv 1))))))))) (pwa_nil))))))
theorem def_k11_long {f : Addr} {fd : FuncData} (T : Blt mg) (D_k11_turned : Def P w K mg base 1 "_law_k11_turned" ["row"] S_k11_turned) (D_names : Def P w K mg base 3 "_law_names" ["source", "many", "before"] S_names) (D_pick : Def P w K mg base 1 "_law_pick" ["source", "many"] S_pick) (D_same : Def P w K mg base 4 "_law_same" ["answer", "due"] S_same) (D_knots_of : Def P w K mg base 2 "knots_of" ["waits"] S_knots_of) (D_least_ring : Def P w K mg base 3 "least_ring" ["waits", "knot"] S_least_ring) (F : Fun K "_law_k11_long" "_law_k11_long" sk11_long f fd) (g : mg "_law_k11_long" = some (.ref f))
    (rd : Reads S_k11_long (fun EX => v_k11_long) 8) (len : ∀ ρs R RX, S_k11_long ρs R RX → ρs.length = 2) : Def P w K mg base 5 "_law_k11_long" ["source", "before"] S_k11_long := by
  refine ⟨f, fd, fn_w (t := fun EX => v_k11_long) F sck11_long (by decide) len (fun Φ cdv A outer s H E hr tk => ?_) rd, g, F.kp, F.binds fun _ _ _ _ _ _ us hl => match us, hl with | [_, _], _ => rfl⟩
  show PWSs _ Φ _ (v_k11_long)
  have hu : (A.deeper (envOfC "_law_k11_long" (defScope sk11_long) s.heap.objs.size f cdv)).units + 1 < cLine := hu_of hr
  have hu64 : (A.deeper (envOfC "_law_k11_long" (defScope sk11_long) s.heap.objs.size f cdv)).units + 64 < cLine := hr.units
  have hu65 : (A.deeper (envOfC "_law_k11_long" (defScope sk11_long) s.heap.objs.size f cdv)).units + 65 < cLine := by have := hr.un; omega
  unfold v_k11_long
  exact pwss_cons (pws_set (ps_set (i := 2) sck11_long.nd rfl (Or.inl rfl) pe_sem) (PWE.sem (pwe_sh (pwe_callD D_names (hr.mono (by decide)) (by rfl) (pwa_cons (pwo_var 0 (pv 0)) (pwa_cons (pwo_val (pwe_sh (by exact pwe_of (pe_op op_addA pe_sem pe_sem) (run_bin ok_add (pwo_val (by exact pwe_int)) (pwo_val (by exact pwe_callD D_pick (hr.mono (by decide)) (by rfl) (pwa_cons (pwo_var 0 (pv 0)) (pwa_cons (pwo_val (pwe_int)) (pwa_nil))))))))) (pwa_cons (pwo_val (pwe_var 1 (pv 1))) (pwa_nil))))))))
    (pwss_cons (pws_set (ps_set (i := 3) sck11_long.nd rfl (Or.inl rfl) pe_sem) (PWE.sem (pwe_of (pe_callB call_lenA (by rfl) T.b_len (by decide +kernel) pa_sem) (run_prim ok_len (pwa_cons (pwo_var 2 (pv 2)) (pwa_nil))))))
    (pwss_cons (pws_set (ps_set (i := 4) sck11_long.nd rfl (Or.inl rfl) pe_sem) (PWE.sem (pwe_of pe_dnewK run_newD)))
    (pwss_cons (pws_for (ps_for (passes_of rfl) rfl pi_sem pg_sem pss_sem) (pwi_range1 (pi_range1 (by rfl) T.b_range pa_sem) (pwa_cons (pwo_var 3 (pv 3)) (pwa_nil))) (pwg_of (pg_name (i := 5) sck11_long.nd rfl (Or.inl rfl)) (rung_name 5)) (pwss_one (pws_putR 4 (ps_dput hu (pv 4) pe_sem pe_sem rfl) (pwe_of (pe_ix (ix_all hu) pe_sem pe_sem (fun _ _ => rfl)) (run_bin ok_ix (pwo_var 2 (pv 2)) (pwo_var 5 (pv 5)))) (pwe_lst (pwa_cons (pwo_val (by exact pwe_of (pe_ix (ix_all hu) pe_sem pe_sem (fun _ _ => rfl)) (run_bin ok_ix (pwo_var 2 (pv 2)) (pwo_val (by exact pwe_if (pwt_of (pt_cmpR op_ltA pe_sem pe_sem (nomark _)) (run_bin ok_lt (pwo_val (by exact pwe_of (pe_op op_addA pe_sem pe_sem) (run_bin ok_add (pwo_var 5 (pv 5)) (pwo_val (by exact pwe_int))))) (pwo_var 3 (pv 3)))) (pwe_of (pe_op op_addA pe_sem pe_sem) (run_bin ok_add (pwo_var 5 (pv 5)) (pwo_val (by exact pwe_int)))) (pwe_int)))))) (pwa_nil))))))
    (pwss_cons (pws_set (ps_set (i := 6) sck11_long.nd rfl (Or.inl rfl) pe_sem) (PWE.sem (pwe_callD D_pick (hr.mono (by decide)) (by rfl) (pwa_cons (pwo_var 0 (pv 0)) (pwa_cons (pwo_val (pwe_var 3 (pv 3))) (pwa_nil))))))
    (pwss_cons (pws_set (ps_set (i := 7) sck11_long.nd rfl (Or.inl rfl) pe_sem) (PWE.sem (pwe_of (pe_op op_addA pe_sem pe_sem) (run_bin ok_add (pwo_var 6 (pv 6)) (pwo_val (by exact pwe_callD D_pick (hr.mono (by decide)) (by rfl) (pwa_cons (pwo_var 0 (pv 0)) (pwa_cons (pwo_val (pwe_sh (by exact pwe_of (pe_op op_sub pe_sem pe_sem) (run_bin ok_sub (pwo_var 3 (pv 3)) (pwo_var 6 (pv 6)))))) (pwa_nil)))))))))
    (pwss_alias 4 8 2 6 (ps_set (i := 8) sck11_long.nd rfl (Or.inl rfl) (pe_ix (ix_all hu) (pv 4) pe_sem (fun _ _ => rfl))) (ps_if (pt_cmpR (op_notinA hu) (pe_ix (ix_all hu) (pv 2) (pv 6) (fun _ _ => rfl)) (pv 8) (by rfl)) (pss_one (ps_expr (pe_bm PySem.F.plainAttrs_list PySem.F.slot_list_append PySem.F.type_list_append mt_append (pv 8) (pa_cons (pe_ix (ix_all hu) (pv 2) (pv 6) (fun _ _ => rfl)) pa_nil)))) pss_nil) (pwe_of (pe_ix (ix_all hu) pe_sem pe_sem (fun _ _ => rfl)) (run_bin ok_ix (pwo_var 2 (pv 2)) (pwo_var 7 (pv 7))))
    (pwss_cons (pws_set (ps_set (i := 9) sck11_long.nd rfl (Or.inl rfl) pe_sem) (PWE.sem (pwe_of (pe_slice sl_all pe_sem (po_some pe_sem) (po_some pe_sem)) (run_sl (pwo_var 2 (pv 2)) (runo_some (pwe_var 6 (pv 6))) (runo_some (pwe_of (pe_op op_addA pe_sem pe_sem) (run_bin ok_add (pwo_var 7 (pv 7)) (pwo_val (by exact pwe_int)))))))))
    (pwss_cons (pws_if (pwt_not (pwt_truth (pwo_val (by exact pwe_callD D_same (hr.mono (by decide)) (by rfl) (pwa_cons (pwo_val (pwe_shR (by exact pwe_callD D_knots_of (hr.mono (by decide)) (by rfl) (pwa_cons (pwo_val (pwe_varR 4 (pv 4))) (pwa_nil))))) (pwa_cons (pwo_val (pwe_sh (by exact pwe_lst (pwa_cons (pwo_val (by exact pwe_of (pe_callB call_sortedA (by rfl) T.b_sorted (by decide +kernel) pa_sem) (run_prim ok_sorted (pwa_cons (pwo_var 2 (pv 2)) (pwa_nil))))) (pwa_nil))))) (pwa_nil))))))) (pwss_one (pws_ret (pwe_bl))) (pwss_nil))
    (pwss_one (pws_ret (pwe_callD D_same (hr.mono (by decide)) (by rfl) (pwa_cons (pwo_val (pwe_sh (by exact pwe_callD D_least_ring (hr.mono (by decide)) (by rfl) (pwa_cons (pwo_val (pwe_varR 4 (pv 4))) (pwa_cons (pwo_val (pwe_sh (by exact pwe_of (pe_callB call_sortedA (by rfl) T.b_sorted (by decide +kernel) pa_sem) (run_prim ok_sorted (pwa_cons (pwo_var 2 (pv 2)) (pwa_nil)))))) (pwa_nil)))))) (pwa_cons (pwo_val (pwe_sh (by exact pwe_callD D_k11_turned (hr.mono (by decide)) (by rfl) (pwa_cons (pwo_val (pwe_var 9 (pv 9))) (pwa_nil))))) (pwa_nil))))))))))))))
theorem fn_law {f : Addr} {fd : FuncData} (T : Blt mg) (D_k11_long : Def P w K mg base 5 "_law_k11_long" ["source", "before"] S_k11_long) (D_k11_right : Def P w K mg base 5 "_law_k11_right" ["source", "waits"] S_k11_right) (D_k11_waits : Def P w K mg base 4 "_law_k11_waits" ["source", "before"] S_k11_waits) (D_knots : Def P w K mg base 2 "_law_knots" ["waits"] S_knots) (D_same : Def P w K mg base 4 "_law_same" ["answer", "due"] S_same) (D_source : Def P w K mg base 1 "_law_source" ["script", "at"] S_source) (D_knots_of : Def P w K mg base 2 "knots_of" ["waits"] S_knots_of) (D_least_ring : Def P w K mg base 3 "least_ring" ["waits", "knot"] S_least_ring) (F : Fun K "law" "law" slaw f fd) (g : mg "law" = some (.ref f))
    (rd : Reads S_law (fun EX => v_law) 3) (len : ∀ ρs R RX, S_law ρs R RX → ρs.length = 1) : FnOk P w K mg base (L2.CX P w) 6 f fd ["script"] (spV K S_law) := by
  refine fn_w (t := fun EX => v_law) F sclaw (by decide) len (fun Φ cdv A outer s H E hr tk => ?_) rd
  show PWSs _ Φ _ (v_law)
  have hu : (A.deeper (envOfC "law" (defScope slaw) s.heap.objs.size f cdv)).units + 1 < cLine := hu_of hr
  have hu64 : (A.deeper (envOfC "law" (defScope slaw) s.heap.objs.size f cdv)).units + 64 < cLine := hr.units
  have hu65 : (A.deeper (envOfC "law" (defScope slaw) s.heap.objs.size f cdv)).units + 65 < cLine := by have := hr.un; omega
  unfold v_law
  exact pwss_cons (pws_set (ps_set (i := 1) sclaw.nd rfl (Or.inl rfl) pe_sem) (PWE.sem (pwe_callD D_source (hr.mono (by decide)) (by rfl) (pwa_cons (pwo_val (pwe_var 0 (pv 0))) (pwa_cons (pwo_val (pwe_int)) (pwa_nil))))))
    (pwss_cons (pws_set (ps_set (i := 2) sclaw.nd rfl (Or.inl rfl) pe_sem) (PWE.sem (pwe_callD D_k11_waits (hr.mono (by decide)) (by rfl) (pwa_cons (pwo_var 1 (pv 1)) (pwa_cons (pwo_val (pwe_int)) (pwa_nil))))))
    (pwss_cons (pws_set (ps_set (i := 3) sclaw.nd rfl (Or.inl rfl) pe_sem) (PWE.sem (pwe_callD D_k11_waits (hr.mono (by decide)) (by rfl) (pwa_cons (pwo_val (by exact pwe_callD D_source (hr.mono (by decide)) (by rfl) (pwa_cons (pwo_val (pwe_var 0 (pv 0))) (pwa_cons (pwo_val (pwe_int)) (pwa_nil))))) (pwa_cons (pwo_val (pwe_int)) (pwa_nil))))))
    (pwss_cons (pws_if (PWW.pt (pww_or (pwt_not (pwt_truth (pwo_val (by exact pwe_callD D_k11_right (hr.mono (by decide)) (by rfl) (pwa_cons (pwo_var 1 (pv 1)) (pwa_cons (pwo_val (pwe_var 2 (pv 2))) (pwa_nil))))))) (pww_or1 (pwt_not (pwt_truth (pwo_val (by exact pwe_callD D_k11_right (hr.mono (by decide)) (by rfl) (pwa_cons (pwo_val (by exact pwe_callD D_source (hr.mono (by decide)) (by rfl) (pwa_cons (pwo_val (pwe_var 0 (pv 0))) (pwa_cons (pwo_val (pwe_int)) (pwa_nil))))) (pwa_cons (pwo_val (pwe_var 3 (pv 3))) (pwa_nil)))))))))) (pwss_one (pws_ret (pwe_bl))) (pwss_nil))
    (pwss_cons (pws_if (pwt_not (pwt_truth (pwo_val (by exact pwe_callD D_same (hr.mono (by decide)) (by rfl) (pwa_cons (pwo_val (pwe_shR (by exact pwe_callD D_knots_of (hr.mono (by decide)) (by rfl) (pwa_cons (pwo_val (pwe_var 2 (pv 2))) (pwa_nil))))) (pwa_cons (pwo_val (pwe_sh (by exact pwe_callD D_knots (hr.mono (by decide)) (by rfl) (pwa_cons (pwo_val (pwe_var 2 (pv 2))) (pwa_nil))))) (pwa_nil))))))) (pwss_one (pws_ret (pwe_bl))) (pwss_nil))
    (pwss_cons (pws_if (pwt_not (pwt_truth (pwo_val (by exact pwe_callD D_same (hr.mono (by decide)) (by rfl) (pwa_cons (pwo_val (pwe_sh (by exact pwe_lst (pwa_cons (pwo_val (pwe_shR (by exact pwe_callD D_knots_of (hr.mono (by decide)) (by rfl) (pwa_cons (pwo_val (pwe_sh (by exact pwe_of pe_dnewK run_newD))) (pwa_nil))))) (pwa_cons (pwo_val (by exact pwe_callD D_least_ring (hr.mono (by decide)) (by rfl) (pwa_cons (pwo_val (pwe_sh (by exact pwe_of pe_dnewK run_newD))) (pwa_cons (pwo_val (pwe_sh (by exact pwe_lst (pwa_nil)))) (pwa_nil))))) (pwa_nil)))))) (pwa_cons (pwo_val (pwe_sh (by exact pwe_lst (pwa_cons (pwo_val (by exact pwe_lst (pwa_nil))) (pwa_cons (pwo_val (by exact pwe_non)) (pwa_nil)))))) (pwa_nil))))))) (pwss_one (pws_ret (pwe_bl))) (pwss_nil))
    (pwss_one (pws_ret (pwe_callD D_k11_long (hr.mono (by decide)) (by rfl) (pwa_cons (pwo_val (by exact pwe_callD D_source (hr.mono (by decide)) (by rfl) (pwa_cons (pwo_val (pwe_var 0 (pv 0))) (pwa_cons (pwo_val (pwe_int)) (pwa_nil))))) (pwa_cons (pwo_val (pwe_int)) (pwa_nil)))))))))))
end
end WL

set_option Elab.async false
set_option linter.all false
set_option maxRecDepth 100000
set_option maxHeartbeats 4000000
namespace WL
open PySem PySem.Spec PyProof.Rows L2
/-! ### what the top has written; the head (printed by gen.py) -/
local macro_rules | `(tactic| walk_at "len") => `(tactic| (intro ρs R RX h; first | (rcases h with ⟨e, _⟩; subst e; rfl) | (rcases h with ⟨_, e, _⟩; subst e; rfl) | (rcases h with ⟨_, _, e, _⟩; subst e; rfl) | (rcases h with ⟨_, _, _, e, _⟩; subst e; rfl) | (rcases h with ⟨_, _, _, _, e, _⟩; subst e; rfl) | (rcases h with ⟨_, _, _, _, _, e, _⟩; subst e; rfl) | (rcases h with ⟨_, _, _, _, _, _, e, _⟩; subst e; rfl) | (rcases h with ⟨_, _, _, _, _, _, _, e, _⟩; subst e; rfl) | (rcases h with ⟨_, _, _, _, _, _, _, _, e, _⟩; subst e; rfl) | (rcases h with ⟨_, _, _, _, _, _, _, _, _, e, _⟩; subst e; rfl)))
theorem all_mk {P : Program} {w : World} {K : PySem.W.Frag} {h : Heap} {mg : Str → Option Value} {fa f1 f2 f3 f4 f5 f6 f7 f8 f9 f10 f11 f12 f13 f14 f15 f16 f17 f18 f19 f20 f21 f22 : Addr} (X : K.In h) (G : h.Ns mainGlobals mg) (hfa : mg "law" = some (.ref fa))
    {od1 an1 : Option Addr} {sl1 : Array (Option Value)} {oc1 kV1 dc1 pm1 cd1 ct1 : Value}
    (a1 : PySem.W.nsIn K mainGlobals "reached_names" = some (some (.ref f1))) (l1 : K.lookup f1 = some ⟨oc1, od1, .func (PySem.W.fnOf "reached_names" "reached_names" (defArgs sreached_names) (defBody sreached_names) (defScope sreached_names) .none kV1 dc1 pm1 an1 cd1 ct1), sl1⟩) (c1 : PySem.W.codeIn K cd1 "reached_names" = true) (k1 : PySem.W.keepIn K (.ref f1) = true)
    {od2 an2 : Option Addr} {sl2 : Array (Option Value)} {oc2 kV2 dc2 pm2 cd2 ct2 : Value}
    (a2 : PySem.W.nsIn K mainGlobals "knots_of" = some (some (.ref f2))) (l2 : K.lookup f2 = some ⟨oc2, od2, .func (PySem.W.fnOf "knots_of" "knots_of" (defArgs sknots_of) (defBody sknots_of) (defScope sknots_of) .none kV2 dc2 pm2 an2 cd2 ct2), sl2⟩) (c2 : PySem.W.codeIn K cd2 "knots_of" = true) (k2 : PySem.W.keepIn K (.ref f2) = true)
    {od3 an3 : Option Addr} {sl3 : Array (Option Value)} {oc3 kV3 dc3 pm3 cd3 ct3 : Value}
    (a3 : PySem.W.nsIn K mainGlobals "steps_back" = some (some (.ref f3))) (l3 : K.lookup f3 = some ⟨oc3, od3, .func (PySem.W.fnOf "steps_back" "steps_back" (defArgs ssteps_back) (defBody ssteps_back) (defScope ssteps_back) .none kV3 dc3 pm3 an3 cd3 ct3), sl3⟩) (c3 : PySem.W.codeIn K cd3 "steps_back" = true) (k3 : PySem.W.keepIn K (.ref f3) = true)
    {od4 an4 : Option Addr} {sl4 : Array (Option Value)} {oc4 kV4 dc4 pm4 cd4 ct4 : Value}
    (a4 : PySem.W.nsIn K mainGlobals "ring_from" = some (some (.ref f4))) (l4 : K.lookup f4 = some ⟨oc4, od4, .func (PySem.W.fnOf "ring_from" "ring_from" (defArgs sring_from) (defBody sring_from) (defScope sring_from) .none kV4 dc4 pm4 an4 cd4 ct4), sl4⟩) (c4 : PySem.W.codeIn K cd4 "ring_from" = true) (k4 : PySem.W.keepIn K (.ref f4) = true)
    {od5 an5 : Option Addr} {sl5 : Array (Option Value)} {oc5 kV5 dc5 pm5 cd5 ct5 : Value}
    (a5 : PySem.W.nsIn K mainGlobals "least_ring" = some (some (.ref f5))) (l5 : K.lookup f5 = some ⟨oc5, od5, .func (PySem.W.fnOf "least_ring" "least_ring" (defArgs sleast_ring) (defBody sleast_ring) (defScope sleast_ring) .none kV5 dc5 pm5 an5 cd5 ct5), sl5⟩) (c5 : PySem.W.codeIn K cd5 "least_ring" = true) (k5 : PySem.W.keepIn K (.ref f5) = true)
    {od6 an6 : Option Addr} {sl6 : Array (Option Value)} {oc6 kV6 dc6 pm6 cd6 ct6 : Value}
    (a6 : PySem.W.nsIn K mainGlobals "_law_source" = some (some (.ref f6))) (l6 : K.lookup f6 = some ⟨oc6, od6, .func (PySem.W.fnOf "_law_source" "_law_source" (defArgs ssource) (defBody ssource) (defScope ssource) .none kV6 dc6 pm6 an6 cd6 ct6), sl6⟩) (c6 : PySem.W.codeIn K cd6 "_law_source" = true) (k6 : PySem.W.keepIn K (.ref f6) = true)
    {od7 an7 : Option Addr} {sl7 : Array (Option Value)} {oc7 kV7 dc7 pm7 cd7 ct7 : Value}
    (a7 : PySem.W.nsIn K mainGlobals "_law_pick" = some (some (.ref f7))) (l7 : K.lookup f7 = some ⟨oc7, od7, .func (PySem.W.fnOf "_law_pick" "_law_pick" (defArgs spick) (defBody spick) (defScope spick) .none kV7 dc7 pm7 an7 cd7 ct7), sl7⟩) (c7 : PySem.W.codeIn K cd7 "_law_pick" = true) (k7 : PySem.W.keepIn K (.ref f7) = true)
    {od8 an8 : Option Addr} {sl8 : Array (Option Value)} {oc8 kV8 dc8 pm8 cd8 ct8 : Value}
    (a8 : PySem.W.nsIn K mainGlobals "_law_choice" = some (some (.ref f8))) (l8 : K.lookup f8 = some ⟨oc8, od8, .func (PySem.W.fnOf "_law_choice" "_law_choice" (defArgs schoice) (defBody schoice) (defScope schoice) .none kV8 dc8 pm8 an8 cd8 ct8), sl8⟩) (c8 : PySem.W.codeIn K cd8 "_law_choice" = true) (k8 : PySem.W.keepIn K (.ref f8) = true)
    {od9 an9 : Option Addr} {sl9 : Array (Option Value)} {oc9 kV9 dc9 pm9 cd9 ct9 : Value}
    (a9 : PySem.W.nsIn K mainGlobals "_law_shuffled" = some (some (.ref f9))) (l9 : K.lookup f9 = some ⟨oc9, od9, .func (PySem.W.fnOf "_law_shuffled" "_law_shuffled" (defArgs sshuffled) (defBody sshuffled) (defScope sshuffled) .none kV9 dc9 pm9 an9 cd9 ct9), sl9⟩) (c9 : PySem.W.codeIn K cd9 "_law_shuffled" = true) (k9 : PySem.W.keepIn K (.ref f9) = true)
    {od10 an10 : Option Addr} {sl10 : Array (Option Value)} {oc10 kV10 dc10 pm10 cd10 ct10 : Value}
    (a10 : PySem.W.nsIn K mainGlobals "_law_names" = some (some (.ref f10))) (l10 : K.lookup f10 = some ⟨oc10, od10, .func (PySem.W.fnOf "_law_names" "_law_names" (defArgs snames) (defBody snames) (defScope snames) .none kV10 dc10 pm10 an10 cd10 ct10), sl10⟩) (c10 : PySem.W.codeIn K cd10 "_law_names" = true) (k10 : PySem.W.keepIn K (.ref f10) = true)
    {od11 an11 : Option Addr} {sl11 : Array (Option Value)} {oc11 kV11 dc11 pm11 cd11 ct11 : Value}
    (a11 : PySem.W.nsIn K mainGlobals "_law_same" = some (some (.ref f11))) (l11 : K.lookup f11 = some ⟨oc11, od11, .func (PySem.W.fnOf "_law_same" "_law_same" (defArgs ssame) (defBody ssame) (defScope ssame) .none kV11 dc11 pm11 an11 cd11 ct11), sl11⟩) (c11 : PySem.W.codeIn K cd11 "_law_same" = true) (k11 : PySem.W.keepIn K (.ref f11) = true)
    {od12 an12 : Option Addr} {sl12 : Array (Option Value)} {oc12 kV12 dc12 pm12 cd12 ct12 : Value}
    (a12 : PySem.W.nsIn K mainGlobals "_law_copied" = some (some (.ref f12))) (l12 : K.lookup f12 = some ⟨oc12, od12, .func (PySem.W.fnOf "_law_copied" "_law_copied" (defArgs scopied) (defBody scopied) (defScope scopied) .none kV12 dc12 pm12 an12 cd12 ct12), sl12⟩) (c12 : PySem.W.codeIn K cd12 "_law_copied" = true) (k12 : PySem.W.keepIn K (.ref f12) = true)
    {od13 an13 : Option Addr} {sl13 : Array (Option Value)} {oc13 kV13 dc13 pm13 cd13 ct13 : Value}
    (a13 : PySem.W.nsIn K mainGlobals "_law_reached" = some (some (.ref f13))) (l13 : K.lookup f13 = some ⟨oc13, od13, .func (PySem.W.fnOf "_law_reached" "_law_reached" (defArgs sreached) (defBody sreached) (defScope sreached) .none kV13 dc13 pm13 an13 cd13 ct13), sl13⟩) (c13 : PySem.W.codeIn K cd13 "_law_reached" = true) (k13 : PySem.W.keepIn K (.ref f13) = true)
    {od14 an14 : Option Addr} {sl14 : Array (Option Value)} {oc14 kV14 dc14 pm14 cd14 ct14 : Value}
    (a14 : PySem.W.nsIn K mainGlobals "_law_knots" = some (some (.ref f14))) (l14 : K.lookup f14 = some ⟨oc14, od14, .func (PySem.W.fnOf "_law_knots" "_law_knots" (defArgs sknots) (defBody sknots) (defScope sknots) .none kV14 dc14 pm14 an14 cd14 ct14), sl14⟩) (c14 : PySem.W.codeIn K cd14 "_law_knots" = true) (k14 : PySem.W.keepIn K (.ref f14) = true)
    {od15 an15 : Option Addr} {sl15 : Array (Option Value)} {oc15 kV15 dc15 pm15 cd15 ct15 : Value}
    (a15 : PySem.W.nsIn K mainGlobals "_law_rings" = some (some (.ref f15))) (l15 : K.lookup f15 = some ⟨oc15, od15, .func (PySem.W.fnOf "_law_rings" "_law_rings" (defArgs srings) (defBody srings) (defScope srings) .none kV15 dc15 pm15 an15 cd15 ct15), sl15⟩) (c15 : PySem.W.codeIn K cd15 "_law_rings" = true) (k15 : PySem.W.keepIn K (.ref f15) = true)
    {od16 an16 : Option Addr} {sl16 : Array (Option Value)} {oc16 kV16 dc16 pm16 cd16 ct16 : Value}
    (a16 : PySem.W.nsIn K mainGlobals "_law_least_ring" = some (some (.ref f16))) (l16 : K.lookup f16 = some ⟨oc16, od16, .func (PySem.W.fnOf "_law_least_ring" "_law_least_ring" (defArgs slleast_ring) (defBody slleast_ring) (defScope slleast_ring) .none kV16 dc16 pm16 an16 cd16 ct16), sl16⟩) (c16 : PySem.W.codeIn K cd16 "_law_least_ring" = true) (k16 : PySem.W.keepIn K (.ref f16) = true)
    {od17 an17 : Option Addr} {sl17 : Array (Option Value)} {oc17 kV17 dc17 pm17 cd17 ct17 : Value}
    (a17 : PySem.W.nsIn K mainGlobals "_law_k11_waits" = some (some (.ref f17))) (l17 : K.lookup f17 = some ⟨oc17, od17, .func (PySem.W.fnOf "_law_k11_waits" "_law_k11_waits" (defArgs sk11_waits) (defBody sk11_waits) (defScope sk11_waits) .none kV17 dc17 pm17 an17 cd17 ct17), sl17⟩) (c17 : PySem.W.codeIn K cd17 "_law_k11_waits" = true) (k17 : PySem.W.keepIn K (.ref f17) = true)
    {od18 an18 : Option Addr} {sl18 : Array (Option Value)} {oc18 kV18 dc18 pm18 cd18 ct18 : Value}
    (a18 : PySem.W.nsIn K mainGlobals "_law_k11_asked" = some (some (.ref f18))) (l18 : K.lookup f18 = some ⟨oc18, od18, .func (PySem.W.fnOf "_law_k11_asked" "_law_k11_asked" (defArgs sk11_asked) (defBody sk11_asked) (defScope sk11_asked) .none kV18 dc18 pm18 an18 cd18 ct18), sl18⟩) (c18 : PySem.W.codeIn K cd18 "_law_k11_asked" = true) (k18 : PySem.W.keepIn K (.ref f18) = true)
    {od19 an19 : Option Addr} {sl19 : Array (Option Value)} {oc19 kV19 dc19 pm19 cd19 ct19 : Value}
    (a19 : PySem.W.nsIn K mainGlobals "_law_k11_right" = some (some (.ref f19))) (l19 : K.lookup f19 = some ⟨oc19, od19, .func (PySem.W.fnOf "_law_k11_right" "_law_k11_right" (defArgs sk11_right) (defBody sk11_right) (defScope sk11_right) .none kV19 dc19 pm19 an19 cd19 ct19), sl19⟩) (c19 : PySem.W.codeIn K cd19 "_law_k11_right" = true) (k19 : PySem.W.keepIn K (.ref f19) = true)
    {od20 an20 : Option Addr} {sl20 : Array (Option Value)} {oc20 kV20 dc20 pm20 cd20 ct20 : Value}
    (a20 : PySem.W.nsIn K mainGlobals "_law_k11_turned" = some (some (.ref f20))) (l20 : K.lookup f20 = some ⟨oc20, od20, .func (PySem.W.fnOf "_law_k11_turned" "_law_k11_turned" (defArgs sk11_turned) (defBody sk11_turned) (defScope sk11_turned) .none kV20 dc20 pm20 an20 cd20 ct20), sl20⟩) (c20 : PySem.W.codeIn K cd20 "_law_k11_turned" = true) (k20 : PySem.W.keepIn K (.ref f20) = true)
    {od21 an21 : Option Addr} {sl21 : Array (Option Value)} {oc21 kV21 dc21 pm21 cd21 ct21 : Value}
    (a21 : PySem.W.nsIn K mainGlobals "_law_k11_long" = some (some (.ref f21))) (l21 : K.lookup f21 = some ⟨oc21, od21, .func (PySem.W.fnOf "_law_k11_long" "_law_k11_long" (defArgs sk11_long) (defBody sk11_long) (defScope sk11_long) .none kV21 dc21 pm21 an21 cd21 ct21), sl21⟩) (c21 : PySem.W.codeIn K cd21 "_law_k11_long" = true) (k21 : PySem.W.keepIn K (.ref f21) = true)
    {od22 an22 : Option Addr} {sl22 : Array (Option Value)} {oc22 kV22 dc22 pm22 cd22 ct22 : Value}
    (a22 : PySem.W.nsIn K mainGlobals "law" = some (some (.ref f22))) (l22 : K.lookup f22 = some ⟨oc22, od22, .func (PySem.W.fnOf "law" "law" (defArgs slaw) (defBody slaw) (defScope slaw) .none kV22 dc22 pm22 an22 cd22 ct22), sl22⟩) (c22 : PySem.W.codeIn K cd22 "law" = true) (k22 : PySem.W.keepIn K (.ref f22) = true)
    (z_abs : PySem.W.nsIn K mainGlobals "abs" = some none) (z_all : PySem.W.nsIn K mainGlobals "all" = some none) (z_dict : PySem.W.nsIn K mainGlobals "dict" = some none) (z_int : PySem.W.nsIn K mainGlobals "int" = some none) (z_isinstance : PySem.W.nsIn K mainGlobals "isinstance" = some none) (z_len : PySem.W.nsIn K mainGlobals "len" = some none) (z_list : PySem.W.nsIn K mainGlobals "list" = some none) (z_min : PySem.W.nsIn K mainGlobals "min" = some none) (z_range : PySem.W.nsIn K mainGlobals "range" = some none) (z_repr : PySem.W.nsIn K mainGlobals "repr" = some none) (z_sorted : PySem.W.nsIn K mainGlobals "sorted" = some none) (z_str : PySem.W.nsIn K mainGlobals "str" = some none) (z_sum : PySem.W.nsIn K mainGlobals "sum" = some none) (z_tuple : PySem.W.nsIn K mainGlobals "tuple" = some none) :
    ∃ fd : FuncData, (∀ (s : Shared) (v : Value), BindsTo s fd ⟨[v], []⟩ [("script", v)]) ∧ ∀ base : Heap, K.In base → base.Ns mainGlobals mg → FnOk P w K mg base (L2.CX P w) 6 fa fd ["script"] (spV K S_law) := by
  have e := hfa.symm.trans (PySem.W.mg_of X G a22)
  cases e
  have T : Blt mg := ⟨PySem.W.mg_none_of X G z_abs, PySem.W.mg_none_of X G z_all, PySem.W.mg_none_of X G z_dict, PySem.W.mg_none_of X G z_int, PySem.W.mg_none_of X G z_isinstance, PySem.W.mg_none_of X G z_len, PySem.W.mg_none_of X G z_list, PySem.W.mg_none_of X G z_min, PySem.W.mg_none_of X G z_range, PySem.W.mg_none_of X G z_repr, PySem.W.mg_none_of X G z_sorted, PySem.W.mg_none_of X G z_str, PySem.W.mg_none_of X G z_sum, PySem.W.mg_none_of X G z_tuple⟩
  refine ⟨PySem.W.fnOf "law" "law" (defArgs slaw) (defBody slaw) (defScope slaw) .none kV22 dc22 pm22 an22 cd22 ct22, fun s v => .of_eq rfl, fun base _ _ => ?_⟩
  have F1 := fun_mk (st := sreached_names) l1 c1 k1
  have D_reached_names := def_reached_names (P := P) (w := w) (base := base) T F1 (PySem.W.mg_of X G a1) rd_reached_names (by walk_at "len")
  have F3 := fun_mk (st := ssteps_back) l3 c3 k3
  have D_steps_back := def_steps_back (P := P) (w := w) (base := base) T F3 (PySem.W.mg_of X G a3) rd_steps_back (by walk_at "len")
  have F6 := fun_mk (st := ssource) l6 c6 k6
  have D_source := def_source (P := P) (w := w) (base := base) T F6 (PySem.W.mg_of X G a6) rd_source (by walk_at "len")
  have F7 := fun_mk (st := spick) l7 c7 k7
  have D_pick := def_pick (P := P) (w := w) (base := base) T F7 (PySem.W.mg_of X G a7) rd_pick (by walk_at "len")
  have F13 := fun_mk (st := sreached) l13 c13 k13
  have D_reached := def_reached (P := P) (w := w) (base := base) T F13 (PySem.W.mg_of X G a13) rd_reached (by walk_at "len")
  have F15 := fun_mk (st := srings) l15 c15 k15
  have D_rings := def_rings (P := P) (w := w) (base := base) T F15 (PySem.W.mg_of X G a15) rd_rings (by walk_at "len")
  have F20 := fun_mk (st := sk11_turned) l20 c20 k20
  have D_k11_turned := def_k11_turned (P := P) (w := w) (base := base) T F20 (PySem.W.mg_of X G a20) rd_k11_turned (by walk_at "len")
  have F2 := fun_mk (st := sknots_of) l2 c2 k2
  have D_knots_of := def_knots_of (P := P) (w := w) (base := base) T D_reached_names F2 (PySem.W.mg_of X G a2) rd_knots_of (by walk_at "len")
  have F4 := fun_mk (st := sring_from) l4 c4 k4
  have D_ring_from := def_ring_from (P := P) (w := w) (base := base) T D_steps_back F4 (PySem.W.mg_of X G a4) rd_ring_from (by walk_at "len")
  have F8 := fun_mk (st := schoice) l8 c8 k8
  have D_choice := def_choice (P := P) (w := w) (base := base) T D_pick F8 (PySem.W.mg_of X G a8) rd_choice (by walk_at "len")
  have F9 := fun_mk (st := sshuffled) l9 c9 k9
  have D_shuffled := def_shuffled (P := P) (w := w) (base := base) T D_pick F9 (PySem.W.mg_of X G a9) rd_shuffled (by walk_at "len")
  have F14 := fun_mk (st := sknots) l14 c14 k14
  have D_knots := def_knots (P := P) (w := w) (base := base) T D_reached F14 (PySem.W.mg_of X G a14) rd_knots (by walk_at "len")
  have F16 := fun_mk (st := slleast_ring) l16 c16 k16
  have D_lleast_ring := def_lleast_ring (P := P) (w := w) (base := base) T D_rings F16 (PySem.W.mg_of X G a16) rd_lleast_ring (by walk_at "len")
  have F5 := fun_mk (st := sleast_ring) l5 c5 k5
  have D_least_ring := def_least_ring (P := P) (w := w) (base := base) T D_ring_from F5 (PySem.W.mg_of X G a5) rd_least_ring (by walk_at "len")
  have F10 := fun_mk (st := snames) l10 c10 k10
  have D_names := def_names (P := P) (w := w) (base := base) T D_choice D_pick D_shuffled F10 (PySem.W.mg_of X G a10) rd_names (by walk_at "len")
  have F12 := fun_mk (st := scopied) l12 c12 k12
  have D0_copied : Def P w K mg base 0 "_law_copied" ["thing"] (Sn_copied 0) := Def.never F12 (PySem.W.mg_of X G a12) (F12.binds fun _ _ _ _ _ _ us hl => match us, hl with | [_], _ => rfl)
  have D1_copied : Def P w K mg base 1 "_law_copied" ["thing"] (Sn_copied 1) := def_copied T D0_copied F12 (PySem.W.mg_of X G a12) (rd_copied 0) (by walk_at "len")
  have D2_copied : Def P w K mg base 2 "_law_copied" ["thing"] (Sn_copied 2) := def_copied T D1_copied F12 (PySem.W.mg_of X G a12) (rd_copied 1) (by walk_at "len")
  have D_copied : Def P w K mg base 3 "_law_copied" ["thing"] (Sn_copied 3) := def_copied T D2_copied F12 (PySem.W.mg_of X G a12) (rd_copied 2) (by walk_at "len")
  have F18 := fun_mk (st := sk11_asked) l18 c18 k18
  have D_k11_asked := def_k11_asked (P := P) (w := w) (base := base) T D_knots D_pick D_shuffled F18 (PySem.W.mg_of X G a18) rd_k11_asked (by walk_at "len")
  have F11 := fun_mk (st := ssame) l11 c11 k11
  have D0_same : Def P w K mg base 0 "_law_same" ["answer", "due"] (Sn_same 0) := Def.never F11 (PySem.W.mg_of X G a11) (F11.binds fun _ _ _ _ _ _ us hl => match us, hl with | [_, _], _ => rfl)
  have D1_same : Def P w K mg base 1 "_law_same" ["answer", "due"] (Sn_same 1) := def_same T D0_same F11 (PySem.W.mg_of X G a11) (rd_same 0) (by walk_at "len")
  have D2_same : Def P w K mg base 2 "_law_same" ["answer", "due"] (Sn_same 2) := def_same T D1_same F11 (PySem.W.mg_of X G a11) (rd_same 1) (by walk_at "len")
  have D3_same : Def P w K mg base 3 "_law_same" ["answer", "due"] (Sn_same 3) := def_same T D2_same F11 (PySem.W.mg_of X G a11) (rd_same 2) (by walk_at "len")
  have D_same : Def P w K mg base 4 "_law_same" ["answer", "due"] (Sn_same 4) := def_same T D3_same F11 (PySem.W.mg_of X G a11) (rd_same 3) (by walk_at "len")
  have F17 := fun_mk (st := sk11_waits) l17 c17 k17
  have D_k11_waits := def_k11_waits (P := P) (w := w) (base := base) T D_names D_pick D_shuffled F17 (PySem.W.mg_of X G a17) rd_k11_waits (by walk_at "len")
  have F19 := fun_mk (st := sk11_right) l19 c19 k19
  have D_k11_right := def_k11_right (P := P) (w := w) (base := base) T D_copied D_k11_asked D_knots D_lleast_ring D_same D_knots_of D_least_ring F19 (PySem.W.mg_of X G a19) rd_k11_right (by walk_at "len")
  have F21 := fun_mk (st := sk11_long) l21 c21 k21
  have D_k11_long := def_k11_long (P := P) (w := w) (base := base) T D_k11_turned D_names D_pick D_same D_knots_of D_least_ring F21 (PySem.W.mg_of X G a21) rd_k11_long (by walk_at "len")
  have F22 := fun_mk (st := slaw) l22 c22 k22
  exact fn_law T D_k11_long D_k11_right D_k11_waits D_knots D_same D_source D_knots_of D_least_ring F22 (PySem.W.mg_of X G a22) rd_law (by walk_at "len")
end WL
open PySem PySem.W PyProof.Rows
set_option maxHeartbeats 0 in
theorem PySem.Challenge.cw_firstreasons_k11_knots_by_all_rings_holds : PySem.Challenge.rw_firstreasons_k11_knots_by_all_rings.Holds := by
  w_on; o_law; k_head; (case hw => w_witness2)
  k_fill
  refine L2.walk_of (l := PySem.Challenge.rw_firstreasons_k11_knots_by_all_rings) (n := 63) (k := 6) (x := "script") (CX := fun w => L2.CX PySem.Challenge.rw_firstreasons_k11_knots_by_all_rings.prog w) (sp := fun w => WL.spV _ WL.S_law) rfl (by decide) rfl ⟨rfl, by decide, by decide⟩ (fun w h Y => PySem.W.kIn_of Y) ?F (fun w H a ns hl _ hS => WL.start_of hS ⟨ns, rfl, hl, rfl⟩) (fun _ _ _ _ _ h => by obtain ⟨_, _, _, _, _, _, _, _, _, _, _, _, z⟩ := h; exact z)
  case F =>
    intro w mg fa h KX G hmg
    refine' WL.all_mk KX G hmg ?a1 ?l1 ?c1 ?k1 ?a2 ?l2 ?c2 ?k2 ?a3 ?l3 ?c3 ?k3 ?a4 ?l4 ?c4 ?k4 ?a5 ?l5 ?c5 ?k5 ?a6 ?l6 ?c6 ?k6 ?a7 ?l7 ?c7 ?k7 ?a8 ?l8 ?c8 ?k8 ?a9 ?l9 ?c9 ?k9 ?a10 ?l10 ?c10 ?k10 ?a11 ?l11 ?c11 ?k11 ?a12 ?l12 ?c12 ?k12 ?a13 ?l13 ?c13 ?k13 ?a14 ?l14 ?c14 ?k14 ?a15 ?l15 ?c15 ?k15 ?a16 ?l16 ?c16 ?k16 ?a17 ?l17 ?c17 ?k17 ?a18 ?l18 ?c18 ?k18 ?a19 ?l19 ?c19 ?k19 ?a20 ?l20 ?c20 ?k20 ?a21 ?l21 ?c21 ?k21 ?a22 ?l22 ?c22 ?k22 ?z_abs ?z_all ?z_dict ?z_int ?z_isinstance ?z_len ?z_list ?z_min ?z_range ?z_repr ?z_sorted ?z_str ?z_sum ?z_tuple
    (case a1 => k_is)
    (case l1 => k_is)
    (case c1 => k_is)
    (case k1 => k_is)
    (case a2 => k_is)
    (case l2 => k_is)
    (case c2 => k_is)
    (case k2 => k_is)
    (case a3 => k_is)
    (case l3 => k_is)
    (case c3 => k_is)
    (case k3 => k_is)
    (case a4 => k_is)
    (case l4 => k_is)
    (case c4 => k_is)
    (case k4 => k_is)
    (case a5 => k_is)
    (case l5 => k_is)
    (case c5 => k_is)
    (case k5 => k_is)
    (case a6 => k_is)
    (case l6 => k_is)
    (case c6 => k_is)
    (case k6 => k_is)
    (case a7 => k_is)
    (case l7 => k_is)
    (case c7 => k_is)
    (case k7 => k_is)
    (case a8 => k_is)
    (case l8 => k_is)
    (case c8 => k_is)
    (case k8 => k_is)
    (case a9 => k_is)
    (case l9 => k_is)
    (case c9 => k_is)
    (case k9 => k_is)
    (case a10 => k_is)
    (case l10 => k_is)
    (case c10 => k_is)
    (case k10 => k_is)
    (case a11 => k_is)
    (case l11 => k_is)
    (case c11 => k_is)
    (case k11 => k_is)
    (case a12 => k_is)
    (case l12 => k_is)
    (case c12 => k_is)
    (case k12 => k_is)
    (case a13 => k_is)
    (case l13 => k_is)
    (case c13 => k_is)
    (case k13 => k_is)
    (case a14 => k_is)
    (case l14 => k_is)
    (case c14 => k_is)
    (case k14 => k_is)
    (case a15 => k_is)
    (case l15 => k_is)
    (case c15 => k_is)
    (case k15 => k_is)
    (case a16 => k_is)
    (case l16 => k_is)
    (case c16 => k_is)
    (case k16 => k_is)
    (case a17 => k_is)
    (case l17 => k_is)
    (case c17 => k_is)
    (case k17 => k_is)
    (case a18 => k_is)
    (case l18 => k_is)
    (case c18 => k_is)
    (case k18 => k_is)
    (case a19 => k_is)
    (case l19 => k_is)
    (case c19 => k_is)
    (case k19 => k_is)
    (case a20 => k_is)
    (case l20 => k_is)
    (case c20 => k_is)
    (case k20 => k_is)
    (case a21 => k_is)
    (case l21 => k_is)
    (case c21 => k_is)
    (case k21 => k_is)
    (case a22 => k_is)
    (case l22 => k_is)
    (case c22 => k_is)
    (case k22 => k_is)
    (case z_abs => k_is)
    (case z_all => k_is)
    (case z_dict => k_is)
    (case z_int => k_is)
    (case z_isinstance => k_is)
    (case z_len => k_is)
    (case z_list => k_is)
    (case z_min => k_is)
    (case z_range => k_is)
    (case z_repr => k_is)
    (case z_sorted => k_is)
    (case z_str => k_is)
    (case z_sum => k_is)
    (case z_tuple => k_is)
