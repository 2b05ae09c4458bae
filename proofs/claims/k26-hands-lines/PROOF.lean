import PyProof.Rows.All
import HandS.ForMost
import HandS.Lambda
import HandS.Exc
import HandS.ExcOwn
import HandS.CallSlots
import HandS.WordsExc
import HandS.TupAny
import HandS.Wide
import HandS.Conv
import HandS.IsInst
import HandS.TryOnly
import HandS.SortInts
import HandS.RaiseMore
import HandS.ExcInit
import HandS.ExcField
import HandS.Replace
import HandS.ReplaceDef
import HandS.Codes
import HandS.Deep
import HandS.DictComp
import HandS.More
import KE.DataMinMax
import HandS.SortKw
import HandS.SortRule
import HandS.Iter
import PyProof.TupleKey
import PyProof.DictRoadsH
import PyProof.P3In
import KE.KDictDisplayH
import PySem.Challenge.RW_firstreasons_k26_hands_lines_and_groups
import HandS.EndTab
set_option Elab.async false
set_option linter.all false
set_option maxRecDepth 100000
set_option maxHeartbeats 4000000
/-! W0: a layer of values over HandS: trees of data, cells that a def owns, what an expression or a statement gives. -/
namespace WL
open PySem PySem.Spec PyProof.Rows L2

/-! ### data -/
inductive D where
  | non | bl (b : Bool) | int (i : Int) | str (x : Str)
  | lst (ds : List D) | tup (ds : List D) | fls (ds : List D) | ftp (ds : List D)
  | dct (kvs : List (Key × D)) | dcT (kvs : List (List Key × D))
  | opq (v : V)

mutual
inductive Rep (K : PySem.W.Frag) (H : Hp) : V → D → Prop
  | non : Rep K H .non .non
  | bl {b} : Rep K H (.bl b) (.bl b)
  | int {i} : Rep K H (.int i) (.int i)
  | str {x} : Rep K H (.str x) (.str x)
  | lst {a vs ds} (h : H a = some (.lst vs)) (r : Reps K H vs ds) : Rep K H (.ref a) (.lst ds)
  | tup {a vs ds} (h : H a = some (.tup vs)) (r : Reps K H vs ds) : Rep K H (.ref a) (.tup ds)
  | fls {a vs ds} (h : SqL K H a vs) (r : Reps K H vs ds) : Rep K H (.ref a) (.fls ds)
  | ftp {a vs ds} (h : SqT K H a vs) (r : Reps K H vs ds) : Rep K H (.ref a) (.ftp ds)
  | dct {a kvs kds} (h : Rd H a (.dK kvs)) (r : RepK K H kvs kds) : Rep K H (.ref a) (.dct kds)
  | dcT {a kvs kds} (h : Rd H a (.dT kvs)) (r : RepT K H kvs kds) : Rep K H (.ref a) (.dcT kds)
  | opq {v} : Rep K H v (.opq v)
inductive Reps (K : PySem.W.Frag) (H : Hp) : List V → List D → Prop
  | nil : Reps K H [] []
  | cons {v d vs ds} (h : Rep K H v d) (t : Reps K H vs ds) : Reps K H (v :: vs) (d :: ds)
inductive RepK (K : PySem.W.Frag) (H : Hp) : List (Key × V) → List (Key × D) → Prop
  | nil : RepK K H [] []
  | cons {k v d vs ds} (h : Rep K H v d) (t : RepK K H vs ds) : RepK K H ((k, v) :: vs) ((k, d) :: ds)
inductive RepT (K : PySem.W.Frag) (H : Hp) : List (List Key × V) → List (List Key × D) → Prop
  | nil : RepT K H [] []
  | cons {k v d vs ds} (h : Rep K H v d) (t : RepT K H vs ds) : RepT K H ((k, v) :: vs) ((k, d) :: ds)
end

section
variable {K : PySem.W.Frag} {H H' : Hp}
theorem Same.rd {a : Addr} {u : HO} (e : Same H H') (h : Rd H a u) : Rd H' a u := by
  rcases h with h | ⟨o, h⟩
  · exact .inl (e a _ h)
  · exact .inr ⟨o, e a _ h⟩
theorem Same.sqT {a : Addr} {xs : List V} (e : Same H H') (h : SqT K H a xs) : SqT K H' a xs := by
  rcases h with h | h
  · exact .inl (Same.rd e h)
  · exact .inr h
mutual
theorem Rep.mono {v : V} {d : D} (e : Same H H') : Rep K H v d → Rep K H' v d
  | .non => .non
  | .bl => .bl
  | .int => .int
  | .str => .str
  | .lst h r => .lst (e _ _ h) (Reps.mono e r)
  | .tup h r => .tup (e _ _ h) (Reps.mono e r)
  | .fls h r => .fls (e.seq h) (Reps.mono e r)
  | .ftp h r => .ftp (Same.sqT e h) (Reps.mono e r)
  | .dct h r => .dct (Same.rd e h) (RepK.mono e r)
  | .dcT h r => .dcT (Same.rd e h) (RepT.mono e r)
  | .opq => .opq
theorem Reps.mono {vs : List V} {ds : List D} (e : Same H H') : Reps K H vs ds → Reps K H' vs ds
  | .nil => .nil
  | .cons h t => .cons (Rep.mono e h) (Reps.mono e t)
theorem RepK.mono {vs : List (Key × V)} {ds : List (Key × D)} (e : Same H H') : RepK K H vs ds → RepK K H' vs ds
  | .nil => .nil
  | .cons h t => .cons (Rep.mono e h) (RepK.mono e t)
theorem RepT.mono {vs : List (List Key × V)} {ds : List (List Key × D)} (e : Same H H') : RepT K H vs ds → RepT K H' vs ds
  | .nil => .nil
  | .cons h t => .cons (Rep.mono e h) (RepT.mono e t)
end
theorem Reps.length : ∀ {vs : List V} {ds : List D}, Reps K H vs ds → vs.length = ds.length
  | _, _, .nil => rfl
  | _, _, .cons _ t => by simp [Reps.length t]
theorem Reps.get : ∀ {vs : List V} {ds : List D} {i : Nat} {v : V}, Reps K H vs ds → vs[i]? = some v → ∃ d, ds[i]? = some d ∧ Rep K H v d
  | _, _, _, _, .nil, e => by simp at e
  | _, _, 0, _, .cons r _, e => by simp at e; subst e; exact ⟨_, rfl, r⟩
  | _, _, i + 1, x, .cons _ t, e => by
    obtain ⟨u, h1, h2⟩ := Reps.get (i := i) (v := x) t (by simpa using e)
    exact ⟨u, by simpa using h1, h2⟩
theorem Reps.getD : ∀ {vs : List V} {ds : List D} {i : Nat} {d : D}, Reps K H vs ds → ds[i]? = some d → ∃ v, vs[i]? = some v ∧ Rep K H v d
  | _, _, _, _, .nil, e => by simp at e
  | _, _, 0, _, .cons r _, e => by simp at e; subst e; exact ⟨_, rfl, r⟩
  | _, _, i + 1, x, .cons _ t, e => by
    obtain ⟨u, h1, h2⟩ := Reps.getD (i := i) (d := x) t (by simpa using e)
    exact ⟨u, by simpa using h1, h2⟩
theorem Reps.append : ∀ {vs ws : List V} {ds es : List D}, Reps K H vs ds → Reps K H ws es → Reps K H (vs ++ ws) (ds ++ es)
  | _, _, _, _, .nil, s => s
  | _, _, _, _, .cons r t, s => .cons r (Reps.append t s)
theorem Reps.take : ∀ {vs : List V} {ds : List D} (n : Nat), Reps K H vs ds → Reps K H (vs.take n) (ds.take n)
  | _, _, 0, _ => .nil
  | _, _, _ + 1, .nil => .nil
  | _, _, n + 1, .cons r t => .cons r (Reps.take n t)
theorem Reps.drop : ∀ {vs : List V} {ds : List D} (n : Nat), Reps K H vs ds → Reps K H (vs.drop n) (ds.drop n)
  | _, _, 0, r => r
  | _, _, _ + 1, .nil => .nil
  | _, _, n + 1, .cons _ t => Reps.drop n t
theorem Reps.set {v : V} {d : D} (r : Rep K H v d) : ∀ {vs : List V} {ds : List D} (i : Nat), Reps K H vs ds → Reps K H (vs.set i v) (ds.set i d)
  | _, _, _, .nil => .nil
  | _, _, 0, .cons _ t => .cons r t
  | _, _, i + 1, .cons q t => .cons q (Reps.set r i t)
theorem Reps.eraseIdx : ∀ {vs : List V} {ds : List D} (i : Nat), Reps K H vs ds → Reps K H (vs.eraseIdx i) (ds.eraseIdx i)
  | _, _, _, .nil => .nil
  | _, _, 0, .cons _ t => t
  | _, _, i + 1, .cons q t => .cons q (Reps.eraseIdx i t)
theorem Reps.one {v : V} {d : D} (r : Rep K H v d) : Reps K H [v] [d] := .cons r .nil
theorem Reps.dropLast : ∀ {vs : List V} {ds : List D}, Reps K H vs ds → Reps K H vs.dropLast ds.dropLast
  | _, _, .nil => .nil
  | _, _, .cons _ .nil => .nil
  | _, _, .cons q (.cons q' t) => .cons q (Reps.dropLast (.cons q' t))
theorem Reps.reverse : ∀ {vs : List V} {ds : List D}, Reps K H vs ds → Reps K H vs.reverse ds.reverse
  | _, _, .nil => .nil
  | _, _, .cons q t => by simpa using (Reps.reverse t).append (.one q)
/-- ints, texts, bools -/
theorem Reps.ints : ∀ {vs : List V} {ns : List Int}, Reps K H vs (ns.map D.int) → vs = ns.map V.int
  | _, [], .nil => rfl
  | _, _ :: _, .cons .int t => by rw [Reps.ints t]; rfl
theorem Reps.of_ints : ∀ (ns : List Int), Reps K H (ns.map V.int) (ns.map D.int)
  | [] => .nil
  | _ :: r => .cons .int (Reps.of_ints r)
theorem Reps.strs : ∀ {vs : List V} {ns : List Str}, Reps K H vs (ns.map D.str) → vs = ns.map V.str
  | _, [], .nil => rfl
  | _, _ :: _, .cons .str t => by rw [Reps.strs t]; rfl
theorem Reps.of_strs : ∀ (ns : List Str), Reps K H (ns.map V.str) (ns.map D.str)
  | [] => .nil
  | _ :: r => .cons .str (Reps.of_strs r)
theorem Reps.bls : ∀ {vs : List V} {ns : List Bool}, Reps K H vs (ns.map D.bl) → vs = ns.map V.bl
  | _, [], .nil => rfl
  | _, _ :: _, .cons .bl t => by rw [Reps.bls t]; rfl
end

/-! ### what is owned -/
inductive Own where
  | lst (ds : List D) | dct (kvs : List (Key × D)) | dcT (kvs : List (List Key × D))
def Own.d : Own → D
  | .lst ds => .lst ds
  | .dct kvs => .dct kvs
  | .dcT kvs => .dcT kvs
/-! ### a dict whose keys are tuples of tuples of ints, its values True -/
mutual
def hashD : D → Int
  | .int i => hashInt i
  | .tup ds => reduceHash (Builtin.Tuple.tupleHashOf (hashDs ds))
  | _ => 0
def hashDs : List D → List Int
  | [] => []
  | d :: ds => hashD d :: hashDs ds
end
mutual
/-- ints, tuples of these, nested at most n deep -/
def keyB : Nat → D → Bool
  | _, .int _ => true
  | n + 1, .tup ds => keyBs n ds
  | _, _ => false
def keyBs : Nat → List D → Bool
  | _, [] => true
  | n, d :: ds => keyB n d && keyBs n ds
end
def keyT (d : D) : Prop := keyB 6 d = true ∧ ∃ ds, d = .tup ds
def entKS (x : Addr × D) : DictEntry := ⟨hashD x.2, .ref x.1, .bool true⟩
def KSat (p : Addr) (qs : List Addr) (ds : List D) (h : Heap) : Prop := ∃ ep, h.get? p = some { cls := .type "dict", dict := none, data := .dict ((qs.zip ds).map entKS).toArray ep, slots := #[] }
def KS (p : Addr) (qs : List Addr) (ds : List D) : HO := .ext (KSat p qs ds)
/-- a slot: nothing known, shared data, an object of one's own (b: lent by the caller), a list (k = none) or a dict (its keys) of own lists -/
inductive Slot where
  | un | sh (d : D) | ow (b : Bool) (o : Own) | rw (k : Option (List Key)) (rows : List (List D)) | ks (ds : List D)
abbrev Rho := List Slot
abbrev Cell := Option V × Slot

inductive OwnAt (K : PySem.W.Frag) (Hk H : Hp) : Own → Addr → List Addr → Prop
  | lst {p vs ds} (h : H p = some (.lst vs)) (r : Reps K Hk vs ds) : OwnAt K Hk H (.lst ds) p [p]
  | dct {p kvs kds} (h : H p = some (.dK kvs)) (r : RepK K Hk kvs kds) : OwnAt K Hk H (.dct kds) p [p]
  | dcT {p kvs kds} (h : H p = some (.dT kvs)) (r : RepT K Hk kvs kds) : OwnAt K Hk H (.dcT kds) p [p]
/-- own lists -/
inductive Rows (K : PySem.W.Frag) (Hk H : Hp) : List Addr → List (List D) → Prop
  | nil : Rows K Hk H [] []
  | cons {q vs ds qs rows} (h : H q = some (.lst vs)) (r : Reps K Hk vs ds) (t : Rows K Hk H qs rows) : Rows K Hk H (q :: qs) (ds :: rows)
/-- what holds them -/
def outer : Option (List Key) → List Addr → HO
  | none, qs => .lst (qs.map V.ref)
  | some ks, qs => .dK (ks.zip (qs.map V.ref))
def kOk : Option (List Key) → List Addr → Prop
  | none, _ => True
  | some ks, qs => ks.length = qs.length
inductive CellOk (K : PySem.W.Frag) (Hk H : Hp) : Option V → Slot → List Addr → Prop
  | rw {k p qs rows} (h : H p = some (outer k qs)) (hk : kOk k qs) (r : Rows K Hk H qs rows) : CellOk K Hk H (some (.ref p)) (.rw k rows) (p :: qs)
  | ks {p qs ds} (h : H p = some (KS p qs ds)) (hl : qs.length = ds.length) (r : Reps K Hk (qs.map V.ref) ds) (nd : ds.Nodup) (kk : ∀ d ∈ ds, keyT d) (hz : ds.length ≤ sizeLine) (hp : (p == sysModules) = false) : CellOk K Hk H (some (.ref p)) (.ks ds) [p]
  | un {x} : CellOk K Hk H x .un []
  | sh {v d} (r : Rep K Hk v d) : CellOk K Hk H (some v) (.sh d) []
  | ow {b o p fp} (r : OwnAt K Hk H o p fp) : CellOk K Hk H (some (.ref p)) (.ow b o) fp
inductive Cells (K : PySem.W.Frag) (Hk H : Hp) : List Cell → List Addr → Prop
  | nil : Cells K Hk H [] []
  | cons {c L fp fq} (h : CellOk K Hk H c.1 c.2 fp) (t : Cells K Hk H L fq) : Cells K Hk H (c :: L) (fp ++ fq)

section
variable {K : PySem.W.Frag} {Hk Hk' H H' : Hp}
theorem OwnAt.at {o : Own} {p : Addr} {fp : List Addr} (h : OwnAt K Hk H o p fp) : ∀ q ∈ fp, ∃ u, H q = some u := by
  intro q hq
  cases h with
  | lst h r => simp at hq; subst hq; exact ⟨_, h⟩
  | dct h r => simp at hq; subst hq; exact ⟨_, h⟩
  | dcT h r => simp at hq; subst hq; exact ⟨_, h⟩
theorem OwnAt.mono {o : Own} {p : Addr} {fp : List Addr} (h : OwnAt K Hk H o p fp) (e : Same Hk Hk') (k : ∀ q ∈ fp, H' q = H q) : OwnAt K Hk' H' o p fp := by
  cases h with
  | lst h r => exact .lst ((k _ (by simp)).trans h) (r.mono e)
  | dct h r => exact .dct ((k _ (by simp)).trans h) (r.mono e)
  | dcT h r => exact .dcT ((k _ (by simp)).trans h) (r.mono e)
theorem Rows.at : ∀ {qs : List Addr} {rows : List (List D)}, Rows K Hk H qs rows → ∀ q ∈ qs, ∃ u, H q = some u
  | _, _, .nil => by simp
  | _, _, .cons h _ t => fun q hq => (List.mem_cons.mp hq).elim (fun e => e ▸ ⟨_, h⟩) (Rows.at t q)
theorem Rows.mono : ∀ {qs : List Addr} {rows : List (List D)}, Rows K Hk H qs rows → Same Hk Hk' → (∀ q ∈ qs, H' q = H q) → Rows K Hk' H' qs rows
  | _, _, .nil, _, _ => .nil
  | _, _, .cons h r t, e, k => .cons ((k _ (by simp)).trans h) (r.mono e) (Rows.mono t e fun q hq => k q (List.mem_cons_of_mem _ hq))
theorem Rows.length : ∀ {qs : List Addr} {rows : List (List D)}, Rows K Hk H qs rows → qs.length = rows.length
  | _, _, .nil => rfl
  | _, _, .cons _ _ t => by simp [Rows.length t]
theorem CellOk.at {x : Option V} {sl : Slot} {fp : List Addr} (h : CellOk K Hk H x sl fp) : ∀ q ∈ fp, ∃ u, H q = some u := by
  cases h with
  | rw h hk r => exact fun q hq => (List.mem_cons.mp hq).elim (fun e => e ▸ ⟨_, h⟩) (r.at q)
  | ks h _ _ _ _ _ _ => simp; exact ⟨_, h⟩
  | un => simp
  | sh r => simp
  | ow r => exact r.at
theorem CellOk.mono {x : Option V} {sl : Slot} {fp : List Addr} (h : CellOk K Hk H x sl fp) (e : Same Hk Hk') (k : ∀ q ∈ fp, H' q = H q) : CellOk K Hk' H' x sl fp := by
  cases h with
  | rw h hk r => exact .rw ((k _ (by simp)).trans h) hk (r.mono e fun q hq => k q (List.mem_cons_of_mem _ hq))
  | ks h hl r nd kk hz hp => exact .ks ((k _ (by simp)).trans h) hl (r.mono e) nd kk hz hp
  | un => exact .un
  | sh r => exact .sh (r.mono e)
  | ow r => exact .ow (r.mono e k)
theorem Cells.at : ∀ {L : List Cell} {F : List Addr}, Cells K Hk H L F → ∀ q ∈ F, ∃ u, H q = some u
  | _, _, .nil => by simp
  | _, _, .cons h t => fun q hq => (List.mem_append.mp hq).elim (h.at q) (Cells.at t q)
theorem Cells.mono : ∀ {L : List Cell} {F : List Addr}, Cells K Hk H L F → Same Hk Hk' → (∀ q ∈ F, H' q = H q) → Cells K Hk' H' L F
  | _, _, .nil, _, _ => .nil
  | _, _, .cons h t, e, k => .cons (h.mono e fun q hq => k q (List.mem_append_left _ hq)) (Cells.mono t e fun q hq => k q (List.mem_append_right _ hq))
theorem Cells.perm {L L' : List Cell} (p : L.Perm L') : ∀ {F : List Addr}, Cells K Hk H L F → ∃ F', F.Perm F' ∧ Cells K Hk H L' F' := by
  induction p with
  | nil => intro F h; exact ⟨F, .refl _, h⟩
  | cons x _ ih =>
    intro F h
    cases h with
    | cons h t =>
      obtain ⟨F', p', h'⟩ := ih t
      exact ⟨_, p'.append_left _, .cons h h'⟩
  | swap x y l =>
    intro F h
    cases h with
    | cons h t =>
      cases t with
      | cons h2 t => exact ⟨_, by rw [← List.append_assoc, ← List.append_assoc]; exact List.perm_append_comm.append_right _, .cons h2 (.cons h t)⟩
  | trans _ _ ih1 ih2 =>
    intro F h
    obtain ⟨F1, p1, h1⟩ := ih1 h
    obtain ⟨F2, p2, h2⟩ := ih2 h1
    exact ⟨F2, p1.trans p2, h2⟩
end

/-- the tables of code objects that may grow, with the name that their code objects bear; the exception classes by name -/
class TBs where
  tb : List (Addr × Str)
  exc : Str → Addr
variable [TBs]
def TabW (Hk H : Hp) (p : Addr) (q : Str) : Prop := ∃ ps : Array Value, H p = some (.tbl ps) ∧ TriplesOk ps.toList ∧ ∀ (pos : Pos) (cv : Value), codeAmong pos ps.toList = some cv → ∃ c, cv = .ref c ∧ Hk c = some (LamX.CodeO c q)
def NoTbl (u : HO) : Prop := ∀ ps, u ≠ .tbl ps
structure TabsW (Hk H : Hp) : Prop where
  nt : ∀ b ps, Hk b ≠ some (.tbl ps)
  tb : ∀ p ∈ TBs.tb, TabW Hk H p.1 p.2
theorem TabsW.to {Hk Hk' H H' : Hp} (t : TabsW Hk H) (e : Same Hk Hk') (n : ∀ b ps, Hk' b ≠ some (.tbl ps)) (k : ∀ b ps, H b = some (.tbl ps) → H' b = some (.tbl ps)) : TabsW Hk' H' := ⟨n, fun p hp => by
  obtain ⟨ps, h1, h2, h3⟩ := t.tb p hp
  refine ⟨ps, k _ _ h1, h2, fun pos cv hc => ?_⟩
  obtain ⟨c, e1, e2⟩ := h3 pos cv hc
  exact ⟨c, e1, e _ _ e2⟩⟩
theorem TabsW.upd {Hk H : Hp} (t : TabsW Hk H) {p : Addr} {u : HO} (h : ∀ ps, H p ≠ some (.tbl ps)) : TabsW Hk (upd H p u) := t.to (.refl _) t.nt fun b ps e => by
  rw [upd_ne (fun z => h ps (by rw [← z]; exact e))]; exact e
theorem TabsW.know {Hk H : Hp} (t : TabsW Hk H) {p : Addr} {u : HO} (h : H p = none) (hk : Hk p = none) (hu : NoTbl u) : TabsW (L2.upd Hk p u) (L2.upd H p u) := t.to (fun b o q => by rw [upd_ne (ne_of_none q hk)]; exact q)
  (fun b ps e => by
    by_cases hb : b = p
    · rw [hb, upd_same] at e; exact hu ps (Option.some.inj e)
    · rw [upd_ne hb] at e; exact t.nt b ps e) fun b ps e => by rw [upd_ne (ne_of_none e h)]; exact e

/-- the cells stand in H, beside what is known (Hk) -/
structure HL (K : PySem.W.Frag) (Hk H : Hp) (L : List Cell) : Prop where
  ex : Same Hk H
  tb : TabsW Hk H
  cells : ∃ F, Cells K Hk H L F ∧ F.Nodup ∧ ∀ p ∈ F, Hk p = none
section
variable {K : PySem.W.Frag} {Hk Hk' H H' : Hp} {L L' : List Cell} {c : Cell} {p : Addr}
theorem HL.perm (h : HL K Hk H L) (e : L.Perm L') : HL K Hk H L' := by
  obtain ⟨F, hc, hn, hk⟩ := h.cells
  obtain ⟨F', p', hc'⟩ := hc.perm e
  exact ⟨h.ex, h.tb, F', hc', p'.nodup_iff.mp hn, fun q hq => hk q (p'.mem_iff.mpr hq)⟩
theorem HL.tail (h : HL K Hk H (c :: L)) : HL K Hk H L := by
  obtain ⟨F, hc, hn, hk⟩ := h.cells
  cases hc with
  | cons h1 t => exact ⟨h.ex, h.tb, _, t, (List.nodup_append.mp hn).2.1, fun q hq => hk q (List.mem_append_right _ hq)⟩
theorem HL.un {x : Option V} (h : HL K Hk H L) : HL K Hk H ((x, .un) :: L) := by
  obtain ⟨F, hc, hn, hk⟩ := h.cells
  exact ⟨h.ex, h.tb, F, .cons (fp := []) .un hc, hn, hk⟩
theorem HL.sh {v : V} {d : D} (h : HL K Hk H L) (r : Rep K Hk v d) : HL K Hk H ((some v, .sh d) :: L) := by
  obtain ⟨F, hc, hn, hk⟩ := h.cells
  exact ⟨h.ex, h.tb, F, .cons (fp := []) (.sh r) hc, hn, hk⟩
theorem HL.get_sh {x : Option V} {d : D} (h : HL K Hk H ((x, .sh d) :: L)) : ∃ v, x = some v ∧ Rep K Hk v d := by
  obtain ⟨F, hc, hn, hk⟩ := h.cells
  cases hc with
  | cons h1 t =>
    cases h1 with
    | sh r => exact ⟨_, rfl, r⟩
/-- a new object, known at once -/
theorem HL.know {u : HO} (h : HL K Hk H L) (hp : H p = none) (hu : NoTbl u := by intro _ z; cases z) : HL K (upd Hk p u) (upd H p u) L := by
  obtain ⟨F, hc, hn, hk⟩ := h.cells
  have hkp : Hk p = none := h.ex.free hp
  have e : Same Hk (upd Hk p u) := fun b o q => by rw [upd_ne (ne_of_none q hkp)]; exact q
  have ne : ∀ q ∈ F, q ≠ p := fun q hq z => by
    obtain ⟨o, ho⟩ := hc.at q hq
    rw [z, hp] at ho; cases ho
  refine ⟨fun b o q => ?_, h.tb.know hp hkp hu, F, hc.mono e fun q hq => upd_ne (ne q hq), hn, fun q hq => by rw [upd_ne (ne q hq)]; exact hk q hq⟩
  by_cases hb : b = p
  · subst hb; rw [upd_same] at q; cases q; exact upd_same
  · rw [upd_ne hb] at q; rw [upd_ne hb]; exact h.ex b o q
theorem HL.know_same {u : HO} (h : HL K Hk H L) (hp : H p = none) : Same Hk (upd Hk p u) := fun b o q => by rw [upd_ne (ne_of_none q (h.ex.free hp))]; exact q
/-- a new object of one's own -/
theorem HL.own {u : HO} {o : Own} {b : Bool} (h : HL K Hk H L) (hp : H p = none) (ho : OwnAt K Hk (upd H p u) o p [p]) : HL K Hk (upd H p u) ((some (.ref p), .ow b o) :: L) := by
  obtain ⟨F, hc, hn, hk⟩ := h.cells
  have hkp : Hk p = none := h.ex.free hp
  have ne : ∀ q ∈ F, q ≠ p := fun q hq z => by
    obtain ⟨o, ho⟩ := hc.at q hq
    rw [z, hp] at ho; cases ho
  refine ⟨fun b o q => by rw [upd_ne (ne_of_none q hkp)]; exact h.ex b o q, h.tb.upd (fun ps z => by rw [hp] at z; cases z), [p] ++ F, .cons (.ow ho) (hc.mono (.refl _) fun q hq => upd_ne (ne q hq)), ?_, fun q hq => ?_⟩
  · exact List.nodup_cons.mpr ⟨fun z => ne p z rfl, hn⟩
  · rcases List.mem_cons.mp hq with z | z
    · rw [z]; exact hkp
    · exact hk q z
/-- what is owned becomes known -/
theorem HL.share {x : Option V} {o : Own} {b : Bool} (h : HL K Hk H ((x, .ow b o) :: L)) : ∃ Hk' v, x = some v ∧ Same Hk Hk' ∧ Rep K Hk' v o.d ∧ HL K Hk' H ((x, .sh o.d) :: L) := by
  obtain ⟨F, hc, hn, hk⟩ := h.cells
  cases hc with
  | cons h1 t =>
    rename_i fp fq
    have nd := List.nodup_append.mp hn
    cases h1 with
    | ow r =>
      rename_i p
      have e1 : Same Hk (fun a => if a ∈ fp then H a else Hk a) := fun a u q => by
        show (if a ∈ fp then H a else Hk a) = some u
        by_cases ha : a ∈ fp
        · rw [if_pos ha]; exact h.ex a u q
        · rw [if_neg ha]; exact q
      have e2 : Same (fun a => if a ∈ fp then H a else Hk a) H := fun a u q => by
        have q' : (if a ∈ fp then H a else Hk a) = some u := q
        by_cases ha : a ∈ fp
        · rw [if_pos ha] at q'; exact q'
        · rw [if_neg ha] at q'; exact h.ex a u q'
      have r2 : Rep K (fun a => if a ∈ fp then H a else Hk a) (.ref p) o.d := by
        cases r with
        | lst h r => exact .lst (by show (if p ∈ [p] then H p else Hk p) = _; rw [if_pos (by simp)]; exact h) (r.mono e1)
        | dct h r => exact .dct (.inl (by show (if p ∈ [p] then H p else Hk p) = _; rw [if_pos (by simp)]; exact h)) (r.mono e1)
        | dcT h r => exact .dcT (.inl (by show (if p ∈ [p] then H p else Hk p) = _; rw [if_pos (by simp)]; exact h)) (r.mono e1)
      have nt2 : ∀ a ps, (if a ∈ fp then H a else Hk a) ≠ some (.tbl ps) := fun a ps z => by
        by_cases ha : a ∈ fp
        · rw [if_pos ha] at z
          cases r with
          | lst h r => simp at ha; rw [ha, h] at z; cases z
          | dct h r => simp at ha; rw [ha, h] at z; cases z
          | dcT h r => simp at ha; rw [ha, h] at z; cases z
        · rw [if_neg ha] at z; exact h.tb.nt a ps z
      refine ⟨_, _, rfl, e1, r2, e2, h.tb.to e1 nt2 (fun _ _ q => q), fq, .cons (fp := []) (.sh r2) (t.mono e1 fun _ _ => rfl), nd.2.1, fun q hq => ?_⟩
      show (if q ∈ fp then H q else Hk q) = none
      rw [if_neg (fun z => nd.2.2 q z q hq rfl)]
      exact hk q (List.mem_append_right _ hq)
/-- an own list, changed -/
theorem HL.lst {x : Option V} {ds : List D} {b : Bool} (h : HL K Hk H ((x, .ow b (.lst ds)) :: L)) : ∃ p vs, x = some (.ref p) ∧ H p = some (.lst vs) ∧ Reps K Hk vs ds ∧
    ∀ vs' ds', Reps K Hk vs' ds' → HL K Hk (upd H p (.lst vs')) ((x, .ow b (.lst ds')) :: L) := by
  obtain ⟨F, hc, hn, hk⟩ := h.cells
  cases hc with
  | cons h1 t =>
    rename_i fp fq
    have nd := List.nodup_append.mp hn
    cases h1 with
    | ow r =>
      rename_i p
      cases r with
      | lst hp r =>
        have hkp : Hk p = none := hk p (by simp)
        have ne : ∀ q ∈ fq, q ≠ p := fun q hq z => nd.2.2 p (by simp) q hq z.symm
        refine ⟨p, _, rfl, hp, r, fun vs' ds' r' => ⟨fun a u q => by rw [upd_ne (ne_of_none q hkp)]; exact h.ex a u q, h.tb.upd (fun ps z => by rw [hp] at z; cases z), [p] ++ fq, .cons (.ow (.lst upd_same r')) (t.mono (.refl _) fun q hq => upd_ne (ne q hq)), hn, hk⟩⟩
theorem HL.dct {x : Option V} {ds : List (Key × D)} {b : Bool} (h : HL K Hk H ((x, .ow b (.dct ds)) :: L)) : ∃ p vs, x = some (.ref p) ∧ H p = some (.dK vs) ∧ RepK K Hk vs ds ∧
    ∀ vs' ds', RepK K Hk vs' ds' → HL K Hk (upd H p (.dK vs')) ((x, .ow b (.dct ds')) :: L) := by
  obtain ⟨F, hc, hn, hk⟩ := h.cells
  cases hc with
  | cons h1 t =>
    rename_i fp fq
    have nd := List.nodup_append.mp hn
    cases h1 with
    | ow r =>
      rename_i p
      cases r with
      | dct hp r =>
        have hkp : Hk p = none := hk p (by simp)
        have ne : ∀ q ∈ fq, q ≠ p := fun q hq z => nd.2.2 p (by simp) q hq z.symm
        refine ⟨p, _, rfl, hp, r, fun vs' ds' r' => ⟨fun a u q => by rw [upd_ne (ne_of_none q hkp)]; exact h.ex a u q, h.tb.upd (fun ps z => by rw [hp] at z; cases z), [p] ++ fq, .cons (.ow (.dct upd_same r')) (t.mono (.refl _) fun q hq => upd_ne (ne q hq)), hn, hk⟩⟩
end

/-! ### a frame's slots and the cells beside them -/
/-- lent slots stay -/
def Kp (σ : L2.St) (ρ : Rho) (σ' : L2.St) (ρ' : Rho) : Prop := ∀ (i : Nat) (o : Own) (v : Option V), ρ[i]? = some (.ow true o) → σ[i]? = some v → σ'[i]? = some v ∧ ∃ o', ρ'[i]? = some (.ow true o')
theorem Kp.refl (σ : L2.St) (ρ : Rho) : Kp σ ρ σ ρ := fun _ o _ h e => ⟨e, o, h⟩
theorem Kp.trans {σ σ1 σ2 : L2.St} {ρ ρ1 ρ2 : Rho} (a : Kp σ ρ σ1 ρ1) (b : Kp σ1 ρ1 σ2 ρ2) : Kp σ ρ σ2 ρ2 := fun i o v h e =>
  let ⟨e1, o1, h1⟩ := a i o v h e
  b i o1 v h1 e1
/-- what stands around a def's run: the cells beside it, what was known at its start, its start, what it may raise -/
structure Fr where
  T0 : List Cell
  Hk0 : Hp
  σ0 : L2.St
  ρ0 : Rho
  EX : Value → List (Str × D) → Rho → Prop
/-- nothing may be raised, nothing is asked of the start -/
def Fr.mute (F : Fr) : Fr := ⟨F.T0, fun _ => none, [], [], fun _ _ _ => False⟩
structure Holds (K : PySem.W.Frag) (F : Fr) (Hk : Hp) (ρ : Rho) (T : List Cell) (σ : L2.St) (H : Hp) : Prop where
  len : ρ.length = σ.length
  hl : HL K Hk H (σ.zip ρ ++ (T ++ F.T0))
  ex0 : Same F.Hk0 Hk
  kp0 : Kp F.σ0 F.ρ0 σ ρ
theorem zip_at : ∀ {σ : L2.St} {ρ : Rho} {i : Nat} {v : Option V} {s : Slot}, σ[i]? = some v → ρ[i]? = some s →
    ∃ R, (σ.zip ρ).Perm ((v, s) :: R) ∧ ∀ v' s', ((σ.set i v').zip (ρ.set i s')).Perm ((v', s') :: R)
  | [], _, _, _, _, e, _ => by simp at e
  | _ :: _, [], _, _, _, _, e => by simp at e
  | a :: σ, b :: ρ, 0, v, s, e1, e2 => by
    simp at e1 e2; subst e1; subst e2
    exact ⟨σ.zip ρ, .refl _, fun v' s' => .refl _⟩
  | a :: σ, b :: ρ, i + 1, v, s, e1, e2 => by
    obtain ⟨R, h1, h2⟩ := zip_at (σ := σ) (ρ := ρ) (i := i) (by simpa using e1) (by simpa using e2)
    exact ⟨(a, b) :: R, (h1.cons _).trans (.swap _ _ _), fun v' s' => ((h2 v' s').cons _).trans (.swap _ _ _)⟩
section
variable {K : PySem.W.Frag} {F : Fr} {Hk Hk' H H' : Hp} {ρ : Rho} {T : List Cell} {σ : L2.St} {i : Nat} {c : Cell} {s : Slot} {p : Addr}
theorem Holds.mute (h : Holds K F Hk ρ T σ H) : Holds K F.mute Hk ρ T σ H := ⟨h.len, h.hl, (fun _ _ z => by cases z), fun i o v z => absurd z (by simp [Fr.mute])⟩
/-- back from the muted run -/
theorem Holds.unmute {ρ1 : Rho} {σ1 : L2.St} {Hk1 H1 : Hp} {T1 : List Cell} (h0 : Holds K F Hk1 ρ1 T1 σ1 H1) (h : Holds K F.mute Hk ρ T σ H) (e : Same Hk1 Hk) (k : Kp σ1 ρ1 σ ρ) : Holds K F Hk ρ T σ H := ⟨h.len, h.hl, h0.ex0.trans e, h0.kp0.trans k⟩
theorem Holds.at (h : Holds K F Hk ρ T σ H) (e : ρ[i]? = some s) : ∃ v R, σ[i]? = some v ∧ HL K Hk H ((v, s) :: R) ∧ ∀ Hk' H' v' s', HL K Hk' H' ((v', s') :: R) → Same Hk Hk' → Kp σ ρ (σ.set i v') (ρ.set i s') → Holds K F Hk' (ρ.set i s') T (σ.set i v') H' := by
  have hi : i < σ.length := by rw [← h.len]; exact (List.getElem?_eq_some_iff.mp e).1
  obtain ⟨R, h1, h2⟩ := zip_at (List.getElem?_eq_getElem hi) e
  refine ⟨σ[i], R ++ (T ++ F.T0), List.getElem?_eq_getElem hi, h.hl.perm (h1.append_right _), fun Hk' H' v' s' q e k => ⟨by simp [h.len], q.perm ((h2 v' s').append_right _).symm, h.ex0.trans e, h.kp0.trans k⟩⟩
theorem set_self {α : Type} {l : List α} {i : Nat} {x : α} (e : l[i]? = some x) : l.set i x = l := by
  apply List.ext_getElem?
  intro j
  rw [List.getElem?_set]
  split
  · rename_i h; subst h
    split
    · exact e.symm
    · rename_i h; exact absurd (List.getElem?_eq_some_iff.mp e).1 h
  · rfl
/-- .. the value stays, the slot changes -/
theorem Holds.at' (h : Holds K F Hk ρ T σ H) (e : ρ[i]? = some s) : ∃ v R, σ[i]? = some v ∧ HL K Hk H ((v, s) :: R) ∧ ∀ Hk' H' s', HL K Hk' H' ((v, s') :: R) → Same Hk Hk' → Kp σ ρ σ (ρ.set i s') → Holds K F Hk' (ρ.set i s') T σ H' := by
  obtain ⟨v, R, e1, h1, h2⟩ := h.at e
  exact ⟨v, R, e1, h1, fun Hk' H' s' q e k => by
    have := h2 Hk' H' v s' q e (by rw [set_self e1]; exact k)
    rw [set_self e1] at this; exact this⟩
theorem Holds.get_sh {d : D} (h : Holds K F Hk ρ T σ H) (e : ρ[i]? = some (.sh d)) : ∃ v, σ[i]? = some (some v) ∧ Rep K Hk v d := by
  obtain ⟨v, R, e1, h1, _⟩ := h.at e
  obtain ⟨v', rfl, r⟩ := h1.get_sh
  exact ⟨v', e1, r⟩
theorem Holds.front (h : Holds K F Hk ρ T σ H) : HL K Hk H (T ++ (F.T0 ++ σ.zip ρ)) := h.hl.perm (List.perm_append_comm.trans (by rw [List.append_assoc]))
theorem Holds.back (l : ρ.length = σ.length) (h : HL K Hk H (T ++ (F.T0 ++ σ.zip ρ))) (e : Same F.Hk0 Hk) (k : Kp F.σ0 F.ρ0 σ ρ) : Holds K F Hk ρ T σ H := ⟨l, h.perm ((show (T ++ (F.T0 ++ σ.zip ρ)).Perm (σ.zip ρ ++ (T ++ F.T0)) from (by rw [← List.append_assoc] : (T ++ (F.T0 ++ σ.zip ρ)) = ((T ++ F.T0) ++ σ.zip ρ)) ▸ List.perm_append_comm)), e, k⟩
theorem Holds.pop (h : Holds K F Hk ρ (c :: T) σ H) : Holds K F Hk ρ T σ H := .back h.len h.front.tail h.ex0 h.kp0
theorem Holds.sh {v : V} {d : D} (h : Holds K F Hk ρ T σ H) (r : Rep K Hk v d) : Holds K F Hk ρ ((some v, .sh d) :: T) σ H := .back h.len (h.front.sh r) h.ex0 h.kp0
theorem Holds.top {x : Option V} {d : D} (h : Holds K F Hk ρ ((x, .sh d) :: T) σ H) : ∃ v, x = some v ∧ Rep K Hk v d := HL.get_sh h.front
theorem Holds.ex (h : Holds K F Hk ρ T σ H) : Same Hk H := h.hl.ex
theorem Holds.know_same {u : HO} (h : Holds K F Hk ρ T σ H) (hp : H p = none) : Same Hk (upd Hk p u) := h.hl.know_same hp
theorem Holds.know {u : HO} (h : Holds K F Hk ρ T σ H) (hp : H p = none) (hu : NoTbl u := by intro _ z; cases z) : Holds K F (upd Hk p u) ρ T σ (upd H p u) := ⟨h.len, h.hl.know hp hu, h.ex0.trans (h.know_same hp), h.kp0⟩
theorem Holds.own {u : HO} {o : Own} {b : Bool} (h : Holds K F Hk ρ T σ H) (hp : H p = none) (ho : OwnAt K Hk (upd H p u) o p [p]) : Holds K F Hk ρ ((some (.ref p), .ow b o) :: T) σ (upd H p u) := .back h.len (h.front.own hp ho) h.ex0 h.kp0
theorem Holds.perm {T' : List Cell} (h : Holds K F Hk ρ T σ H) (e : T.Perm T') : Holds K F Hk ρ T' σ H := ⟨h.len, h.hl.perm ((e.append_right _).append_left _), h.ex0, h.kp0⟩
theorem Holds.sub (h : Holds K F Hk ρ (c :: T) σ H) : Holds K F Hk ρ T σ H := h.pop
end
end WL

set_option Elab.async false
set_option linter.all false
set_option maxRecDepth 100000
set_option maxHeartbeats 4000000
/-! W1: judgements over values: an expression, a test, operands, statements; a def's promise; calls. -/
namespace WL
open PySem PySem.Spec PyProof.Rows L2
variable [TBs]

/-! ### the strongest readings -/
section
variable {X : Cx} {Φ : Fr} {e : Expr} {es : List Expr} {st : Stmt} {sts : List Stmt} {σ : L2.St} {H : Hp}
def tSem (X : Cx) (e : Expr) : TE := fun σ H Q => ∀ pins s, Inv X pins σ H s → wpAny (model X.prog X.w) X.A (eval e X.env) (EP X pins σ Q) X.xe s
theorem pe_sem : PE X e (tSem X e) := ⟨fun pins s _ _ _ I h => h pins s I⟩
theorem tSem_of {t : TE} {Q : VK} (h : PE X e t) (q : t σ H Q) : tSem X e σ H Q := fun pins s I => h.run pins s σ H Q I q
def tSemT (X : Cx) (e : Expr) : TT := fun σ H Q => ∀ pins s, Inv X pins σ H s → wpAny (model X.prog X.w) X.A (isTrue e X.env (eval e X.env)) (TP X pins σ Q) X.xe s
theorem pt_sem : PT X e (tSemT X e) := ⟨fun pins s _ _ _ I h => h pins s I⟩
theorem tSemT_of {t : TT} {Q : Bool → Hp → Prop} (h : PT X e t) (q : t σ H Q) : tSemT X e σ H Q := fun pins s I => h.run pins s σ H Q I q
def tSemW (X : Cx) (e : Expr) : TT := fun σ H Q => ∀ whole pins s, Inv X pins σ H s → wpAny (model X.prog X.w) X.A (isTrue e X.env whole) (TP X pins σ Q) X.xe s
theorem pw_sem : PW X e (tSemW X e) := ⟨fun wh pins s _ _ _ I h => h wh pins s I⟩
theorem tSemW_of {t : TT} {Q : Bool → Hp → Prop} (h : PW X e t) (q : t σ H Q) : tSemW X e σ H Q := fun wh pins s I => h.run wh pins s σ H Q I q
def tSemA (X : Cx) (es : List Expr) : TA := fun σ H Q => ∀ pos pins s, Inv X pins σ H s → wpAny (model X.prog X.w) X.A (spliced (backTo pos (starEach es X.env))) (AP X pins σ Q) X.xe s
theorem pa_sem : PA X es (tSemA X es) := ⟨fun pos pins s _ _ _ I h => h pos pins s I⟩
theorem tSemA_of {t : TA} {Q : List V → Hp → Prop} (h : PA X es t) (q : t σ H Q) : tSemA X es σ H Q := fun pos pins s I => h.run pos pins s σ H Q I q
def tSemS (X : Cx) (st : Stmt) : TS := fun D σ H => ∀ pins s, Inv X pins σ H s → wpAny (model X.prog X.w) X.A (exec st X.env) (SP X pins D) X.xe s
theorem ps_sem : PS X st (tSemS X st) := ⟨fun pins s _ _ _ I h => h pins s I⟩
theorem tSemS_of {t : TS} {D : Ends} (h : PS X st t) (q : t D σ H) : tSemS X st D σ H := fun pins s I => h.run pins s σ H D I q
def tSemSs (X : Cx) (sts : List Stmt) : TS := fun D σ H => ∀ pins s, Inv X pins σ H s → wpAny (model X.prog X.w) X.A (execs sts X.env) (SP X pins D) X.xe s
theorem pss_sem : PSs X sts (tSemSs X sts) := ⟨fun pins s _ _ _ I h => h pins s I⟩
theorem tSemSs_of {t : TS} {D : Ends} (h : PSs X sts t) (q : t D σ H) : tSemSs X sts D σ H := fun pins s I => h.run pins s σ H D I q
end

/-! ### readings of values -/
abbrev VK0 := Slot → Rho → Prop
abbrev VE := Rho → VK0 → Prop
abbrev VT := Rho → (Bool → Rho → Prop) → Prop
/-- an operand: its value, or a slot that is only looked into -/
inductive Arg where
  | val (s : Slot) | pk (i : Nat)
abbrev VO := Rho → (Arg → Rho → Prop) → Prop
abbrev VA := Rho → (List Arg → Rho → Prop) → Prop
structure Out where
  nx : Rho → Prop
  rt : Slot → Rho → Prop
  bk : Rho → Prop := fun _ => False
  ct : Rho → Prop := fun _ => False
abbrev VS := Out → Rho → Prop

def Post (K : PySem.W.Frag) (Φ : Fr) (Hk : Hp) (T : List Cell) (σ : L2.St) (ρ : Rho) (Q : VK0) (P : VK) : Prop :=
  ∀ v H' Hk' ρ' r, Same Hk Hk' → Holds K Φ Hk' ρ' ((some v, r) :: T) σ H' → Kp σ ρ σ ρ' → Q r ρ' → P v H'
def PostT (K : PySem.W.Frag) (Φ : Fr) (Hk : Hp) (T : List Cell) (σ : L2.St) (ρ : Rho) (Q : Bool → Rho → Prop) (P : Bool → Hp → Prop) : Prop :=
  ∀ b H' Hk' ρ', Same Hk Hk' → Holds K Φ Hk' ρ' T σ H' → Kp σ ρ σ ρ' → Q b ρ' → P b H'
inductive ArgAt (σ : L2.St) : Arg → V → List Cell → Prop
  | val {s v} : ArgAt σ (.val s) v [(some v, s)]
  | pk {i v} (h : σ[i]? = some (some v)) : ArgAt σ (.pk i) v []
inductive ArgsAt (σ : L2.St) : List Arg → List V → List Cell → Prop
  | nil : ArgsAt σ [] [] []
  | cons {a v ts as vs us} (h : ArgAt σ a v ts) (t : ArgsAt σ as vs us) : ArgsAt σ (a :: as) (v :: vs) (us ++ ts)
def PostO (K : PySem.W.Frag) (Φ : Fr) (Hk : Hp) (T : List Cell) (σ : L2.St) (ρ : Rho) (Q : Arg → Rho → Prop) (P : VK) : Prop :=
  ∀ v H' Hk' ρ' a ts, Same Hk Hk' → ArgAt σ a v ts → Holds K Φ Hk' ρ' (ts ++ T) σ H' → Kp σ ρ σ ρ' → Q a ρ' → P v H'
def PostA (K : PySem.W.Frag) (Φ : Fr) (Hk : Hp) (T : List Cell) (σ : L2.St) (ρ : Rho) (Q : List Arg → Rho → Prop) (P : List V → Hp → Prop) : Prop :=
  ∀ vs H' Hk' ρ' as ts, Same Hk Hk' → ArgsAt σ as vs ts → Holds K Φ Hk' ρ' (ts ++ T) σ H' → Kp σ ρ σ ρ' → Q as ρ' → P vs H'
structure OutOk (K : PySem.W.Frag) (Φ : Fr) (Hk : Hp) (T : List Cell) (σ : L2.St) (ρ : Rho) (R : Out) (D : Ends) : Prop where
  nx : ∀ σ' H' Hk' ρ', Same Hk Hk' → Holds K Φ Hk' ρ' T σ' H' → Kp σ ρ σ' ρ' → R.nx ρ' → D.nx σ' H'
  rt : ∀ v σ' H' Hk' ρ' r, Same Hk Hk' → Holds K Φ Hk' ρ' ((some v, r) :: T) σ' H' → Kp σ ρ σ' ρ' → R.rt r ρ' → D.rt v H'
  bk : ∀ σ' H' Hk' ρ', Same Hk Hk' → Holds K Φ Hk' ρ' T σ' H' → Kp σ ρ σ' ρ' → R.bk ρ' → D.bk σ' H'
  ct : ∀ σ' H' Hk' ρ', Same Hk Hk' → Holds K Φ Hk' ρ' T σ' H' → Kp σ ρ σ' ρ' → R.ct ρ' → D.ct σ' H'

structure PWE (X : Cx) (Φ : Fr) (e : Expr) (t : VE) : Prop where
  run : ∀ ρ Q Hk T σ H P, t ρ Q → Holds X.K Φ Hk ρ T σ H → Post X.K Φ Hk T σ ρ Q P → tSem X e σ H P
structure PWT (X : Cx) (Φ : Fr) (e : Expr) (t : VT) : Prop where
  run : ∀ ρ Q Hk T σ H P, t ρ Q → Holds X.K Φ Hk ρ T σ H → PostT X.K Φ Hk T σ ρ Q P → tSemT X e σ H P
/-- a chain of and | or as a test -/
structure PWW (X : Cx) (Φ : Fr) (e : Expr) (t : VT) : Prop where
  run : ∀ ρ Q Hk T σ H P, t ρ Q → Holds X.K Φ Hk ρ T σ H → PostT X.K Φ Hk T σ ρ Q P → tSemW X e σ H P
structure PWO (X : Cx) (Φ : Fr) (e : Expr) (t : VO) : Prop where
  run : ∀ ρ Q Hk T σ H P, t ρ Q → Holds X.K Φ Hk ρ T σ H → PostO X.K Φ Hk T σ ρ Q P → tSem X e σ H P
structure PWA (X : Cx) (Φ : Fr) (es : List Expr) (t : VA) : Prop where
  run : ∀ ρ Q Hk T σ H P, t ρ Q → Holds X.K Φ Hk ρ T σ H → PostA X.K Φ Hk T σ ρ Q P → tSemA X es σ H P
structure PWS (X : Cx) (Φ : Fr) (st : Stmt) (t : VS) : Prop where
  run : ∀ ρ R Hk T σ H D, t R ρ → Holds X.K Φ Hk ρ T σ H → OutOk X.K Φ Hk T σ ρ R D → tSemS X st D σ H
structure PWSs (X : Cx) (Φ : Fr) (st : List Stmt) (t : VS) : Prop where
  run : ∀ ρ R Hk T σ H D, t R ρ → Holds X.K Φ Hk ρ T σ H → OutOk X.K Φ Hk T σ ρ R D → tSemSs X st D σ H

section
variable {K : PySem.W.Frag} {Φ : Fr} {Hk Hk1 Hk' H H' : Hp} {ρ ρ1 : Rho} {T : List Cell} {σ σ1 : L2.St} {Q : VK0} {P : VK}
theorem Post.step (p : Post K Φ Hk T σ ρ Q P) (e : Same Hk Hk1) (k : Kp σ ρ σ ρ1) : Post K Φ Hk1 T σ ρ1 Q P := fun v H' Hk' ρ' r e' h k' q => p v H' Hk' ρ' r (e.trans e') h (k.trans k') q
theorem PostT.step {Q : Bool → Rho → Prop} {P : Bool → Hp → Prop} (p : PostT K Φ Hk T σ ρ Q P) (e : Same Hk Hk1) (k : Kp σ ρ σ ρ1) : PostT K Φ Hk1 T σ ρ1 Q P := fun b H' Hk' ρ' e' h k' q => p b H' Hk' ρ' (e.trans e') h (k.trans k') q
theorem PostO.step {Q : Arg → Rho → Prop} (p : PostO K Φ Hk T σ ρ Q P) (e : Same Hk Hk1) (k : Kp σ ρ σ ρ1) : PostO K Φ Hk1 T σ ρ1 Q P := fun v H' Hk' ρ' a ts e' ha h k' q => p v H' Hk' ρ' a ts (e.trans e') ha h (k.trans k') q
theorem PostA.step {Q : List Arg → Rho → Prop} {P : List V → Hp → Prop} (p : PostA K Φ Hk T σ ρ Q P) (e : Same Hk Hk1) (k : Kp σ ρ σ ρ1) : PostA K Φ Hk1 T σ ρ1 Q P := fun v H' Hk' ρ' a ts e' ha h k' q => p v H' Hk' ρ' a ts (e.trans e') ha h (k.trans k') q
theorem OutOk.step {R : Out} {D : Ends} (p : OutOk K Φ Hk T σ ρ R D) (e : Same Hk Hk1) (k : Kp σ ρ σ1 ρ1) : OutOk K Φ Hk1 T σ1 ρ1 R D where
  nx := fun σ' H' Hk' ρ' e' h k' q => p.nx σ' H' Hk' ρ' (e.trans e') h (k.trans k') q
  rt := fun v σ' H' Hk' ρ' r e' h k' q => p.rt v σ' H' Hk' ρ' r (e.trans e') h (k.trans k') q
  bk := fun σ' H' Hk' ρ' e' h k' q => p.bk σ' H' Hk' ρ' (e.trans e') h (k.trans k') q
  ct := fun σ' H' Hk' ρ' e' h k' q => p.ct σ' H' Hk' ρ' (e.trans e') h (k.trans k') q
end

section
variable {K : PySem.W.Frag} {Φ : Fr} {Hk H : Hp} {ρ : Rho} {T : List Cell} {σ : L2.St} {i : Nat} {s : Slot}
theorem kp_set {σ : L2.St} {ρ : Rho} {i : Nat} {s s' : Slot} (e : ρ[i]? = some s) (h : ∀ o, s = .ow true o → ∃ o', s' = .ow true o') : Kp σ ρ σ (ρ.set i s') := fun j o v ho ev => by
  refine ⟨ev, ?_⟩
  by_cases hj : j = i
  · subst hj
    rw [e] at ho
    obtain ⟨o', ho'⟩ := h o (Option.some.inj ho)
    have hl := (List.getElem?_eq_some_iff.mp e).1
    exact ⟨o', by rw [List.getElem?_set_self hl, ho']⟩
  · exact ⟨o, by rw [List.getElem?_set_ne (Ne.symm hj)]; exact ho⟩
/-- a slot's cell taken out -/
theorem Holds.atU (h : Holds K Φ Hk ρ T σ H) (e : ρ[i]? = some s) (hs : ∀ o, s ≠ .ow true o) : ∃ v, ∃ R : List Cell, σ[i]? = some v ∧ HL K Hk H ((v, s) :: R) ∧ Holds K Φ Hk (ρ.set i .un) ((v, s) :: T) σ H := by
  obtain ⟨v, ev⟩ : ∃ v, σ[i]? = some v := by
    have hi : i < σ.length := by rw [← h.len]; exact (List.getElem?_eq_some_iff.mp e).1
    exact ⟨σ[i], List.getElem?_eq_getElem hi⟩
  obtain ⟨R, h1, h2⟩ := zip_at ev e
  refine ⟨v, R ++ (T ++ Φ.T0), ev, h.hl.perm (h1.append_right _), by simp [h.len], ?_, h.ex0, h.kp0.trans (kp_set e fun o z => absurd z (hs o))⟩
  have h3 := h2 v .un
  rw [set_self ev] at h3
  have h4 : HL K Hk H ((v, .un) :: ((v, s) :: (R ++ (T ++ Φ.T0)))) := (h.hl.perm (h1.append_right _)).un
  refine h4.perm ?_
  refine .trans ?_ (h3.append_right ((v, s) :: (T ++ Φ.T0))).symm
  exact .cons _ (List.perm_middle (l₁ := R) (a := (v, s)) (l₂ := T ++ Φ.T0)).symm
end

/-! ### views -/
inductive View (K : PySem.W.Frag) (Hk H : Hp) : V → D → Prop
  | known {v d} (r : Rep K Hk v d) : View K Hk H v d
  | own {o p fp} (r : OwnAt K Hk H o p fp) : View K Hk H (.ref p) o.d
abbrev Views (K : PySem.W.Frag) (Hk H : Hp) : List V → List D → Prop := Paired (View K Hk H)
section
variable {K : PySem.W.Frag} {Φ : Fr} {Hk H : Hp} {v : V}
theorem View.int {i : Int} (h : View K Hk H v (.int i)) : v = .int i := by
  generalize e : D.int i = d at h
  cases h with
  | known r => subst e; cases r; rfl
  | own r => cases r <;> cases e
theorem View.str {x : Str} (h : View K Hk H v (.str x)) : v = .str x := by
  generalize e : D.str x = d at h
  cases h with
  | known r => subst e; cases r; rfl
  | own r => cases r <;> cases e
theorem View.bl {x : Bool} (h : View K Hk H v (.bl x)) : v = .bl x := by
  generalize e : D.bl x = d at h
  cases h with
  | known r => subst e; cases r; rfl
  | own r => cases r <;> cases e
theorem View.non (h : View K Hk H v .non) : v = .non := by
  generalize e : D.non = d at h
  cases h with
  | known r => subst e; cases r; rfl
  | own r => cases r <;> cases e
theorem View.lst {ds : List D} (ex : Same Hk H) (h : View K Hk H v (.lst ds)) : ∃ a vs, v = .ref a ∧ H a = some (.lst vs) ∧ Reps K Hk vs ds := by
  generalize e : D.lst ds = d at h
  cases h with
  | known r => subst e; cases r with | lst h r => exact ⟨_, _, rfl, ex _ _ h, r⟩
  | own r => cases r <;> first | (cases e; rename_i h r; exact ⟨_, _, rfl, h, r⟩) | cases e
theorem View.tup {ds : List D} (ex : Same Hk H) (h : View K Hk H v (.tup ds)) : ∃ a vs, v = .ref a ∧ H a = some (.tup vs) ∧ Reps K Hk vs ds := by
  generalize e : D.tup ds = d at h
  cases h with
  | known r => subst e; cases r with | tup h r => exact ⟨_, _, rfl, ex _ _ h, r⟩
  | own r => cases r <;> cases e
theorem View.fls {ds : List D} (ex : Same Hk H) (h : View K Hk H v (.fls ds)) : ∃ a vs, v = .ref a ∧ SqL K H a vs ∧ Reps K Hk vs ds := by
  generalize e : D.fls ds = d at h
  cases h with
  | known r => subst e; cases r with | fls h r => exact ⟨_, _, rfl, ex.seq h, r⟩
  | own r => cases r <;> cases e
theorem View.ftp {ds : List D} (ex : Same Hk H) (h : View K Hk H v (.ftp ds)) : ∃ a vs, v = .ref a ∧ SqT K H a vs ∧ Reps K Hk vs ds := by
  generalize e : D.ftp ds = d at h
  cases h with
  | known r => subst e; cases r with | ftp h r => exact ⟨_, _, rfl, Same.sqT ex h, r⟩
  | own r => cases r <;> cases e
/-- anything that is read as a list -/
theorem View.seqL {d : D} {ds : List D} (ex : Same Hk H) (h : View K Hk H v d) (e : d = .lst ds ∨ d = .fls ds) : ∃ a vs, v = .ref a ∧ SqL K H a vs ∧ Reps K Hk vs ds := by
  rcases e with rfl | rfl
  · obtain ⟨a, vs, e, h, r⟩ := h.lst ex; exact ⟨a, vs, e, .of h, r⟩
  · exact h.fls ex
theorem View.seqT {d : D} {ds : List D} (ex : Same Hk H) (h : View K Hk H v d) (e : d = .tup ds ∨ d = .ftp ds) : ∃ a vs, v = .ref a ∧ SqT K H a vs ∧ Reps K Hk vs ds := by
  rcases e with rfl | rfl
  · obtain ⟨a, vs, e, h, r⟩ := h.tup ex; exact ⟨a, vs, e, .of h, r⟩
  · exact h.ftp ex
theorem View.dct {ds : List (Key × D)} (ex : Same Hk H) (h : View K Hk H v (.dct ds)) : ∃ a vs, v = .ref a ∧ Rd H a (.dK vs) ∧ RepK K Hk vs ds := by
  generalize e : D.dct ds = d at h
  cases h with
  | known r => subst e; cases r with | dct h r => exact ⟨_, _, rfl, Same.rd ex h, r⟩
  | own r => cases r <;> first | (cases e; rename_i h r; exact ⟨_, _, rfl, .of h, r⟩) | cases e
theorem View.dcT {ds : List (List Key × D)} (ex : Same Hk H) (h : View K Hk H v (.dcT ds)) : ∃ a vs, v = .ref a ∧ Rd H a (.dT vs) ∧ RepT K Hk vs ds := by
  generalize e : D.dcT ds = d at h
  cases h with
  | known r => subst e; cases r with | dcT h r => exact ⟨_, _, rfl, Same.rd ex h, r⟩
  | own r => cases r <;> first | (cases e; rename_i h r; exact ⟨_, _, rfl, .of h, r⟩) | cases e
end

def slotD : Slot → Option D
  | .un => none
  | .sh d => some d
  | .ow _ o => some o.d
  | .rw _ _ => none
  | .ks _ => none
def argD (ρ : Rho) : Arg → Option D
  | .val s => slotD s
  | .pk i => match ρ[i]? with
    | some s => slotD s
    | none => none
def argDs (ρ : Rho) : List Arg → Option (List D)
  | [] => some []
  | a :: as => match argD ρ a, argDs ρ as with
    | some d, some ds => some (d :: ds)
    | _, _ => none
section
variable {K : PySem.W.Frag} {Φ : Fr} {Hk H : Hp} {ρ : Rho} {T ts : List Cell} {σ : L2.St} {v : V} {d : D}
theorem HL.view {s : Slot} {L : List Cell} (h : HL K Hk H ((some v, s) :: L)) (e : slotD s = some d) : View K Hk H v d := by
  obtain ⟨F, hc, _, _⟩ := h.cells
  cases hc with
  | cons h1 t =>
    have h1' : CellOk K Hk H (some v) s _ := h1
    cases s with
    | un => cases e
    | rw k rows => cases e
    | ks kq => cases e
    | sh d' => cases e; cases h1' with | sh r => exact .known r
    | ow b o => cases e; cases h1' with | ow r => exact .own r
theorem Holds.slot_view {i : Nat} {s : Slot} (h : Holds K Φ Hk ρ T σ H) (e : ρ[i]? = some s) (hv : σ[i]? = some (some v)) (hd : slotD s = some d) : View K Hk H v d := by
  obtain ⟨v', R, e1, h1, _⟩ := h.at e
  rw [hv] at e1; cases e1
  exact h1.view hd
theorem Holds.some_at {i : Nat} {s : Slot} (h : Holds K Φ Hk ρ T σ H) (e : ρ[i]? = some s) (hd : slotD s = some d) : ∃ v, σ[i]? = some (some v) := by
  obtain ⟨v', R, e1, h1, _⟩ := h.at e
  obtain ⟨F, hc, _, _⟩ := h1.cells
  cases hc with
  | cons h1 t =>
    have h1' : CellOk K Hk H v' s _ := h1
    cases h1' with
    | rw => cases hd
    | ks => cases hd
    | un => cases hd
    | sh r => exact ⟨_, e1⟩
    | ow r => exact ⟨_, e1⟩
theorem ArgAt.view {a : Arg} (h : Holds K Φ Hk ρ (ts ++ T) σ H) (ha : ArgAt σ a v ts) (e : argD ρ a = some d) : View K Hk H v d := by
  cases ha with
  | val => exact HL.view h.front e
  | pk hv =>
    rename_i i
    have e' : (match ρ[i]? with | some s => slotD s | none => none) = some d := e
    cases hs : ρ[i]? with
    | none => rw [hs] at e'; cases e'
    | some s => rw [hs] at e'; exact h.slot_view hs hv e'
theorem Holds.drop : ∀ {ts : List Cell}, Holds K Φ Hk ρ (ts ++ T) σ H → Holds K Φ Hk ρ T σ H
  | [], h => h
  | _ :: ts, h => Holds.drop (ts := ts) h.pop
theorem ArgsAt.views {as : List Arg} {vs : List V} {ts : List Cell} (h : ArgsAt σ as vs ts) : ∀ {T : List Cell} {ds : List D}, Holds K Φ Hk ρ (ts ++ T) σ H → argDs ρ as = some ds → Views K Hk H vs ds := by
  induction h with
  | nil => intro T ds h e; cases e; exact .nil
  | cons ha t ih =>
    rename_i a v ts as vs us
    intro T ds h e
    have e' : (match argD ρ a, argDs ρ as with | some d, some ds => some (d :: ds) | _, _ => none) = some ds := e
    cases h1 : argD ρ a with
    | none => rw [h1] at e'; cases e'
    | some d =>
      cases h2 : argDs ρ as with
      | none => rw [h1, h2] at e'; cases e'
      | some es =>
        rw [h1, h2] at e'
        cases e'
        rw [List.append_assoc] at h
        exact .cons (ha.view h.drop h1) (ih h h2)
end

/-! ### what a primitive gives -/
inductive Ret where
  | val (d : D) | newL (ds : List D) | newT (ds : List D) | newD (kvs : List (Key × D)) | newE (kvs : List (List Key × D))
def Ret.slot : Ret → Slot
  | .val d => .sh d
  | .newL ds => .ow false (.lst ds)
  | .newT ds => .sh (.tup ds)
  | .newD kvs => .ow false (.dct kvs)
  | .newE kvs => .ow false (.dcT kvs)
abbrev Prim := List D → (Ret → Prop) → Prop
def RetK (K : PySem.W.Frag) (Hk H : Hp) (P : VK) : Ret → Prop
  | .val d => ∀ v, Rep K Hk v d → P v H
  | .newL ds => ∀ p vs, H p = none → Reps K Hk vs ds → P (.ref p) (upd H p (.lst vs))
  | .newT ds => ∀ p vs, H p = none → Reps K Hk vs ds → P (.ref p) (upd H p (.tup vs))
  | .newD kvs => ∀ p vs, H p = none → RepK K Hk vs kvs → P (.ref p) (upd H p (.dK vs))
  | .newE kvs => ∀ p vs, H p = none → RepT K Hk vs kvs → P (.ref p) (upd H p (.dT vs))
def PrimOk (X : Cx) (r : List V → Hp → VK → Prop) (op : Prim) : Prop :=
  ∀ Hk H vs ds P R, Same Hk H → Views X.K Hk H vs ds → op ds R → (∀ ret, R ret → RetK X.K Hk H P ret) → r vs H P
theorem ret_post {K : PySem.W.Frag} {Φ : Fr} {Hk H : Hp} {ρ : Rho} {T : List Cell} {σ : L2.St} {Q : VK0} {P : VK} {ret : Ret} (h : Holds K Φ Hk ρ T σ H) (p : Post K Φ Hk T σ ρ Q P) (q : Q ret.slot ρ) : RetK K Hk H P ret := by
  cases ret with
  | val d => exact fun v r => p v H Hk ρ _ (.refl _) (h.sh r) (.refl _ _) q
  | newL ds => exact fun a vs ha r => p _ _ Hk ρ _ (.refl _) (h.own ha (.lst upd_same r)) (.refl _ _) q
  | newT ds => exact fun a vs ha r => p _ _ _ ρ _ (h.know_same ha) ((h.know ha).sh (.tup upd_same (r.mono (h.know_same ha)))) (.refl _ _) q
  | newD ds => exact fun a vs ha r => p _ _ Hk ρ _ (.refl _) (h.own ha (.dct upd_same r)) (.refl _ _) q
  | newE ds => exact fun a vs ha r => p _ _ Hk ρ _ (.refl _) (h.own ha (.dcT upd_same r)) (.refl _ _) q

/-! ### expressions -/
section
variable {X : Cx} {Φ : Fr} {e a b : Expr} {es : List Expr} {pos p : Pos} {te ta tb : VE} {to tu : VO} {tas : VA}
/-- a name's value: shared from now on -/
def vVar (i : Nat) : VE := fun ρ Q => (∃ d, ρ[i]? = some (.sh d) ∧ Q (.sh d) ρ) ∨ ∃ o, ρ[i]? = some (.ow false o) ∧ Q (.sh o.d) (ρ.set i (.sh o.d))
theorem pwe_var (i : Nat) {x : Str} (hp : PE X (.Name x pos) (tVar i)) : PWE X Φ (.Name x pos) (vVar i) := ⟨fun ρ Q Hk T σ H P h hh p => tSem_of hp (by
  rcases h with ⟨d, e, q⟩ | ⟨o, e, q⟩
  · obtain ⟨v, ev, r⟩ := hh.get_sh e
    exact ⟨v, ev, p v H Hk ρ _ (.refl _) (hh.sh r) (.refl _ _) q⟩
  · obtain ⟨v, R, ev, h1, back⟩ := hh.at' e
    obtain ⟨Hk', v', rfl, e1, r, h2⟩ := h1.share
    exact ⟨v', ev, p v' H Hk' _ _ e1 ((back Hk' H _ h2 e1 (kp_set e fun _ z => by cases z)).sh r) (kp_set e fun _ z => by cases z) q⟩)⟩
def vC (d : D) : VE := fun ρ Q => Q (.sh d) ρ
theorem pwe_c {v : V} {d : D} (hp : PE X e (tC v)) (r : ∀ K H, Rep K H v d) : PWE X Φ e (vC d) := ⟨fun ρ Q Hk T σ H P h hh p => tSem_of hp (p v H Hk ρ _ (.refl _) (hh.sh (r _ _)) (.refl _ _) h)⟩
theorem pwe_int {i : Int} {j} : PWE X Φ (.Constant (.int i) j pos) (vC (.int i)) := pwe_c pe_int fun _ _ => .int
theorem pwe_bl {i : Bool} {j} : PWE X Φ (.Constant (.bool i) j pos) (vC (.bl i)) := pwe_c pe_bl fun _ _ => .bl
theorem pwe_non {j} : PWE X Φ (.Constant .none j pos) (vC .non) := pwe_c pe_non fun _ _ => .non
theorem pwe_str {x : Str} {j} : PWE X Φ (.Constant (.str x) j pos) (vC (.str x)) := pwe_c pe_str fun _ _ => .str
/-- a module's int or text -/
theorem pwe_globI {x : Str} {i : Int} {t : Tok} (hg : Gl X x) (hm : X.mg x = some (.int i t)) (hd : (x == ("__debug__" : Str)) = false := by decide) : PWE X Φ (.Name x pos) (vC (.int i)) := pwe_c (pe_glob (v := .int i) hg hm ⟨_, rfl⟩ hd) fun _ _ => .int
theorem pwe_globS {x : Str} {i : Str} {t : Tok} (hg : Gl X x) (hm : X.mg x = some (.str i t)) (hd : (x == ("__debug__" : Str)) = false := by decide) : PWE X Φ (.Name x pos) (vC (.str i)) := pwe_c (pe_glob (v := .str i) hg hm ⟨_, rfl⟩ hd) fun _ _ => .str

/-- operands -/
def vPk (i : Nat) : VO := fun ρ Q => ∃ s d, ρ[i]? = some s ∧ slotD s = some d ∧ Q (.pk i) ρ
theorem pwo_var (i : Nat) {x : Str} (hp : PE X (.Name x pos) (tVar i)) : PWO X Φ (.Name x pos) (vPk i) := ⟨fun ρ Q Hk T σ H P h hh p => tSem_of hp (by
  obtain ⟨s, d, e, ed, q⟩ := h
  obtain ⟨v, ev⟩ := hh.some_at e ed
  exact ⟨v, ev, p v H Hk ρ _ [] (.refl _) (.pk ev) hh (.refl _ _) q⟩)⟩
def vVal (te : VE) : VO := fun ρ Q => te ρ fun s ρ' => Q (.val s) ρ'
theorem pwo_val (h : PWE X Φ e te) : PWO X Φ e (vVal te) := ⟨fun ρ Q Hk T σ H P q hh p => h.run ρ _ Hk T σ H P q hh fun v H' Hk' ρ' r e h' k q' => p v H' Hk' ρ' _ [(some v, r)] e .val h' k q'⟩
def vNil : VA := fun ρ Q => Q [] ρ
def vCons (to : VO) (ta : VA) : VA := fun ρ Q => to ρ fun a ρ1 => ta ρ1 fun as ρ2 => Q (a :: as) ρ2
theorem pwa_nil : PWA X Φ [] vNil := ⟨fun ρ Q Hk T σ H P q hh p => tSemA_of pa_nil (p [] H Hk ρ [] [] (.refl _) .nil hh (.refl _ _) q)⟩
theorem pwa_cons (h : PWO X Φ e to) (hr : PWA X Φ es tas) (hs : starEach (e :: es) X.env = (false, eval e X.env) :: starEach es X.env := by rfl) : PWA X Φ (e :: es) (vCons to tas) := ⟨fun ρ Q Hk T σ H P q hh p =>
  tSemA_of (pa_cons pe_sem pa_sem hs) (h.run ρ _ Hk T σ H _ q hh fun v H1 Hk1 ρ1 a ts e1 ha h1 k1 q1 => hr.run ρ1 _ Hk1 (ts ++ T) σ H1 _ q1 h1 fun vs H2 Hk2 ρ2 as us e2 has h2 k2 q2 =>
    p (v :: vs) H2 Hk2 ρ2 (a :: as) (us ++ ts) (e1.trans e2) (.cons ha has) (by rw [List.append_assoc]; exact h2) (k1.trans k2) q2)⟩

/-- a reading over heaps does what a reading over values says -/
structure RunE (K : PySem.W.Frag) (Φ : Fr) (t : TE) (te : VE) : Prop where
  run : ∀ ρ Q Hk T σ H P, te ρ Q → Holds K Φ Hk ρ T σ H → Post K Φ Hk T σ ρ Q P → t σ H P
theorem pwe_of {t : TE} (hp : PE X e t) (h : RunE X.K Φ t te) : PWE X Φ e te := ⟨fun ρ Q Hk T σ H P q hh p => tSem_of hp (h.run ρ Q Hk T σ H P q hh p)⟩
theorem PWE.sem (h : PWE X Φ e te) : RunE X.K Φ (tSem X e) te := ⟨h.run⟩
/-- a value that is a truth, as a test -/
def vT (te : VE) : VT := fun ρ Q => te ρ fun s ρ' => ∃ k, s = .sh (.bl k) ∧ Q k ρ'
theorem pwt_of {t : TE} (hp : PT X e (fun σ H Q => t σ H fun x H1 => ∃ c, x = .bl c ∧ Q c H1)) (h : RunE X.K Φ t te) : PWT X Φ e (vT te) := ⟨fun ρ Q Hk T σ H P q hh p => tSemT_of hp
  (h.run ρ _ Hk T σ H _ q hh fun v H' Hk' ρ' r e' h' k' ⟨k, hr, q'⟩ => by
    subst hr
    obtain ⟨v', ev, rv⟩ := h'.top
    cases ev; cases rv
    exact ⟨k, rfl, p k H' Hk' ρ' e' h'.pop k' q'⟩)⟩
/-- a primitive of operands -/
def vPrim (op : Prim) (ta : VA) : VE := fun ρ Q => ta ρ fun as ρ1 => ∃ ds, argDs ρ1 as = some ds ∧ op ds fun ret => Q ret.slot ρ1
theorem run_prim {r : List V → Hp → VK → Prop} {op : Prim} (ho : PrimOk X r op) (ha : PWA X Φ es tas) : RunE X.K Φ (tCB r (tSemA X es)) (vPrim op tas) := ⟨fun ρ Q Hk T σ H P q hh p =>
  ha.run ρ _ Hk T σ H _ q hh fun vs H1 Hk1 ρ1 as ts e1 has h1 k1 ⟨ds, hd, q1⟩ => ho Hk1 H1 vs ds P _ h1.ex (has.views h1 hd) q1 fun ret hr => ret_post h1.drop (p.step e1 k1) hr⟩
/-- two operands -/
def vBin (op : Prim) (ta tb : VO) : VE := fun ρ Q => ta ρ fun a ρ1 => tb ρ1 fun b ρ2 => ∃ da db, argD ρ2 a = some da ∧ argD ρ2 b = some db ∧ op [da, db] fun ret => Q ret.slot ρ2
def PrimOk2 (X : Cx) (r : R2) (op : Prim) : Prop :=
  ∀ Hk H x y dx dy P R, Same Hk H → View X.K Hk H x dx → View X.K Hk H y dy → op [dx, dy] R → (∀ ret, R ret → RetK X.K Hk H P ret) → r x y H P
theorem run_bin {r : R2} {op : Prim} (ho : PrimOk2 X r op) (ha : PWO X Φ a to) (hb : PWO X Φ b tu) : RunE X.K Φ (tOp r (tSem X a) (tSem X b)) (vBin op to tu) := ⟨fun ρ Q Hk T σ H P q hh p =>
  ha.run ρ _ Hk T σ H _ q hh fun v H1 Hk1 ρ1 a ts e1 h1 hh1 k1 q1 => hb.run ρ1 _ Hk1 (ts ++ T) σ H1 _ q1 hh1 fun u H2 Hk2 ρ2 b us e2 h2 hh2 k2 ⟨da, db, hda, hdb, q2⟩ => by
    have av : View X.K Hk2 H2 v da := ArgAt.view (ts := ts) (T := T) hh2.drop h1 hda
    have bv : View X.K Hk2 H2 u db := ArgAt.view (ts := us) (T := ts ++ T) hh2 h2 hdb
    exact ho Hk2 H2 v u da db P _ hh2.ex av bv q2 fun ret hr => ret_post hh2.drop.drop (p.step (e1.trans e2) (k1.trans k2)) hr⟩
/-- one operand -/
def vUn (op : Prim) (ta : VO) : VE := fun ρ Q => ta ρ fun a ρ1 => ∃ da, argD ρ1 a = some da ∧ op [da] fun ret => Q ret.slot ρ1
def PrimOk1 (X : Cx) (r : V → Hp → VK → Prop) (op : Prim) : Prop := ∀ Hk H x dx P R, Same Hk H → View X.K Hk H x dx → op [dx] R → (∀ ret, R ret → RetK X.K Hk H P ret) → r x H P
theorem run_un {r : V → Hp → VK → Prop} {op : Prim} (ho : PrimOk1 X r op) (ha : PWO X Φ a to) : RunE X.K Φ (tUn r (tSem X a)) (vUn op to) := ⟨fun ρ Q Hk T σ H P q hh p =>
  ha.run ρ _ Hk T σ H _ q hh fun v H1 Hk1 ρ1 a ts e1 h1 hh1 k1 ⟨da, hda, q1⟩ => ho Hk1 H1 v da P _ hh1.ex (ArgAt.view hh1 h1 hda) q1 fun ret hr => ret_post hh1.drop (p.step e1 k1) hr⟩
/-- a slot handed on: what is owned moves -/
def vMv (i : Nat) : VE := fun ρ Q => (∃ d, ρ[i]? = some (.sh d) ∧ Q (.sh d) ρ) ∨ ∃ o, ρ[i]? = some (.ow false o) ∧ Q (.ow false o) (ρ.set i .un)
theorem pwe_mv (i : Nat) {x : Str} (hp : PE X (.Name x pos) (tVar i)) : PWE X Φ (.Name x pos) (vMv i) := ⟨fun ρ Q Hk T σ H P h hh p => tSem_of hp (by
  rcases h with ⟨d, e, q⟩ | ⟨o, e, q⟩
  · obtain ⟨v, ev, r⟩ := hh.get_sh e
    exact ⟨v, ev, p v H Hk ρ _ (.refl _) (hh.sh r) (.refl _ _) q⟩
  · obtain ⟨v', ev'⟩ := hh.some_at e (d := o.d) rfl
    obtain ⟨v, R, ev, h1, back⟩ := hh.atU e (fun _ z => by cases z)
    rw [ev] at ev'; cases ev'
    exact ⟨v', ev, p v' H Hk _ _ (.refl _) back (kp_set e fun _ z => by cases z) q⟩)⟩
/-- and, or, not of truths as values; a if t else b -/
def vAndV (ta tb : VE) : VE := fun ρ Q => ta ρ fun s ρ1 => ∃ k, s = .sh (.bl k) ∧ (k = true → tb ρ1 Q) ∧ (k = false → Q (.sh (.bl false)) ρ1)
def vOrV (ta tb : VE) : VE := fun ρ Q => ta ρ fun s ρ1 => ∃ k, s = .sh (.bl k) ∧ (k = true → Q (.sh (.bl true)) ρ1) ∧ (k = false → tb ρ1 Q)
def vNotV (ta : VE) : VE := fun ρ Q => ta ρ fun s ρ1 => ∃ k, s = .sh (.bl k) ∧ Q (.sh (.bl (!k))) ρ1
theorem top_bl {K : PySem.W.Frag} {Φ : Fr} {Hk H : Hp} {ρ : Rho} {T : List Cell} {σ : L2.St} {v : V} {k : Bool} (h : Holds K Φ Hk ρ ((some v, .sh (.bl k)) :: T) σ H) : v = .bl k := by
  obtain ⟨v', ev, rv⟩ := h.top
  cases ev; cases rv; rfl
theorem run_and {t : TE} (ha : PWE X Φ a ta) (hb : RunE X.K Φ t tb) : RunE X.K Φ (tAndV (tSem X a) t) (vAndV ta tb) := ⟨fun ρ Q Hk T σ H P q hh p =>
  ha.run ρ _ Hk T σ H _ q hh fun v H1 Hk1 ρ1 r e1 h1 k1 ⟨k, hr, q1, q2⟩ => by
    subst hr
    refine ⟨k, top_bl h1, ?_⟩
    cases k with
    | true => rw [if_pos rfl]; exact hb.run ρ1 _ Hk1 T σ H1 _ (q1 rfl) h1.pop (p.step e1 k1)
    | false => rw [if_neg Bool.false_ne_true]; exact p _ H1 Hk1 ρ1 _ e1 (h1.pop.sh .bl) k1 (q2 rfl)⟩
theorem run_or {t : TE} (ha : PWE X Φ a ta) (hb : RunE X.K Φ t tb) : RunE X.K Φ (tOrV (tSem X a) t) (vOrV ta tb) := ⟨fun ρ Q Hk T σ H P q hh p =>
  ha.run ρ _ Hk T σ H _ q hh fun v H1 Hk1 ρ1 r e1 h1 k1 ⟨k, hr, q1, q2⟩ => by
    subst hr
    refine ⟨k, top_bl h1, ?_⟩
    cases k with
    | true => rw [if_pos rfl]; exact p _ H1 Hk1 ρ1 _ e1 (h1.pop.sh .bl) k1 (q1 rfl)
    | false => rw [if_neg Bool.false_ne_true]; exact hb.run ρ1 _ Hk1 T σ H1 _ (q2 rfl) h1.pop (p.step e1 k1)⟩
theorem pwe_not (ha : PWE X Φ a ta) : PWE X Φ (.UnaryOp .Not a pos) (vNotV ta) := ⟨fun ρ Q Hk T σ H P q hh p => tSem_of (L2.pe_not pe_sem)
  (ha.run ρ _ Hk T σ H _ q hh fun v H1 Hk1 ρ1 r e1 h1 k1 ⟨k, hr, q1⟩ => by
    subst hr
    exact ⟨k, top_bl h1, p _ H1 Hk1 ρ1 _ e1 (h1.pop.sh .bl) k1 q1⟩)⟩
variable {rest : List Expr}
theorem pwe_and (ha : PWE X Φ a ta) (hb : PWE X Φ (.BoolOp .And (b :: rest) pos) tb) : PWE X Φ (.BoolOp .And (a :: b :: rest) pos) (vAndV ta tb) := pwe_of (pe_and pe_sem pe_sem) (run_and ha hb.sem)
theorem pwe_or (ha : PWE X Φ a ta) (hb : PWE X Φ (.BoolOp .Or (b :: rest) pos) tb) : PWE X Φ (.BoolOp .Or (a :: b :: rest) pos) (vOrV ta tb) := pwe_of (pe_or pe_sem pe_sem) (run_or ha hb.sem)
theorem pwe_one {op} (h : PWE X Φ a ta) : PWE X Φ (.BoolOp op [a] pos) ta := pwe_of (pe_one pe_sem) h.sem
def vIfE (t : VT) (ta tb : VE) : VE := fun ρ Q => t ρ fun k ρ1 => (k = true → ta ρ1 Q) ∧ (k = false → tb ρ1 Q)
theorem pwe_if {c : Expr} {t : VT} (hc : PWT X Φ c t) (ha : PWE X Φ a ta) (hb : PWE X Φ b tb) : PWE X Φ (.IfExp c a b pos) (vIfE t ta tb) := ⟨fun ρ Q Hk T σ H P q hh p => tSem_of (pe_ifExp pt_sem pe_sem pe_sem)
  (hc.run ρ _ Hk T σ H _ q hh fun k H1 Hk1 ρ1 e1 h1 k1 q1 => by
    cases k with
    | true => exact ha.run ρ1 _ Hk1 T σ H1 _ (q1.1 rfl) h1 (p.step e1 k1)
    | false => exact hb.run ρ1 _ Hk1 T σ H1 _ (q1.2 rfl) h1 (p.step e1 k1))⟩
/-- tests -/
def vAnd (t u : VT) : VT := fun ρ Q => t ρ fun k ρ1 => (k = true → u ρ1 Q) ∧ (k = false → Q false ρ1)
def vOr (t u : VT) : VT := fun ρ Q => t ρ fun k ρ1 => (k = true → Q true ρ1) ∧ (k = false → u ρ1 Q)
def vNot (t : VT) : VT := fun ρ Q => t ρ fun k ρ1 => Q (!k) ρ1
variable {t u : VT}
theorem PWW.pt (h : PWW X Φ e t) : PWT X Φ e t := ⟨fun ρ Q Hk T σ H P q hh p pins s I => h.run ρ Q Hk T σ H P q hh p _ pins s I⟩
theorem pww_and1 (h : PWT X Φ a t) : PWW X Φ (.BoolOp .And [a] pos) t := ⟨fun ρ Q Hk T σ H P q hh p => tSemW_of (pw_and1 pt_sem) (h.run ρ Q Hk T σ H P q hh p)⟩
theorem pww_or1 (h : PWT X Φ a t) : PWW X Φ (.BoolOp .Or [a] pos) t := ⟨fun ρ Q Hk T σ H P q hh p => tSemW_of (pw_or1 pt_sem) (h.run ρ Q Hk T σ H P q hh p)⟩
theorem pww_and (ha : PWT X Φ a t) (hb : PWW X Φ (.BoolOp .And (b :: rest) pos) u) : PWW X Φ (.BoolOp .And (a :: b :: rest) pos) (vAnd t u) := ⟨fun ρ Q Hk T σ H P q hh p => tSemW_of (pw_and pt_sem pw_sem)
  (ha.run ρ _ Hk T σ H _ q hh fun k H1 Hk1 ρ1 e1 h1 k1 q1 => by
    cases k with
    | true => rw [if_pos rfl]; exact hb.run ρ1 _ Hk1 T σ H1 _ (q1.1 rfl) h1 (p.step e1 k1)
    | false => rw [if_neg Bool.false_ne_true]; exact p _ H1 Hk1 ρ1 e1 h1 k1 (q1.2 rfl))⟩
theorem pww_or (ha : PWT X Φ a t) (hb : PWW X Φ (.BoolOp .Or (b :: rest) pos) u) : PWW X Φ (.BoolOp .Or (a :: b :: rest) pos) (vOr t u) := ⟨fun ρ Q Hk T σ H P q hh p => tSemW_of (pw_or pt_sem pw_sem)
  (ha.run ρ _ Hk T σ H _ q hh fun k H1 Hk1 ρ1 e1 h1 k1 q1 => by
    cases k with
    | true => rw [if_pos rfl]; exact p _ H1 Hk1 ρ1 e1 h1 k1 (q1.1 rfl)
    | false => rw [if_neg Bool.false_ne_true]; exact hb.run ρ1 _ Hk1 T σ H1 _ (q1.2 rfl) h1 (p.step e1 k1))⟩
theorem pwt_not (ha : PWT X Φ a t) : PWT X Φ (.UnaryOp .Not a pos) (vNot t) := ⟨fun ρ Q Hk T σ H P q hh p => tSemT_of (pt_not pt_sem)
  (ha.run ρ _ Hk T σ H _ q hh fun k H1 Hk1 ρ1 e1 h1 k1 q1 => p _ H1 Hk1 ρ1 e1 h1 k1 q1)⟩
end
end WL

set_option Elab.async false
set_option linter.all false
set_option maxRecDepth 100000
set_option maxHeartbeats 4000000
/-! W2: statements, targets, loops, comprehensions, calls, a def's promise. -/
namespace WL
open PySem PySem.Spec PyProof.Rows L2
variable [TBs]

def Slot.free : Slot → Bool
  | .ow true _ => false
  | _ => true
section
variable {K : PySem.W.Frag} {Φ : Fr} {Hk Hk' H H' : Hp} {ρ ρ' : Rho} {T : List Cell} {σ : L2.St} {i : Nat} {s s0 : Slot} {v : V}
theorem kp_store (e : ρ[i]? = some s0) (hf : s0.free = true) {x : Option V} : Kp σ ρ (σ.set i x) (ρ.set i s) := fun j o v ho ev => by
  by_cases hj : j = i
  · subst hj; rw [e] at ho; cases ho; cases hf
  · exact ⟨by rw [List.getElem?_set_ne (Ne.symm hj)]; exact ev, o, by rw [List.getElem?_set_ne (Ne.symm hj)]; exact ho⟩
theorem Holds.store (h : Holds K Φ Hk ρ ((some v, s) :: T) σ H) (e : ρ[i]? = some s0) (hf : s0.free = true) : Holds K Φ Hk (ρ.set i s) T (σ.set i (some v)) H := by
  have hi : i < σ.length := by rw [← h.len]; exact (List.getElem?_eq_some_iff.mp e).1
  obtain ⟨R, h1, h2⟩ := zip_at (List.getElem?_eq_getElem hi) e
  refine ⟨by simp [h.len], ?_, h.ex0, h.kp0.trans (kp_store e hf)⟩
  have h3 := (h.hl.perm (h1.append_right _)).tail
  refine h3.perm (.trans List.perm_middle ?_)
  exact ((h2 (some v) s).append_right (T ++ Φ.T0)).symm
theorem Holds.dropMid {c : Cell} : ∀ {T' : List Cell}, Holds K Φ Hk ρ (c :: (T' ++ T)) σ H → Holds K Φ Hk ρ (c :: T) σ H
  | [], h => h
  | _ :: T', h => Holds.dropMid (T' := T') (h.perm (.swap _ _ _)).pop
theorem Holds.un (h : Holds K Φ Hk ρ T σ H) (e : ρ[i]? = some s) (hs : ∀ o, s ≠ .ow true o) : Holds K Φ Hk (ρ.set i .un) T σ H := by
  obtain ⟨v, R, ev, _, h2⟩ := h.atU e hs
  exact h2.pop
end

/-! ### statements -/
section
variable {X : Cx} {Φ : Fr} {st : Stmt} {rest sts : List Stmt} {t u : VS} {e : Expr} {te : VE} {pos : Pos}
def vNext : VS := fun R ρ => R.nx ρ
def vSeq (t u : VS) : VS := fun R ρ => t { R with nx := fun ρ' => u R ρ' } ρ
theorem pwss_nil : PWSs X Φ [] vNext := ⟨fun ρ R Hk T σ H D q hh o => tSemSs_of pss_nil (o.nx σ H Hk ρ (.refl _) hh (.refl _ _) q)⟩
theorem pwss_cons (h1 : PWS X Φ st t) (h2 : PWSs X Φ rest u) : PWSs X Φ (st :: rest) (vSeq t u) := ⟨fun ρ R Hk T σ H D q hh o => tSemSs_of (pss_cons ps_sem pss_sem)
  (h1.run ρ _ Hk T σ H { D with nx := tSemSs X rest D } q hh
    ⟨fun σ' H' Hk' ρ' e h k q' => h2.run ρ' R Hk' T σ' H' D q' h (o.step e k), o.rt, o.bk, o.ct⟩)⟩
theorem pwss_one (h1 : PWS X Φ st t) : PWSs X Φ [st] t := ⟨fun ρ R Hk T σ H D q hh o => tSemSs_of (pss_one ps_sem) (h1.run ρ R Hk T σ H D q hh o)⟩
def vBreak : VS := fun R ρ => R.bk ρ
def vCont : VS := fun R ρ => R.ct ρ
theorem pws_pass : PWS X Φ (.Pass pos) vNext := ⟨fun ρ R Hk T σ H D q hh o => tSemS_of ps_pass (o.nx σ H Hk ρ (.refl _) hh (.refl _ _) q)⟩
theorem pws_break : PWS X Φ (.Break pos) vBreak := ⟨fun ρ R Hk T σ H D q hh o => tSemS_of ps_break (o.bk σ H Hk ρ (.refl _) hh (.refl _ _) q)⟩
theorem pws_cont : PWS X Φ (.Continue pos) vCont := ⟨fun ρ R Hk T σ H D q hh o => tSemS_of ps_continue (o.ct σ H Hk ρ (.refl _) hh (.refl _ _) q)⟩
def vExpr (te : VE) : VS := fun R ρ => te ρ fun _ ρ1 => R.nx ρ1
theorem pws_expr {tt : TE} (hp : PS X st (tDrop tt)) (h : RunE X.K Φ tt te) : PWS X Φ st (vExpr te) := ⟨fun ρ R Hk T σ H D q hh o => tSemS_of hp
  (h.run ρ _ Hk T σ H _ q hh fun v H' Hk' ρ' r e h' k' q' => o.nx σ H' Hk' ρ' e h'.pop k' q')⟩
def vRet (te : VE) : VS := fun R ρ => te ρ fun r ρ1 => R.rt r ρ1
theorem pws_ret (h : PWE X Φ e te) : PWS X Φ (.Return (some e) pos) (vRet te) := ⟨fun ρ R Hk T σ H D q hh o => tSemS_of (ps_ret pe_sem)
  (h.run ρ _ Hk T σ H _ q hh fun v H' Hk' ρ' r e h' k' q' => o.rt v σ H' Hk' ρ' r e h' k' q')⟩
def vRetN : VS := fun R ρ => R.rt (.sh .non) ρ
theorem pws_retN : PWS X Φ (.Return none pos) vRetN := ⟨fun ρ R Hk T σ H D q hh o => tSemS_of ps_retN (o.rt _ σ H Hk ρ _ (.refl _) (hh.sh .non) (.refl _ _) q)⟩
def vIf (c : VT) (t u : VS) : VS := fun R ρ => c ρ fun k ρ1 => (k = true → t R ρ1) ∧ (k = false → u R ρ1)
theorem pws_if {c : Expr} {a b : List Stmt} {tc : VT} (hc : PWT X Φ c tc) (ha : PWSs X Φ a t) (hb : PWSs X Φ b u) : PWS X Φ (.If c a b pos) (vIf tc t u) := ⟨fun ρ R Hk T σ H D q hh o => tSemS_of (ps_if pt_sem pss_sem pss_sem)
  (hc.run ρ _ Hk T σ H _ q hh fun k H1 Hk1 ρ1 e1 h1 k1 q1 => by
    cases k with
    | true => rw [if_pos rfl]; exact ha.run ρ1 R Hk1 T σ H1 D (q1.1 rfl) h1 (o.step e1 k1)
    | false => rw [if_neg Bool.false_ne_true]; exact hb.run ρ1 R Hk1 T σ H1 D (q1.2 rfl) h1 (o.step e1 k1))⟩
/-- x = e -/
def vSet (i : Nat) (te : VE) : VS := fun R ρ => te ρ fun s ρ1 => ∃ s0, ρ1[i]? = some s0 ∧ s0.free = true ∧ R.nx (ρ1.set i s)
theorem pws_set {tt : TE} {i : Nat} (hp : PS X st (tAsg tt (gName i))) (h : RunE X.K Φ tt te) : PWS X Φ st (vSet i te) := ⟨fun ρ R Hk T σ H D q hh o => tSemS_of hp
  (h.run ρ _ Hk T σ H _ q hh fun v H' Hk' ρ' r e h' k' ⟨s0, e0, hf, q'⟩ => o.nx _ H' Hk' _ e (h'.store e0 hf) (k'.trans (kp_store e0 hf)) q')⟩
/-- x op= e, by values -/
def vAug (i : Nat) (op : Prim) (te : VE) : VS := fun R ρ => ∃ d, ρ[i]? = some (.sh d) ∧ te ρ fun s ρ1 => ∃ dy, slotD s = some dy ∧ (∃ d1, ρ1[i]? = some (.sh d1)) ∧ op [d, dy] fun ret => R.nx (ρ1.set i ret.slot)
theorem pws_aug {ti : TIp} {i : Nat} {op : Prim} (hp : PS X st (tAug i (tSem X e) ti)) (ho : PrimOk2 X ti op) (h : PWE X Φ e te) : PWS X Φ st (vAug i op te) := ⟨fun ρ R Hk T σ H D ⟨d, e0, q⟩ hh o => tSemS_of hp (by
  obtain ⟨x, ex, rx⟩ := hh.get_sh e0
  refine ⟨x, ex, h.run ρ _ Hk T σ H _ q hh fun v H1 Hk1 ρ1 s e1 h1 k1 ⟨dy, hy, ⟨d1, e2⟩, q1⟩ => ?_⟩
  have bv : View X.K Hk1 H1 v dy := HL.view h1.front hy
  refine ho Hk1 H1 x v d dy _ _ h1.ex (.known (rx.mono e1)) bv q1 fun ret hr => ?_
  refine ret_post (Q := fun r ρ' => ∃ s0, ρ'[i]? = some s0 ∧ s0.free = true ∧ R.nx (ρ'.set i r)) (P := fun z H2 => D.nx (σ.set i (some z)) H2) h1.pop (fun z H2 Hk2 ρ2 r e3 h3 k3 ⟨s0, e4, hf, q4⟩ => ?_) ⟨_, e2, rfl, hr⟩
  exact o.nx _ H2 Hk2 _ (e1.trans e3) (h3.store e4 hf) ((k1.trans k3).trans (kp_store e4 hf)) q4)⟩
end

/-! ### targets -/
abbrev VG := D → Rho → (Rho → Prop) → Prop
def tSemG (X : Cx) (tg : Expr) : TG := fun v σ H P => ∀ pins s u, Inv X pins σ H s → RelV v u → wpAny (model X.prog X.w) X.A (assign tg X.env u) (fun _ s' => ∃ σ' H', Inv X pins σ' H' s' ∧ P σ' H') X.xe s
theorem pg_sem {X : Cx} {tg : Expr} : PG X tg (tSemG X tg) := ⟨fun pins s _ _ _ u _ I r h => h pins s u I r⟩
def PostG (K : PySem.W.Frag) (Φ : Fr) (Hk : Hp) (T : List Cell) (σ : L2.St) (ρ : Rho) (is : List Nat) (Q : Rho → Prop) (P : L2.St → Hp → Prop) : Prop :=
  ∀ σ' H' Hk' ρ', Same Hk Hk' → Holds K Φ Hk' ρ' T σ' H' → Kp σ ρ σ' ρ' → (∀ j, j ∉ is → σ'[j]? = σ[j]?) ∧ σ'.length = σ.length → Q ρ' → P σ' H'
structure RunG (K : PySem.W.Frag) (Φ : Fr) (t : TG) (is : List Nat) (g : VG) : Prop where
  run : ∀ d ρ Q Hk T σ H v P, g d ρ Q → Rep K Hk v d → Holds K Φ Hk ρ T σ H → PostG K Φ Hk T σ ρ is Q P → t v σ H P
structure PWG (X : Cx) (Φ : Fr) (tg : Expr) (is : List Nat) (g : VG) : Prop where
  run : RunG X.K Φ (tSemG X tg) is g
theorem tSemG_of {X : Cx} {tg : Expr} {t : TG} {v : V} {σ : L2.St} {H : Hp} {P : L2.St → Hp → Prop} (h : PG X tg t) (q : t v σ H P) : tSemG X tg v σ H P := fun pins s u I r => h.run pins s σ H v u P I r q
def gN (i : Nat) : VG := fun d ρ Q => ∃ s, ρ[i]? = some s ∧ s.free = true ∧ Q (ρ.set i (.sh d))
theorem rung_name {K : PySem.W.Frag} {Φ : Fr} (i : Nat) : RunG K Φ (gName i) [i] (gN i) := ⟨fun d ρ Q Hk T σ H v P ⟨s, e, hf, q⟩ r hh p =>
  p _ H Hk _ (.refl _) ((hh.sh r).store e hf) (kp_store e hf) ⟨fun j hj => List.getElem?_set_ne (fun z => hj (by simp [z])), by simp⟩ q⟩
def gNames : List Nat → TGs
  | [] => gNil
  | i :: is => gCons (gName i) (gNames is)
def gTs : List Nat → List D → Rho → (Rho → Prop) → Prop
  | [], [], ρ, Q => Q ρ
  | i :: is, d :: ds, ρ, Q => gN i d ρ fun ρ' => gTs is ds ρ' Q
  | _, _, _, _ => False
theorem gnames_run {K : PySem.W.Frag} {Φ : Fr} : ∀ {is : List Nat} {ds : List D} {vs : List V} {ρ : Rho} {Q : Rho → Prop} {Hk : Hp} {T : List Cell} {σ : L2.St} {H : Hp} {P : L2.St → Hp → Prop}, gTs is ds ρ Q → Reps K Hk vs ds → Holds K Φ Hk ρ T σ H → PostG K Φ Hk T σ ρ is Q P → gNames is vs σ H P
  | [], [], _, ρ, Q, Hk, T, σ, H, P, q, .nil, hh, p => ⟨rfl, p σ H Hk ρ (.refl _) hh (.refl _ _) ⟨fun _ _ => rfl, rfl⟩ q⟩
  | i :: is, d :: ds, _, ρ, Q, Hk, T, σ, H, P, q, .cons r rs, hh, p => ⟨_, _, rfl, (rung_name i).run d ρ _ Hk T σ H _ _ q r hh fun σ1 H1 Hk1 ρ1 e1 h1 k1 s1 q1 =>
      gnames_run q1 (rs.mono e1) h1 fun σ2 H2 Hk2 ρ2 e2 h2 k2 s2 q2 => p σ2 H2 Hk2 ρ2 (e1.trans e2) h2 (k1.trans k2) ⟨fun j hj => (s2.1 j fun z => hj (List.mem_cons_of_mem _ z)).trans (s1.1 j fun z => hj (by
        have : j = i := by simpa using z
        simp [this])), s2.2.trans s1.2⟩ q2⟩
/-- a, b = a tuple -/
def gT (is : List Nat) : VG := fun d ρ Q => ∃ ds, d = .tup ds ∧ ds.length = is.length ∧ gTs is ds ρ Q
theorem rung_tup {K : PySem.W.Frag} {Φ : Fr} (is : List Nat) : RunG K Φ (gTup K is.length (gNames is)) is (gT is) := ⟨fun d ρ Q Hk T σ H v P ⟨ds, ed, hl, q⟩ r hh p => by
  subst ed
  cases r with
  | tup h r => exact ⟨_, _, rfl, .of (hh.ex _ _ h), r.length.trans hl, gnames_run q r hh p⟩⟩
theorem pwg_of {X : Cx} {Φ : Fr} {tg : Expr} {t : TG} {is : List Nat} {g : VG} (hp : PG X tg t) (h : RunG X.K Φ t is g) : PWG X Φ tg is g := ⟨⟨fun d ρ Q Hk T σ H v P q r hh p => tSemG_of hp (h.run d ρ Q Hk T σ H v P q r hh p)⟩⟩

/-! ### what is walked -/
abbrev VI := Rho → (List D → Rho → Prop) → Prop
structure ItOk (K : PySem.W.Frag) (Hk0 : Hp) (T' : List Cell) (J : It) (ds : List D) : Prop where
  go : ∀ i Hk H L, Same Hk0 Hk → HL K Hk H (T' ++ L) → i < ds.length → J.go i H ∧ ∀ x H', J.yld i H x H' → ∃ Hk' d, ds[i]? = some d ∧ Same Hk Hk' ∧ Rep K Hk' x d ∧ ∀ M, HL K Hk H M → HL K Hk' H' M
  stop : ∀ i Hk H L, Same Hk0 Hk → HL K Hk H (T' ++ L) → ds.length ≤ i → J.stop i H
def tSemI (X : Cx) (tg iter : Expr) : TI := fun σ H R => ∀ pins s, Inv X pins σ H s → wpAny (model X.prog X.w) X.A (eval iter X.env) (fun v s1 => wpAny (model X.prog X.w) X.A (pyIter v) (PIE X pins σ tg R) X.xe s1) X.xe s
theorem pi_sem {X : Cx} {tg iter : Expr} : PI X tg iter (tSemI X tg iter) := ⟨fun pins s _ _ _ I h => h pins s I⟩
theorem tSemI_of {X : Cx} {tg iter : Expr} {t : TI} {σ : L2.St} {H : Hp} {R : It → Hp → Prop} (h : PI X tg iter t) (q : t σ H R) : tSemI X tg iter σ H R := fun pins s I => h.run pins s σ H R I q
def PostI (K : PySem.W.Frag) (Φ : Fr) (Hk : Hp) (T : List Cell) (σ : L2.St) (ρ : Rho) (Q : List D → Rho → Prop) (R : It → Hp → Prop) : Prop :=
  ∀ J H' Hk' ρ' ds T', Same Hk Hk' → Holds K Φ Hk' ρ' (T' ++ T) σ H' → Kp σ ρ σ ρ' → ItOk K Hk' T' J ds → Q ds ρ' → R J H'
structure PWI (X : Cx) (Φ : Fr) (tg iter : Expr) (it : VI) : Prop where
  run : ∀ ρ Q Hk T σ H R, it ρ Q → Holds X.K Φ Hk ρ T σ H → PostI X.K Φ Hk T σ ρ Q R → tSemI X tg iter σ H R
section
variable {X : Cx} {Φ : Fr} {tg iter : Expr} {te : VE} {tas : VA} {e : Expr} {es : List Expr} {pos p : Pos}
/-- data that is walked as a list, as a tuple -/
def seqLD : D → Option (List D)
  | .lst ds => some ds
  | .fls ds => some ds
  | _ => none
def seqTD : D → Option (List D)
  | .tup ds => some ds
  | .ftp ds => some ds
  | _ => none
theorem seqLD_eq {d : D} {ds : List D} (h : seqLD d = some ds) : d = .lst ds ∨ d = .fls ds := by
  cases d <;> simp [seqLD] at h <;> simp [h]
theorem seqTD_eq {d : D} {ds : List D} (h : seqTD d = some ds) : d = .tup ds ∨ d = .ftp ds := by
  cases d <;> simp [seqTD] at h <;> simp [h]
def vItL (te : VE) : VI := fun ρ Q => te ρ fun s ρ1 => ∃ d ds, slotD s = some d ∧ seqLD d = some ds ∧ Q ds ρ1
def vItT (te : VE) : VI := fun ρ Q => te ρ fun s ρ1 => ∃ d ds, slotD s = some d ∧ seqTD d = some ds ∧ Q ds ρ1
theorem itok_list {K : PySem.W.Frag} {Hk : Hp} {a : Addr} {s : Slot} {d : D} {ds : List D} (hs : slotD s = some d) (hq : seqLD d = some ds) : ItOk K Hk [(some (.ref a), s)] (Itl K a) ds where
  go := fun i Hk H L e h hi => by
    have vw : View K Hk H (.ref a) d := HL.view h hs
    obtain ⟨a', vs, ea, sq, r⟩ := vw.seqL h.ex (seqLD_eq hq)
    cases ea
    have hl : i < vs.length := by rw [r.length]; exact hi
    refine ⟨⟨vs, vs[i], sq, List.getElem?_eq_getElem hl⟩, fun x H' ⟨eH, y⟩ => ?_⟩
    subst eH
    obtain ⟨d, hd, rd⟩ := r.get (y vs sq)
    exact ⟨Hk, d, hd, .refl _, rd, fun _ m => m⟩
  stop := fun i Hk H L e h hi => by
    have vw : View K Hk H (.ref a) d := HL.view h hs
    obtain ⟨a', vs, ea, sq, r⟩ := vw.seqL h.ex (seqLD_eq hq)
    cases ea
    exact ⟨vs, sq, by rw [r.length]; exact hi⟩
theorem itok_tup {K : PySem.W.Frag} {Hk : Hp} {a : Addr} {s : Slot} {d : D} {ds : List D} (hs : slotD s = some d) (hq : seqTD d = some ds) : ItOk K Hk [(some (.ref a), s)] (Itt K a) ds where
  go := fun i Hk H L e h hi => by
    have vw : View K Hk H (.ref a) d := HL.view h hs
    obtain ⟨a', vs, ea, sq, r⟩ := vw.seqT h.ex (seqTD_eq hq)
    cases ea
    have hl : i < vs.length := by rw [r.length]; exact hi
    refine ⟨⟨vs, vs[i], sq, List.getElem?_eq_getElem hl⟩, fun x H' ⟨eH, y⟩ => ?_⟩
    subst eH
    obtain ⟨d, hd, rd⟩ := r.get (y vs sq)
    exact ⟨Hk, d, hd, .refl _, rd, fun _ m => m⟩
  stop := fun i Hk H L e h hi => by
    have vw : View K Hk H (.ref a) d := HL.view h hs
    obtain ⟨a', vs, ea, sq, r⟩ := vw.seqT h.ex (seqTD_eq hq)
    cases ea
    exact ⟨vs, sq, by rw [r.length]; exact hi⟩
theorem pwi_list (h : PWE X Φ iter te) : PWI X Φ tg iter (vItL te) := ⟨fun ρ Q Hk T σ H R q hh p => tSemI_of (pi_list pe_sem)
  (h.run ρ _ Hk T σ H _ q hh fun v H1 Hk1 ρ1 s e1 h1 k1 ⟨d, ds, hs, hq, q1⟩ => by
    have vw : View X.K Hk1 H1 v d := HL.view h1.front hs
    obtain ⟨a, vs, ea, sq, r⟩ := vw.seqL h1.ex (seqLD_eq hq)
    subst ea
    exact ⟨a, rfl, ⟨vs, sq⟩, p _ H1 Hk1 ρ1 ds [(some (.ref a), s)] e1 h1 k1 (itok_list hs hq) q1⟩)⟩
theorem pwi_tup (h : PWE X Φ iter te) : PWI X Φ tg iter (vItT te) := ⟨fun ρ Q Hk T σ H R q hh p => tSemI_of (pi_tup pe_sem)
  (h.run ρ _ Hk T σ H _ q hh fun v H1 Hk1 ρ1 s e1 h1 k1 ⟨d, ds, hs, hq, q1⟩ => by
    have vw : View X.K Hk1 H1 v d := HL.view h1.front hs
    obtain ⟨a, vs, ea, sq, r⟩ := vw.seqT h1.ex (seqTD_eq hq)
    subst ea
    exact ⟨a, rfl, ⟨vs, sq⟩, p _ H1 Hk1 ρ1 ds [(some (.ref a), s)] e1 h1 k1 (itok_tup hs hq) q1⟩)⟩
def rangeD (lo : Int) (n : Nat) : List D := (List.range n).map fun (i : Nat) => D.int (lo + (i : Int))
theorem rangeD_get {lo : Int} {n i : Nat} (h : i < n) : (rangeD lo n)[i]? = some (.int (lo + (i : Int))) := by
  unfold rangeD
  rw [List.getElem?_map, List.getElem?_range h]; rfl
theorem rangeD_len {lo : Int} {n : Nat} : (rangeD lo n).length = n := by unfold rangeD; simp
theorem itok_rng {K : PySem.W.Frag} {Hk : Hp} {lo : Int} {n : Nat} : ItOk K Hk [] (Itr lo n) (rangeD lo n) where
  go := fun i Hk H L e h hi => by
    rw [rangeD_len] at hi
    refine ⟨hi, fun x H' ⟨eH, ex⟩ => ?_⟩
    subst eH; subst ex
    exact ⟨Hk, _, rangeD_get hi, .refl _, .int, fun _ m => m⟩
  stop := fun i Hk H L e h hi => by rw [rangeD_len] at hi; exact hi
def vItR1 (ta : VA) : VI := fun ρ Q => ta ρ fun as ρ1 => ∃ n, argDs ρ1 as = some [.int n] ∧ (-(2 ^ 62) ≤ n ∧ n < 2 ^ 62) ∧ Q (rangeD 0 n.toNat) ρ1
def vItR2 (ta : VA) : VI := fun ρ Q => ta ρ fun as ρ1 => ∃ m n, argDs ρ1 as = some [.int m, .int n] ∧ (-(2 ^ 62) ≤ m ∧ m < 2 ^ 62 ∧ -(2 ^ 62) ≤ n ∧ n < 2 ^ 62) ∧ Q (rangeD m (n - m).toNat) ρ1
theorem pwi_range1 (hp : PI X tg iter (iRng1 (tSemA X es))) (h : PWA X Φ es tas) : PWI X Φ tg iter (vItR1 tas) := ⟨fun ρ Q Hk T σ H R q hh p => tSemI_of hp
  (h.run ρ _ Hk T σ H _ q hh fun vs H1 Hk1 ρ1 as ts e1 has h1 k1 ⟨n, hd, b, q1⟩ => by
    have vw := has.views h1 hd
    cases vw with
    | cons v r =>
      cases r
      have := v.int
      subst this
      exact ⟨n, rfl, b.1, b.2, p _ H1 Hk1 ρ1 _ [] e1 h1.drop k1 itok_rng q1⟩)⟩
theorem pwi_range2 (hp : PI X tg iter (iRng2 (tSemA X es))) (h : PWA X Φ es tas) : PWI X Φ tg iter (vItR2 tas) := ⟨fun ρ Q Hk T σ H R q hh p => tSemI_of hp
  (h.run ρ _ Hk T σ H _ q hh fun vs H1 Hk1 ρ1 as ts e1 has h1 k1 ⟨m, n, hd, b, q1⟩ => by
    have vw := has.views h1 hd
    cases vw with
    | cons v r =>
      cases r with
      | cons v' r =>
        cases r
        have := v.int
        subst this
        have := v'.int
        subst this
        exact ⟨m, n, rfl, b, p _ H1 Hk1 ρ1 _ [] e1 h1.drop k1 itok_rng q1⟩)⟩
end

/-! ### for, while -/
section
variable {X : Cx} {Φ : Fr} {st : Stmt} {tg iter c : Expr} {body : List Stmt} {it : VI} {is : List Nat} {g : VG} {tb : VS} {tc : VT}
def vFor (it : VI) (g : VG) (tb : VS) : VS := fun R ρ => it ρ fun ds ρ1 => ∃ I : Nat → Rho → Prop, I 0 ρ1 ∧
  (∀ j d ρ', ds[j]? = some d → I j ρ' → g d ρ' fun ρ2 => tb { R with nx := I (j + 1), ct := I (j + 1), bk := R.nx } ρ2) ∧ ∀ ρ', I ds.length ρ' → R.nx ρ'
/-- the loop, its iterator made -/
theorem for_core {J : It} {ds : List D} {T T' : List Cell} {Hk1 H1 : _} {σ : L2.St} {ρ1 : Rho} {R : Out} {D0 : Ends} (hg : PWG X Φ tg is g) (hb : PWSs X Φ body tb) (iok : ItOk X.K Hk1 T' J ds) (h1 : Holds X.K Φ Hk1 ρ1 (T' ++ T) σ H1) (o : OutOk X.K Φ Hk1 T σ ρ1 R D0)
    (I : Nat → Rho → Prop) (i0 : I 0 ρ1) (turn : ∀ j d ρ', ds[j]? = some d → I j ρ' → g d ρ' fun ρ2 => tb { R with nx := I (j + 1), ct := I (j + 1), bk := R.nx } ρ2) (fin : ∀ ρ', I ds.length ρ' → R.nx ρ') :
    ∃ W : Nat → Nat → L2.St → Hp → Prop, (∃ m, W 0 m σ H1) ∧ ∀ i m σ H, W i m σ H →
      (J.stop i H ∧ D0.nx σ H) ∨ (J.go i H ∧ ∃ N : L2.St → Hp → Prop, (∀ σ' H', N σ' H' → ∃ m', m' < m ∧ W (i + 1) m' σ' H') ∧ ∀ x H', J.yld i H x H' → tSemG X tg x σ H' fun σ2 H2 => tSemSs X body { D0 with nx := N, ct := N, bk := D0.nx } σ2 H2) := by
  refine ⟨fun i m σ' H' => m = ds.length - i ∧ i ≤ ds.length ∧ ∃ Hk' ρ', Same Hk1 Hk' ∧ Holds X.K Φ Hk' ρ' (T' ++ T) σ' H' ∧ Kp σ ρ1 σ' ρ' ∧ I i ρ', ⟨_, rfl, Nat.zero_le _, Hk1, ρ1, .refl _, h1, .refl _ _, i0⟩, ?_⟩
  rintro i m σ2 H2 ⟨rfl, hle, Hk2, ρ2, e2, h2, k2, i2⟩
  have hL : HL X.K Hk2 H2 (T' ++ (T ++ (Φ.T0 ++ σ2.zip ρ2))) := by rw [← List.append_assoc]; exact h2.front
  by_cases hlt : i < ds.length
  · obtain ⟨hgo, hy⟩ := iok.go i Hk2 H2 _ e2 hL hlt
    refine .inr ⟨hgo, fun σ' H' => ∃ Hk' ρ', Same Hk1 Hk' ∧ Holds X.K Φ Hk' ρ' (T' ++ T) σ' H' ∧ Kp σ ρ1 σ' ρ' ∧ I (i + 1) ρ', fun σ' H' hN => ⟨ds.length - (i + 1), by omega, rfl, hlt, hN⟩, fun x H3 hyl => ?_⟩
    obtain ⟨Hk3, d, hd, e3, r3, mv⟩ := hy x H3 hyl
    refine hg.run.run d ρ2 _ Hk3 (T' ++ T) σ2 H3 x _ (turn i d ρ2 hd i2) r3 ⟨h2.len, mv _ h2.hl, h2.ex0.trans e3, h2.kp0⟩ fun σ4 H4 Hk4 ρ4 e4 h4 k4 _ q4 => ?_
    refine hb.run ρ4 _ Hk4 (T' ++ T) σ4 H4 _ q4 h4 ⟨fun σ5 H5 Hk5 ρ5 e5 h5 k5 q5 => ?_, fun v σ5 H5 Hk5 ρ5 r e5 h5 k5 q5 => ?_, fun σ5 H5 Hk5 ρ5 e5 h5 k5 q5 => ?_, fun σ5 H5 Hk5 ρ5 e5 h5 k5 q5 => ?_⟩
    · exact ⟨Hk5, ρ5, e2.trans (e3.trans (e4.trans e5)), h5, k2.trans (k4.trans k5), q5⟩
    · exact o.rt v σ5 H5 Hk5 ρ5 r (e2.trans (e3.trans (e4.trans e5))) h5.dropMid (k2.trans (k4.trans k5)) q5
    · exact o.nx σ5 H5 Hk5 ρ5 (e2.trans (e3.trans (e4.trans e5))) h5.drop (k2.trans (k4.trans k5)) q5
    · exact ⟨Hk5, ρ5, e2.trans (e3.trans (e4.trans e5)), h5, k2.trans (k4.trans k5), q5⟩
  · have he : i = ds.length := by omega
    subst he
    exact .inl ⟨iok.stop _ Hk2 H2 _ e2 hL (Nat.le_refl _), o.nx σ2 H2 Hk2 ρ2 e2 h2.drop k2 (fin ρ2 i2)⟩
theorem pws_for (hp : PS X st (tFor (tSemI X tg iter) (tSemG X tg) (tSemSs X body))) (hi : PWI X Φ tg iter it) (hg : PWG X Φ tg is g) (hb : PWSs X Φ body tb) : PWS X Φ st (vFor it g tb) := ⟨fun ρ R Hk T σ H D q hh o => tSemS_of hp
  (hi.run ρ _ Hk T σ H _ q hh fun J H1 Hk1 ρ1 ds T' e1 h1 k1 iok ⟨I, i0, turn, fin⟩ => for_core hg hb iok h1 (o.step e1 k1) I i0 turn fin)⟩
def vWhile (t : VT) (tb : VS) : VS := fun R ρ => ∃ I : Nat → Rho → Prop, (∃ m, I m ρ) ∧ ∀ m ρ', I m ρ' → t ρ' fun k ρ1 =>
  (k = true → tb { R with nx := fun ρ2 => ∃ m', m' < m ∧ I m' ρ2, ct := fun ρ2 => ∃ m', m' < m ∧ I m' ρ2, bk := R.nx } ρ1) ∧ (k = false → R.nx ρ1)
theorem pws_while (hp : PS X st (tWhile (tSemT X c) (tSemSs X body))) (hc : PWT X Φ c tc) (hb : PWSs X Φ body tb) : PWS X Φ st (vWhile tc tb) := ⟨fun ρ R Hk T σ H D ⟨I, ⟨m0, i0⟩, turn⟩ hh o => tSemS_of hp (by
  refine ⟨fun m σ' H' => ∃ Hk' ρ', Same Hk Hk' ∧ Holds X.K Φ Hk' ρ' T σ' H' ∧ Kp σ ρ σ' ρ' ∧ I m ρ', ⟨m0, Hk, ρ, .refl _, hh, .refl _ _, i0⟩, ?_⟩
  rintro m σ2 H2 ⟨Hk2, ρ2, e2, h2, k2, i2⟩
  refine hc.run ρ2 _ Hk2 T σ2 H2 _ (turn m ρ2 i2) h2 fun k H3 Hk3 ρ3 e3 h3 k3 q3 => ?_
  cases k with
  | true =>
    rw [if_pos rfl]
    refine ⟨fun σ' H' => ∃ Hk' ρ', Same Hk Hk' ∧ Holds X.K Φ Hk' ρ' T σ' H' ∧ Kp σ ρ σ' ρ' ∧ ∃ m', m' < m ∧ I m' ρ', fun σ' H' ⟨Hk', ρ', e, h, k, m', l, i⟩ => ⟨m', l, Hk', ρ', e, h, k, i⟩, ?_⟩
    refine hb.run ρ3 _ Hk3 T σ2 H3 _ (q3.1 rfl) h3 ⟨fun σ5 H5 Hk5 ρ5 e5 h5 k5 q5 => ?_, fun v σ5 H5 Hk5 ρ5 r e5 h5 k5 q5 => ?_, fun σ5 H5 Hk5 ρ5 e5 h5 k5 q5 => ?_, fun σ5 H5 Hk5 ρ5 e5 h5 k5 q5 => ?_⟩
    · exact ⟨Hk5, ρ5, e2.trans (e3.trans e5), h5, k2.trans (k3.trans k5), q5⟩
    · exact o.rt v σ5 H5 Hk5 ρ5 r (e2.trans (e3.trans e5)) h5 (k2.trans (k3.trans k5)) q5
    · exact o.nx σ5 H5 Hk5 ρ5 (e2.trans (e3.trans e5)) h5 (k2.trans (k3.trans k5)) q5
    · exact ⟨Hk5, ρ5, e2.trans (e3.trans e5), h5, k2.trans (k3.trans k5), q5⟩
  | false => rw [if_neg Bool.false_ne_true]; exact o.nx σ2 H3 Hk3 ρ3 (e2.trans e3) h3 (k2.trans k3) (q3.2 rfl))⟩
end
end WL

set_option Elab.async false
set_option linter.all false
set_option maxRecDepth 100000
set_option maxHeartbeats 4000000
/-! W3: comprehensions, calls, a def's promise. -/
namespace WL
open PySem PySem.Spec PyProof.Rows L2
variable [TBs]

/-! ### comprehensions -/
def wipeR (ρ : Rho) : List Nat → Rho
  | [] => ρ
  | v :: vs => (wipeR ρ vs).set v .un
section
variable {K : PySem.W.Frag} {Φ : Fr} {Hk Hk' H H' : Hp} {ρ ρ' : Rho} {T : List Cell} {σ : L2.St} {i : Nat}
theorem set_ge {α : Type} {l : List α} {i : Nat} {x : α} (h : l.length ≤ i) : l.set i x = l := by
  apply List.ext_getElem?
  intro j
  rw [List.getElem?_set]
  split
  · rename_i e; subst e
    rw [if_neg (by omega), List.getElem?_eq_none h]
  · rfl
theorem kp_unset {x : Option V} : Kp (σ.set i x) (ρ.set i .un) σ (ρ.set i .un) := fun j o v ho ev => by
  have hj : j ≠ i := fun z => by
    subst z
    by_cases hl : j < ρ.length
    · rw [List.getElem?_set_self hl] at ho; cases ho
    · rw [List.getElem?_eq_none (by rw [List.length_set]; omega)] at ho; cases ho
  refine ⟨by rw [List.getElem?_set_ne (Ne.symm hj)] at ev; exact ev, o, ho⟩
theorem Holds.unset {x : Option V} (h : Holds K Φ Hk (ρ.set i .un) T (σ.set i x) H) : Holds K Φ Hk (ρ.set i .un) T σ H := by
  have hl : ρ.length = σ.length := by have := h.len; simpa using this
  by_cases hi : i < σ.length
  · obtain ⟨R, h1, h2⟩ := zip_at (List.getElem?_eq_getElem hi) (List.getElem?_eq_getElem (hl ▸ hi))
    refine ⟨by simp [hl], ?_, h.ex0, h.kp0.trans kp_unset⟩
    have e : σ.set i σ[i] = σ := set_self (List.getElem?_eq_getElem hi)
    have h3 := h2 σ[i] .un
    rw [e] at h3
    have h4 := (h.hl.perm ((h2 x .un).append_right (T ++ Φ.T0))).tail
    exact (h4.un (x := σ[i])).perm (h3.append_right (T ++ Φ.T0)).symm
  · rw [set_ge (l := σ) (by omega)] at h; exact h
/-- the slots of the start that are lent are not among these -/
def Off (Φ : Fr) (vs : List Nat) : Prop := ∀ (j : Nat) (o : Own) (v : Option V), Φ.ρ0[j]? = some (Slot.ow true o) → Φ.σ0[j]? = some v → j ∉ vs
theorem Off.of {vs : List Nat} (h : Holds K Φ Hk ρ T σ H) (hf : ∀ v ∈ vs, ∃ s, ρ[v]? = some s ∧ s.free = true) : Off Φ vs := fun j o v e1 e2 hj => by
  obtain ⟨_, o', e3⟩ := h.kp0 j o v e1 e2
  obtain ⟨s, e4, f4⟩ := hf j hj
  rw [e3] at e4; cases e4; cases f4
theorem Holds.set_un {x : Option V} (h : Holds K Φ Hk ρ T σ H) (hf : Off Φ [i]) : Holds K Φ Hk (ρ.set i .un) T (σ.set i x) H := by
  by_cases hi : i < ρ.length
  · obtain ⟨R, h1, h2⟩ := zip_at (List.getElem?_eq_getElem (h.len ▸ hi)) (List.getElem?_eq_getElem hi)
    refine ⟨by simp [h.len], ?_, h.ex0, fun j o v e1 e2 => ?_⟩
    · exact ((h.hl.perm (h1.append_right _)).tail.un (x := x)).perm ((h2 x .un).append_right _).symm
    · obtain ⟨a, o', b⟩ := h.kp0 j o v e1 e2
      have hj : i ≠ j := fun z => hf j o v e1 e2 (by simp [z])
      exact ⟨by rw [List.getElem?_set_ne hj]; exact a, o', by rw [List.getElem?_set_ne hj]; exact b⟩
  · rw [set_ge (l := ρ) (by omega), set_ge (l := σ) (by rw [← h.len]; omega)]; exact h
theorem wipeR_comm {v : Nat} : ∀ {vs : List Nat} {ρ : Rho}, (wipeR ρ vs).set v .un = wipeR (ρ.set v .un) vs
  | [], _ => rfl
  | w :: vs, ρ => by
    show ((wipeR ρ vs).set w .un).set v .un = (wipeR (ρ.set v .un) vs).set w .un
    rw [← wipeR_comm (vs := vs)]
    by_cases e : w = v
    · subst e; rfl
    · rw [List.set_comm _ _ e]
theorem Holds.wipe : ∀ {vs : List Nat}, Holds K Φ Hk ρ T σ H → Off Φ vs → Holds K Φ Hk (wipeR ρ vs) T (L2.wipe σ vs) H
  | [], h, _ => h
  | v :: vs, h, hf => (Holds.wipe (vs := vs) h fun j o x e1 e2 hj => hf j o x e1 e2 (List.mem_cons_of_mem _ hj)).set_un fun j o x e1 e2 hj => hf j o x e1 e2 (by rw [List.mem_singleton.mp hj]; exact List.mem_cons_self)
theorem Holds.unwipe : ∀ {vs : List Nat} {ρ : Rho}, Holds K Φ Hk (wipeR ρ vs) T (L2.wipe σ vs) H → Holds K Φ Hk (wipeR ρ vs) T σ H
  | [], _, h => h
  | v :: vs, ρ, h => by
    have h' : Holds K Φ Hk ((wipeR ρ vs).set v .un) T ((L2.wipe σ vs).set v none) H := h
    have h2 := h'.unset
    show Holds K Φ Hk ((wipeR ρ vs).set v .un) T σ H
    rw [wipeR_comm] at h2 ⊢
    exact Holds.unwipe h2
theorem wipeR_out {i : Nat} : ∀ {vs : List Nat}, i ∉ vs → (wipeR ρ vs)[i]? = ρ[i]?
  | [], _ => rfl
  | v :: vs, h => by
    show ((wipeR ρ vs).set v .un)[i]? = _
    rw [List.getElem?_set_ne (fun z => h (by simp [z]))]
    exact wipeR_out fun z => h (List.mem_cons_of_mem _ z)
theorem wipe_in {i : Nat} : ∀ {vs : List Nat}, i ∈ vs → i < σ.length → (L2.wipe σ vs)[i]? = some none
  | v :: vs, h, hl => by
    show ((L2.wipe σ vs).set v none)[i]? = _
    by_cases e : v = i
    · subst e; rw [List.getElem?_set_self (by rw [wipe_length]; exact hl)]
    · rw [List.getElem?_set_ne e]
      exact wipe_in (by rcases List.mem_cons.mp h with z | z; exact absurd z.symm e; exact z) hl
theorem wipe_eq {σ2 : L2.St} {vs : List Nat} (h : ∀ j, j ∉ vs → σ2[j]? = (L2.wipe σ vs)[j]?) (hl : σ2.length = σ.length) : L2.wipe σ2 vs = L2.wipe σ vs := by
  apply List.ext_getElem?
  intro j
  by_cases hj : j ∈ vs
  · by_cases hlt : j < σ.length
    · rw [wipe_in hj hlt, wipe_in hj (by omega)]
    · rw [List.getElem?_eq_none (by rw [wipe_length]; omega), List.getElem?_eq_none (by rw [wipe_length]; omega)]
  · rw [wipe_out hj]; exact h j hj
end
structure RunT (K : PySem.W.Frag) (Φ : Fr) (t : TT) (tt : VT) : Prop where
  run : ∀ ρ Q Hk T σ H P, tt ρ Q → Holds K Φ Hk ρ T σ H → PostT K Φ Hk T σ ρ Q P → t σ H P
def vYes : VT := fun ρ Q => Q true ρ
theorem runt_yes {K : PySem.W.Frag} {Φ : Fr} : RunT K Φ tYes vYes := ⟨fun ρ Q Hk T σ H P q hh p => p true H Hk ρ (.refl _) hh (.refl _ _) q⟩
def vLc (it : VI) (g : VG) (tt : VT) (te : VE) (vs : List Nat) : VE := fun ρ Q => it ρ fun ds ρ1 => (∀ v ∈ vs, ∃ s, ρ1[v]? = some s ∧ s.free = true) ∧ ∃ I : Nat → List D → Rho → Prop, I 0 [] (wipeR ρ1 vs) ∧
  (∀ j acc d ρ', ds[j]? = some d → I j acc ρ' → g d ρ' fun ρ2 => tt ρ2 fun b ρ3 =>
    (b = true → te ρ3 fun s ρ4 => ∃ dy, slotD s = some dy ∧ acc.length < sizeLine ∧ I (j + 1) (acc ++ [dy]) (wipeR ρ4 vs)) ∧ (b = false → I (j + 1) acc (wipeR ρ3 vs))) ∧
  ∀ acc ρ', I ds.length acc ρ' → Q (.ow false (.lst acc)) ρ'
/-- a temporary made known -/
theorem Holds.know_top {K : PySem.W.Frag} {Φ : Fr} {Hk H : Hp} {ρ : Rho} {T : List Cell} {σ : L2.St} {v : V} {s : Slot} {d : D} (h : Holds K Φ Hk ρ ((some v, s) :: T) σ H) (e : slotD s = some d) : ∃ Hk', Same Hk Hk' ∧ Rep K Hk' v d ∧ Holds K Φ Hk' ρ T σ H := by
  cases s with
  | un => cases e
  | rw kq rowsq => cases e
  | ks kq => cases e
  | sh d' =>
    cases e
    obtain ⟨v', ev, r⟩ := h.top
    cases ev
    exact ⟨Hk, .refl _, r, h.pop⟩
  | ow b o =>
    cases e
    obtain ⟨Hk', v', ev, e1, r, h2⟩ := HL.share h.front
    cases ev
    exact ⟨Hk', e1, r, .back h.len h2.tail (h.ex0.trans e1) h.kp0⟩
theorem Holds.app {K : PySem.W.Frag} {Φ : Fr} {Hk H : Hp} {ρ : Rho} {T : List Cell} {σ : L2.St} {x : Option V} {b : Bool} {ds : List D} (h : Holds K Φ Hk ρ ((x, .ow b (.lst ds)) :: T) σ H) :
    ∃ p vs, x = some (.ref p) ∧ H p = some (.lst vs) ∧ Reps K Hk vs ds ∧ ∀ vs' ds', Reps K Hk vs' ds' → Holds K Φ Hk ρ ((x, .ow b (.lst ds')) :: T) σ (upd H p (.lst vs')) := by
  obtain ⟨p, vs, e, h1, r, k⟩ := HL.lst h.front
  exact ⟨p, vs, e, h1, r, fun vs' ds' r' => .back h.len (k vs' ds' r') h.ex0 h.kp0⟩
/-- the loop, its iterator made -/
theorem lc_core1 {X : Cx} {Φ : Fr} {J : It} {ds : List D} {T T' : List Cell} {Hk1 H1 : _} {σ : L2.St} {ρ1 : Rho} {Q : VK0} {P : VK} {g' : TG} {is : List Nat} {g : VG} {tt' : TT} {tt : VT} {te' : TE} {te : VE} {vs : List Nat} (hg : RunG X.K Φ g' is g) (ht : RunT X.K Φ tt' tt) (he : RunE X.K Φ te' te) (his : ∀ j ∈ is, j ∈ vs)
    (iok : ItOk X.K Hk1 T' J ds) (h1 : Holds X.K Φ Hk1 ρ1 (T' ++ T) σ H1) (p : Post X.K Φ Hk1 T σ ρ1 Q P) (fr : ∀ v ∈ vs, ∃ s, ρ1[v]? = some s ∧ s.free = true) (I : Nat → List D → Rho → Prop) (i0 : I 0 [] (wipeR ρ1 vs))
    (turn : ∀ j acc d ρ', ds[j]? = some d → I j acc ρ' → g d ρ' fun ρ2 => tt ρ2 fun b ρ3 =>
      (b = true → te ρ3 fun s ρ4 => ∃ dy, slotD s = some dy ∧ acc.length < sizeLine ∧ I (j + 1) (acc ++ [dy]) (wipeR ρ4 vs)) ∧ (b = false → I (j + 1) acc (wipeR ρ3 vs)))
    (fin : ∀ acc ρ', I ds.length acc ρ' → Q (.ow false (.lst acc)) ρ') :
    ∀ D, H1 D = none → ∃ W : Nat → Nat → Hp → Prop, (∃ m, W 0 m (upd H1 D (.lst []))) ∧ ∀ i m H, W i m H →
      (J.stop i H ∧ P (.ref D) H) ∨ (J.go i H ∧ ∃ Nx : Hp → Prop, (∀ H', Nx H' → ∃ m', m' < m ∧ W (i + 1) m' H') ∧ ∀ x H', J.yld i H x H' → g' x (L2.wipe σ vs) H' fun σ2 H2 => L2.wipe σ2 vs = L2.wipe σ vs ∧ tt' σ2 H2 fun b H3 =>
        if b = true then te' σ2 H3 fun y H4 => ∃ acc, H4 D = some (.lst acc) ∧ acc.length < sizeLine ∧ Nx (upd H4 D (.lst (acc ++ [y]))) else Nx H3) := by
    intro Dl hD
    have off : Off Φ vs := Off.of h1 fr
    have lent : ∀ i o, ρ1[i]? = some (Slot.ow true o) → i ∉ vs := fun i o e z => by
      obtain ⟨s, es, hf⟩ := fr i z
      rw [e] at es; cases es; cases hf
    refine ⟨fun i m H' => m = ds.length - i ∧ i ≤ ds.length ∧ ∃ Hk' ρ' acc, Same Hk1 Hk' ∧ Holds X.K Φ Hk' (wipeR ρ' vs) ((some (.ref Dl), Slot.ow false (Own.lst acc)) :: (T' ++ T)) (L2.wipe σ vs) H' ∧ (∀ j o, ρ1[j]? = some (Slot.ow true o) → ∃ o', (wipeR ρ' vs)[j]? = some (Slot.ow true o')) ∧ I i acc (wipeR ρ' vs),
      ⟨_, rfl, Nat.zero_le _, Hk1, ρ1, [], .refl _, ?_, fun j o e => ⟨o, by rw [wipeR_out (lent j o e)]; exact e⟩, i0⟩, ?_⟩
    · exact Holds.wipe (h1.own hD (.lst upd_same .nil)) off
    · rintro i m H2 ⟨rfl, hle, Hk2, ρ2, acc, e2, h2, k2, i2⟩
      have hL : HL X.K Hk2 H2 (T' ++ (T ++ (Φ.T0 ++ (L2.wipe σ vs).zip (wipeR ρ2 vs)))) := by rw [← List.append_assoc]; exact h2.pop.front
      by_cases hlt : i < ds.length
      · obtain ⟨hgo, hy⟩ := iok.go i Hk2 H2 _ e2 hL hlt
        refine .inr ⟨hgo, fun H' => ∃ Hk' ρ' acc, Same Hk1 Hk' ∧ Holds X.K Φ Hk' (wipeR ρ' vs) ((some (.ref Dl), Slot.ow false (Own.lst acc)) :: (T' ++ T)) (L2.wipe σ vs) H' ∧ (∀ j o, ρ1[j]? = some (Slot.ow true o) → ∃ o', (wipeR ρ' vs)[j]? = some (Slot.ow true o')) ∧ I (i + 1) acc (wipeR ρ' vs),
          fun H' hN => ⟨ds.length - (i + 1), by omega, rfl, hlt, hN⟩, fun x H3 hyl => ?_⟩
        obtain ⟨Hk3, d, hd, e3, r3, mv⟩ := hy x H3 hyl
        refine hg.run d _ _ Hk3 _ (L2.wipe σ vs) H3 x _ (turn i acc d _ hd i2) r3 ⟨h2.len, mv _ h2.hl, h2.ex0.trans e3, h2.kp0⟩ fun σ4 H4 Hk4 ρ4 e4 h4 k4 s4 q4 => ?_
        have ws : L2.wipe σ4 vs = L2.wipe σ vs := wipe_eq (fun j hj => s4.1 j fun z => hj (his j z)) (s4.2.trans (wipe_length σ vs))
        have hσ : ∀ j o, ρ1[j]? = some (Slot.ow true o) → ∃ v, (L2.wipe σ vs)[j]? = some v ∧ σ4[j]? = some v ∧ ∃ o', ρ4[j]? = some (Slot.ow true o') := fun j o e => by
          obtain ⟨o', eo⟩ := k2 j o e
          have hj : j < (L2.wipe σ vs).length := by rw [← h2.len]; exact (List.getElem?_eq_some_iff.mp eo).1
          obtain ⟨e5, o5, eo5⟩ := k4 j o' _ eo (List.getElem?_eq_getElem hj)
          exact ⟨_, List.getElem?_eq_getElem hj, e5, o5, eo5⟩
        refine ⟨ws, ht.run ρ4 _ Hk4 _ σ4 H4 _ q4 h4 fun b H5 Hk5 ρ5 e5 h5 k5 q5 => ?_⟩
        cases b with
        | false =>
          rw [if_neg Bool.false_ne_true]
          refine ⟨Hk5, ρ5, acc, e2.trans (e3.trans (e4.trans e5)), by have := Holds.wipe (vs := vs) h5 off; rw [ws] at this; exact this, fun j o e => ?_, q5.2 rfl⟩
          obtain ⟨v, _, e6, o6, eo6⟩ := hσ j o e
          obtain ⟨_, o7, eo7⟩ := k5 j o6 v eo6 e6
          exact ⟨o7, by rw [wipeR_out (lent j o e)]; exact eo7⟩
        | true =>
          rw [if_pos rfl]
          refine he.run ρ5 _ Hk5 _ σ4 H5 _ (q5.1 rfl) h5 fun y H6 Hk6 ρ6 s e6 h6 k6 ⟨dy, hs, hz, q6⟩ => ?_
          obtain ⟨Hk7, e7, r7, h7⟩ := h6.know_top hs
          obtain ⟨p', vs', ep, hp, rp, mu⟩ := h7.app
          cases ep
          refine ⟨vs', hp, by rw [rp.length]; exact hz, Hk7, ρ6, acc ++ [dy], e2.trans (e3.trans (e4.trans (e5.trans (e6.trans e7)))), ?_, fun j o e => ?_, q6⟩
          · have := Holds.wipe (vs := vs) (mu _ _ (rp.append (.one r7))) off; rw [ws] at this; exact this
          · obtain ⟨v, _, e6', o6, eo6⟩ := hσ j o e
            obtain ⟨_, o7, eo7⟩ := k5 j o6 v eo6 e6'
            obtain ⟨_, o8, eo8⟩ := k6 j o7 v eo7 e6'
            exact ⟨o8, by rw [wipeR_out (lent j o e)]; exact eo8⟩
      · have hie : i = ds.length := by omega
        subst hie
        refine .inl ⟨iok.stop _ Hk2 H2 _ e2 hL (Nat.le_refl _), ?_⟩
        refine p (.ref Dl) H2 Hk2 (wipeR ρ2 vs) (.ow false (.lst acc)) (e2) h2.dropMid.unwipe (fun j o v e ev => ⟨ev, k2 j o e⟩) (fin acc _ i2)
theorem run_lc {X : Cx} {Φ : Fr} {tg iter : Expr} {it : VI} {g' : TG} {is : List Nat} {g : VG} {tt' : TT} {tt : VT} {te' : TE} {te : VE} {vs : List Nat} (hi : PWI X Φ tg iter it) (hg : RunG X.K Φ g' is g) (ht : RunT X.K Φ tt' tt) (he : RunE X.K Φ te' te) (his : ∀ j ∈ is, j ∈ vs) :
    RunE X.K Φ (tLc (tSemI X tg iter) g' tt' te' vs) (vLc it g tt te vs) := ⟨fun ρ Q Hk T σ H P q hh p =>
  hi.run ρ _ Hk T σ H _ q hh fun J H1 Hk1 ρ1 ds T' e1 h1 k1 iok ⟨fr, I, i0, turn, fin⟩ => lc_core1 hg ht he his iok h1 (p.step e1 k1) fr I i0 turn fin⟩

/-! the blocks' readings, the same for every block -/
section
variable {X : Cx} {Φ : Fr} {scope : Scope} {elt tg iter c : Expr} {own : List (Str × Nat)} {pos : Pos}
def gU (X : Cx) (scope : Scope) (tg : Expr) : TG := fun v σ H P => ∀ s0 H0 C cl fp, tSemG (X.blk s0 H0 scope (compEnvC scope cl C X.env) fp) tg v σ H P
def eU (X : Cx) (scope : Scope) (e : Expr) : TE := fun σ H P => ∀ s0 H0 C cl fp, tSem (X.blk s0 H0 scope (compEnvC scope cl C X.env) fp) e σ H P
def cU (X : Cx) (scope : Scope) (e : Expr) : TT := fun σ H P => ∀ s0 H0 C cl fp, tSemT (X.blk s0 H0 scope (compEnvC scope cl C X.env) fp) e σ H P
theorem pg_U {s0 H0 C cl fp} : PG (X.blk s0 H0 scope (compEnvC scope cl C X.env) fp) tg (gU X scope tg) := ⟨fun pins s _ _ _ u _ I r h => h s0 H0 C cl fp pins s u I r⟩
theorem pe_U {s0 H0 C cl fp} : PE (X.blk s0 H0 scope (compEnvC scope cl C X.env) fp) elt (eU X scope elt) := ⟨fun pins s _ _ _ I h => h s0 H0 C cl fp pins s I⟩
theorem pt_U {s0 H0 C cl fp} : PT (X.blk s0 H0 scope (compEnvC scope cl C X.env) fp) c (cU X scope c) := ⟨fun pins s _ _ _ I h => h s0 H0 C cl fp pins s I⟩
theorem rung_U {is : List Nat} {g : VG} (h : ∀ s0 H0 C cl fp, PWG (X.blk s0 H0 scope (compEnvC scope cl C X.env) fp) Φ tg is g) : RunG X.K Φ (gU X scope tg) is g := ⟨fun d ρ Q Hk T σ H v P q r hh p s0 H0 C cl fp => (h s0 H0 C cl fp).run.run d ρ Q Hk T σ H v P q r hh p⟩
theorem rune_U {te : VE} (h : ∀ s0 H0 C cl fp, PWE (X.blk s0 H0 scope (compEnvC scope cl C X.env) fp) Φ elt te) : RunE X.K Φ (eU X scope elt) te := ⟨fun ρ Q Hk T σ H P q hh p s0 H0 C cl fp => (h s0 H0 C cl fp).run ρ Q Hk T σ H P q hh p⟩
theorem runt_U {tt : VT} (h : ∀ s0 H0 C cl fp, PWT (X.blk s0 H0 scope (compEnvC scope cl C X.env) fp) Φ c tt) : RunT X.K Φ (cU X scope c) tt := ⟨fun ρ Q Hk T σ H P q hh p s0 H0 C cl fp => (h s0 H0 C cl fp).run ρ Q Hk T σ H P q hh p⟩
variable {it : VI} {is : List Nat} {g : VG} {te : VE} {tt : VT}
theorem pe_lc0 (hc : X.calm = true) (hN : X.N.Nodup) (ok : BlkOk X.N X.env.scope scope own) (hs : ∀ x, foldedSetIterable iter X.env x = pure x := by intro _; rfl) :
    PE X (.ListComp elt [⟨tg, iter, [], 0⟩] scope pos) (tLc (tSemI X tg iter) (gU X scope tg) tYes (eU X scope elt) (own.map (·.2))) :=
  pe_lc hc hN pi_sem ok (fun _ _ _ _ _ => pg_U) (fun _ _ _ _ _ => pts_nil) (fun _ _ _ _ _ => pe_U) hs
theorem pe_lc1 (hc : X.calm = true) (hN : X.N.Nodup) (ok : BlkOk X.N X.env.scope scope own) (hs : ∀ x, foldedSetIterable iter X.env x = pure x := by intro _; rfl) :
    PE X (.ListComp elt [⟨tg, iter, [c], 0⟩] scope pos) (tLc (tSemI X tg iter) (gU X scope tg) (cU X scope c) (eU X scope elt) (own.map (·.2))) :=
  pe_lc hc hN pi_sem ok (fun _ _ _ _ _ => pg_U) (fun _ _ _ _ _ => pts_one pt_U) (fun _ _ _ _ _ => pe_U) hs
theorem run_lc0 (hi : PWI X Φ tg iter it) (hg : ∀ s0 H0 C cl fp, PWG (X.blk s0 H0 scope (compEnvC scope cl C X.env) fp) Φ tg is g) (he : ∀ s0 H0 C cl fp, PWE (X.blk s0 H0 scope (compEnvC scope cl C X.env) fp) Φ elt te) (his : ∀ j ∈ is, j ∈ own.map (·.2) := by decide) :
    RunE X.K Φ (tLc (tSemI X tg iter) (gU X scope tg) tYes (eU X scope elt) (own.map (·.2))) (vLc it g vYes te (own.map (·.2))) := run_lc hi (rung_U hg) runt_yes (rune_U he) his
theorem run_lc1 (hi : PWI X Φ tg iter it) (hg : ∀ s0 H0 C cl fp, PWG (X.blk s0 H0 scope (compEnvC scope cl C X.env) fp) Φ tg is g) (ht : ∀ s0 H0 C cl fp, PWT (X.blk s0 H0 scope (compEnvC scope cl C X.env) fp) Φ c tt) (he : ∀ s0 H0 C cl fp, PWE (X.blk s0 H0 scope (compEnvC scope cl C X.env) fp) Φ elt te) (his : ∀ j ∈ is, j ∈ own.map (·.2) := by decide) :
    RunE X.K Φ (tLc (tSemI X tg iter) (gU X scope tg) (cU X scope c) (eU X scope elt) (own.map (·.2))) (vLc it g tt te (own.map (·.2))) := run_lc hi (rung_U hg) (runt_U ht) (rune_U he) his
end
end WL

set_option Elab.async false
set_option linter.all false
set_option maxRecDepth 100000
set_option maxHeartbeats 4000000
/-! W4: calls, a def's promise. -/
namespace WL
open PySem PySem.Spec PyProof.Rows L2
variable [TBs]

/-- arguments behind a call: what was shared is as it was, what was lent may have changed -/
inductive KpA : List Slot → List Slot → Prop
  | nil : KpA [] []
  | sh {d as bs} (t : KpA as bs) : KpA (.sh d :: as) (.sh d :: bs)
  | ow {o o' as bs} (t : KpA as bs) : KpA (.ow true o :: as) (.ow true o' :: bs)
/-- a def's promise over values: its arguments, what is wanted of the result and the arguments behind, what of an exception -/
abbrev VSp := List Slot → (Slot → List Slot → Prop) → (Value → List (Str × D) → List Slot → Prop) → Prop
inductive RepX (K : PySem.W.Frag) (H : Hp) : List (Str × V) → List (Str × D) → Prop
  | nil : RepX K H [] []
  | cons {k v d vs ds} (h : Rep K H v d) (t : RepX K H vs ds) : RepX K H ((k, v) :: vs) ((k, d) :: ds)
theorem RepX.mono {K : PySem.W.Frag} {H H' : Hp} (e : Same H H') : ∀ {vs : List (Str × V)} {ds : List (Str × D)}, RepX K H vs ds → RepX K H' vs ds
  | _, _, .nil => .nil
  | _, _, .cons h t => .cons (h.mono e) (RepX.mono e t)
/-- an exception's own fields -/
def ExAt (K : PySem.W.Frag) (Hk : Hp) (d : Option Addr) (fs : List (Str × D)) : Prop := fs = [] ∨ ∃ a vs, d = some a ∧ Hk a = some (.xd vs) ∧ RepX K Hk vs fs
theorem ExAt.mono {K : PySem.W.Frag} {Hk Hk' : Hp} {d : Option Addr} {fs : List (Str × D)} (h : ExAt K Hk d fs) (e : Same Hk Hk') : ExAt K Hk' d fs := by
  rcases h with h | ⟨a, vs, h1, h2, h3⟩
  · exact .inl h
  · exact .inr ⟨a, vs, h1, e _ _ h2, h3.mono e⟩
def spV (K : PySem.W.Frag) (SS : VSp) : Sp := fun vs H Q E => ∃ Hk ρs T R RX, ρs.length = vs.length ∧ KpA ρs ρs ∧ HL K Hk H ((vs.map some).zip ρs ++ T) ∧ SS ρs R RX ∧
  (∀ v H' Hk' ρs' r, Same Hk Hk' → KpA ρs ρs' → HL K Hk' H' ((some v, r) :: ((vs.map some).zip ρs' ++ T)) → R r ρs' → Q v H') ∧
  ∀ cls d fs H' Hk' ρs', Same Hk Hk' → KpA ρs ρs' → HL K Hk' H' ((vs.map some).zip ρs' ++ T) → ExAt K Hk' d fs → RX cls fs ρs' → E cls d H'
/-- what may be let out here -/
def WΦ (K : PySem.W.Frag) (Φ : Fr) : WX := fun cls d σ H => ∃ Hk ρ fs, Holds K Φ Hk ρ [] σ H ∧ ExAt K Hk d fs ∧ Φ.EX cls fs ρ
def Tk (X : Cx) (Φ : Fr) : Prop := Takes X (WΦ X.K Φ)

def lendS : Rho → List Arg → Option (List Slot)
  | _, [] => some []
  | ρ, .val (.sh d) :: as => (lendS ρ as).map (Slot.sh d :: ·)
  | ρ, .val (.ow _ o) :: as => (lendS ρ as).map (Slot.ow true o :: ·)
  | _, .val .un :: _ => none
  | _, .val (.rw _ _) :: _ => none
  | _, .val (.ks _) :: _ => none
  | ρ, .pk i :: as => match ρ[i]? with
    | some (.sh d) => (lendS ρ as).map (Slot.sh d :: ·)
    | some (.ow _ o) => (lendS (ρ.set i .un) as).map (Slot.ow true o :: ·)
    | _ => none
def lendR : Rho → List Arg → Rho
  | ρ, [] => ρ
  | ρ, .val _ :: as => lendR ρ as
  | ρ, .pk i :: as => match ρ[i]? with
    | some (.ow _ _) => lendR (ρ.set i .un) as
    | _ => lendR ρ as
def backS (b : Bool) : Slot → Slot
  | .ow _ o => .ow b o
  | s => s
def takeBack : Rho → List Arg → List Slot → Rho
  | ρ, .val _ :: as, _ :: ss => takeBack ρ as ss
  | ρ, .pk i :: as, s' :: ss => match ρ[i]? with
    | some (.ow b _) => (takeBack (ρ.set i .un) as ss).set i (backS b s')
    | _ => takeBack ρ as ss
  | ρ, _, _ => ρ

section
variable {K : PySem.W.Frag} {Φ : Fr} {Hk Hk' H H' : Hp} {σ : L2.St}
theorem HL.relab {x : Option V} {b b' : Bool} {o : Own} {L : List Cell} (h : HL K Hk H ((x, .ow b o) :: L)) : HL K Hk H ((x, .ow b' o) :: L) := by
  obtain ⟨F, hc, hn, hk⟩ := h.cells
  cases hc with
  | cons h1 t =>
    cases h1 with
    | ow r => exact ⟨h.ex, h.tb, _, .cons (.ow r) t, hn, hk⟩
theorem HL.drop {L : List Cell} : ∀ {C : List Cell}, HL K Hk H (C ++ L) → HL K Hk H L
  | [], h => h
  | _ :: C, h => HL.drop (C := C) h.tail
theorem HL.mid {c : Cell} {C L : List Cell} (h : HL K Hk H (C ++ c :: L)) : HL K Hk H (c :: (C ++ L)) := h.perm List.perm_middle
theorem HL.unmid {c : Cell} {C L : List Cell} (h : HL K Hk H (c :: (C ++ L))) : HL K Hk H (C ++ c :: L) := h.perm List.perm_middle.symm
theorem argsAt_ok {as : List Arg} {vs : List V} {ts : List Cell} (ha : ArgsAt σ as vs ts) : ∀ {ρ : Rho} {T C : List Cell} {ρs : List Slot}, ρ.length = σ.length → HL K Hk H (C ++ (σ.zip ρ ++ (ts ++ T))) → lendS ρ as = some ρs →
    HL K Hk H (C ++ ((vs.map some).zip ρs ++ (σ.zip (lendR ρ as) ++ T))) ∧ ρs.length = vs.length ∧ KpA ρs ρs := by
  induction ha with
  | nil =>
    intro ρ T C ρs hl h e
    cases e
    exact ⟨h, rfl, .nil⟩
  | cons hd t ih =>
    rename_i a v ta as vs us
    intro ρ T C ρs hl h e
    cases hd with
    | val =>
      rename_i s
      have h1 : HL K Hk H (((some v, s) :: C) ++ (σ.zip ρ ++ (us ++ T))) := by
        have h2 : HL K Hk H ((C ++ (σ.zip ρ ++ us)) ++ (some v, s) :: T) := by simpa [List.append_assoc] using h
        simpa [List.append_assoc] using h2.mid
      cases s with
      | un => cases e
      | rw kq rowsq => cases e
      | ks kq => cases e
      | sh d =>
        have e' : (lendS ρ as).map (Slot.sh d :: ·) = some ρs := e
        obtain ⟨r, hr, er⟩ := Option.map_eq_some_iff.mp e'
        subst er
        obtain ⟨g1, g2, g3⟩ := ih hl h1 hr
        exact ⟨HL.unmid g1, by simp [g2], .sh g3⟩
      | ow b o =>
        have e' : (lendS ρ as).map (Slot.ow true o :: ·) = some ρs := e
        obtain ⟨r, hr, er⟩ := Option.map_eq_some_iff.mp e'
        subst er
        obtain ⟨g1, g2, g3⟩ := ih (C := (some v, .ow true o) :: C) hl (HL.relab h1) hr
        exact ⟨HL.unmid g1, by simp [g2], .ow g3⟩
    | pk hv =>
      rename_i i
      have h0 : HL K Hk H (C ++ (σ.zip ρ ++ (us ++ T))) := by simpa using h
      cases hs : ρ[i]? with
      | none =>
        have e' : (match ρ[i]? with | some (.sh d) => (lendS ρ as).map (Slot.sh d :: ·) | some (.ow _ o) => (lendS (ρ.set i .un) as).map (Slot.ow true o :: ·) | _ => none) = some ρs := e
        rw [hs] at e'; cases e'
      | some s =>
        have e' : (match ρ[i]? with | some (.sh d) => (lendS ρ as).map (Slot.sh d :: ·) | some (.ow _ o) => (lendS (ρ.set i .un) as).map (Slot.ow true o :: ·) | _ => none) = some ρs := e
        rw [hs] at e'
        obtain ⟨R, z1, z2⟩ := zip_at hv hs
        cases s with
        | un => cases e'
        | rw kq rowsq => cases e'
        | ks kq => cases e'
        | sh d =>
          obtain ⟨r, hr, er⟩ := Option.map_eq_some_iff.mp e'
          subst er
          have hR : lendR ρ (.pk i :: as) = lendR ρ as := by
            show (match ρ[i]? with | some (.ow _ _) => lendR (ρ.set i .un) as | _ => lendR ρ as) = _
            rw [hs]
          have rep : Rep K Hk v d := by
            have q := (h0.perm (((z1.append_right (us ++ T)).append_left C))).mid
            obtain ⟨v', ev, r⟩ := HL.get_sh q
            cases ev; exact r
          obtain ⟨g1, g2, g3⟩ := ih (C := (some v, .sh d) :: C) hl (h0.sh rep) hr
          rw [hR]
          exact ⟨HL.unmid g1, by simp [g2], .sh g3⟩
        | ow b o =>
          obtain ⟨r, hr, er⟩ := Option.map_eq_some_iff.mp e'
          subst er
          have hR : lendR ρ (.pk i :: as) = lendR (ρ.set i .un) as := by
            show (match ρ[i]? with | some (.ow _ _) => lendR (ρ.set i .un) as | _ => lendR ρ as) = _
            rw [hs]
          have z3 := z2 (some v) .un
          rw [set_self hv] at z3
          have q : HL K Hk H ((some v, .ow b o) :: (C ++ (R ++ (us ++ T)))) := (h0.perm ((z1.append_right (us ++ T)).append_left C)).mid
          have q2 : HL K Hk H (((some v, .ow true o) :: C) ++ (σ.zip (ρ.set i .un) ++ (us ++ T))) := by
            have q3 : HL K Hk H ((some v, .un) :: ((some v, .ow true o) :: (C ++ (R ++ (us ++ T))))) := q.relab.un
            have q4 : HL K Hk H ((((some v, .ow true o) :: C)) ++ ((some v, .un) :: (R ++ (us ++ T)))) := HL.unmid (C := (some v, .ow true o) :: C) (by simpa using q3)
            exact q4.perm ((z3.append_right (us ++ T)).symm.append_left _)
          obtain ⟨g1, g2, g3⟩ := ih (by simpa using hl) q2 hr
          rw [hR]
          exact ⟨HL.unmid g1, by simp [g2], .ow g3⟩
theorem takeBack_len : ∀ (as : List Arg) (ρ : Rho) (ss : List Slot), (takeBack ρ as ss).length = ρ.length
  | [], ρ, ss => by cases ss <;> rfl
  | .val _ :: as, ρ, [] => rfl
  | .val _ :: as, ρ, _ :: ss => takeBack_len as ρ ss
  | .pk _ :: as, ρ, [] => rfl
  | .pk i :: as, ρ, s :: ss => by
    show (match ρ[i]? with | some (.ow b _) => (takeBack (ρ.set i .un) as ss).set i (backS b s) | _ => takeBack ρ as ss).length = ρ.length
    split
    · rw [List.length_set, takeBack_len as, List.length_set]
    · exact takeBack_len as ρ ss
theorem takeBack_un {i : Nat} : ∀ (as : List Arg) (ρ : Rho) (ss ρs : List Slot), ρ[i]? = some Slot.un → lendS ρ as = some ρs → (takeBack ρ as ss)[i]? = some Slot.un
  | [], ρ, ss, ρs, h, e => by cases ss <;> exact h
  | .val _ :: as, ρ, [], ρs, h, e => h
  | .val s :: as, ρ, _ :: ss, ρs, h, e => by
    cases s with
    | un => cases e
    | rw kq rowsq => cases e
    | ks kq => cases e
    | sh d => obtain ⟨r, hr, _⟩ := Option.map_eq_some_iff.mp (show (lendS ρ as).map (Slot.sh d :: ·) = some ρs from e); exact takeBack_un as ρ ss r h hr
    | ow b o => obtain ⟨r, hr, _⟩ := Option.map_eq_some_iff.mp (show (lendS ρ as).map (Slot.ow true o :: ·) = some ρs from e); exact takeBack_un as ρ ss r h hr
  | .pk _ :: as, ρ, [], ρs, h, e => h
  | .pk j :: as, ρ, s :: ss, ρs, h, e => by
    have e' : (match ρ[j]? with | some (.sh d) => (lendS ρ as).map (Slot.sh d :: ·) | some (.ow _ o) => (lendS (ρ.set j .un) as).map (Slot.ow true o :: ·) | _ => none) = some ρs := e
    show (match ρ[j]? with | some (.ow b _) => (takeBack (ρ.set j .un) as ss).set j (backS b s) | _ => takeBack ρ as ss)[i]? = _
    cases hs : ρ[j]? with
    | none => rw [hs] at e'; cases e'
    | some t =>
      rw [hs] at e'
      cases t with
      | un => cases e'
      | rw kq rowsq => cases e'
      | ks kq => cases e'
      | sh d => obtain ⟨r, hr, _⟩ := Option.map_eq_some_iff.mp e'; exact takeBack_un as ρ ss r h hr
      | ow b o =>
        obtain ⟨r, hr, _⟩ := Option.map_eq_some_iff.mp e'
        have hji : j ≠ i := fun z => by subst z; rw [h] at hs; cases hs
        show ((takeBack (ρ.set j .un) as ss).set j (backS b s))[i]? = _
        rw [List.getElem?_set_ne hji]
        exact takeBack_un as _ ss r (by rw [List.getElem?_set_ne hji]; exact h) hr
theorem takeBack_kp {j : Nat} {o : Own} : ∀ (as : List Arg) (ρ : Rho) (ρs ss : List Slot), ρ[j]? = some (Slot.ow true o) → lendS ρ as = some ρs → KpA ρs ss → ∃ o', (takeBack ρ as ss)[j]? = some (Slot.ow true o')
  | [], ρ, ρs, ss, h, e, k => by cases ss <;> exact ⟨o, h⟩
  | .val s :: as, ρ, ρs, ss, h, e, k => by
    cases s with
    | un => cases e
    | rw kq rowsq => cases e
    | ks kq => cases e
    | sh d =>
      obtain ⟨r, hr, er⟩ := Option.map_eq_some_iff.mp (show (lendS ρ as).map (Slot.sh d :: ·) = some ρs from e)
      subst er
      cases k with | sh k => exact takeBack_kp as ρ r _ h hr k
    | ow b o =>
      obtain ⟨r, hr, er⟩ := Option.map_eq_some_iff.mp (show (lendS ρ as).map (Slot.ow true o :: ·) = some ρs from e)
      subst er
      cases k with | ow k => exact takeBack_kp as ρ r _ h hr k
  | .pk i :: as, ρ, ρs, ss, h, e, k => by
    have e' : (match ρ[i]? with | some (.sh d) => (lendS ρ as).map (Slot.sh d :: ·) | some (.ow _ o) => (lendS (ρ.set i .un) as).map (Slot.ow true o :: ·) | _ => none) = some ρs := e
    cases hs : ρ[i]? with
    | none => rw [hs] at e'; cases e'
    | some t =>
      rw [hs] at e'
      cases t with
      | un => cases e'
      | rw kq rowsq => cases e'
      | ks kq => cases e'
      | sh d =>
        obtain ⟨r, hr, er⟩ := Option.map_eq_some_iff.mp e'
        subst er
        cases k with
        | sh k =>
          rename_i bs
          show ∃ o', (match ρ[i]? with | some (.ow b _) => (takeBack (ρ.set i .un) as bs).set i (backS b (.sh d)) | _ => takeBack ρ as bs)[j]? = some (Slot.ow true o')
          rw [hs]
          exact takeBack_kp as ρ r _ h hr k
      | ow b o1 =>
        obtain ⟨r, hr, er⟩ := Option.map_eq_some_iff.mp e'
        subst er
        cases k with
        | ow k =>
          rename_i o' bs
          show ∃ o2, (match ρ[i]? with | some (.ow b _) => (takeBack (ρ.set i .un) as bs).set i (backS b (.ow true o')) | _ => takeBack ρ as bs)[j]? = some (Slot.ow true o2)
          rw [hs]
          by_cases hij : i = j
          · subst hij
            rw [h] at hs; cases hs
            refine ⟨o', ?_⟩
            show ((takeBack (ρ.set i .un) as bs).set i (Slot.ow true o'))[i]? = _
            rw [List.getElem?_set_self]
            rw [takeBack_len, List.length_set]
            exact (List.getElem?_eq_some_iff.mp h).1
          · obtain ⟨o2, h2⟩ := takeBack_kp as (ρ.set i .un) r bs (by rw [List.getElem?_set_ne hij]; exact h) hr k
            refine ⟨o2, ?_⟩
            show ((takeBack (ρ.set i .un) as bs).set i (backS b _))[j]? = _
            rw [List.getElem?_set_ne hij]
            exact h2
theorem argsAt_back {as : List Arg} {vs : List V} {ts : List Cell} (ha : ArgsAt σ as vs ts) : ∀ {ρ : Rho} {T C : List Cell} {ρs ss : List Slot}, ρ.length = σ.length → lendS ρ as = some ρs → KpA ρs ss →
    HL K Hk' H' (C ++ ((vs.map some).zip ss ++ (σ.zip (lendR ρ as) ++ T))) → HL K Hk' H' (C ++ (σ.zip (takeBack ρ as ss) ++ T)) := by
  induction ha with
  | nil =>
    intro ρ T C ρs ss hl e k h
    cases e
    cases k
    exact h
  | cons hd t ih =>
    rename_i a v ta as vs us
    intro ρ T C ρs ss hl e k h
    cases hd with
    | val =>
      rename_i s
      cases s with
      | un => cases e
      | rw kq rowsq => cases e
      | ks kq => cases e
      | sh d =>
        obtain ⟨r, hr, er⟩ := Option.map_eq_some_iff.mp (show (lendS ρ as).map (Slot.sh d :: ·) = some ρs from e)
        subst er
        cases k with
        | sh k =>
          have h1 : HL K Hk' H' (C ++ ((some v, .sh d) :: ((vs.map some).zip _ ++ (σ.zip (lendR ρ as) ++ T)))) := h
          exact ih hl hr k h1.mid.tail
      | ow b o =>
        obtain ⟨r, hr, er⟩ := Option.map_eq_some_iff.mp (show (lendS ρ as).map (Slot.ow true o :: ·) = some ρs from e)
        subst er
        cases k with
        | ow k =>
          have h1 : HL K Hk' H' (C ++ ((some v, .ow true _) :: ((vs.map some).zip _ ++ (σ.zip (lendR ρ as) ++ T)))) := h
          exact ih hl hr k h1.mid.tail
    | pk hv =>
      rename_i i
      have e' : (match ρ[i]? with | some (.sh d) => (lendS ρ as).map (Slot.sh d :: ·) | some (.ow _ o) => (lendS (ρ.set i .un) as).map (Slot.ow true o :: ·) | _ => none) = some ρs := e
      cases hs : ρ[i]? with
      | none => rw [hs] at e'; cases e'
      | some s =>
        rw [hs] at e'
        cases s with
        | un => cases e'
        | rw kq rowsq => cases e'
        | ks kq => cases e'
        | sh d =>
          obtain ⟨r, hr, er⟩ := Option.map_eq_some_iff.mp e'
          subst er
          have hR : lendR ρ (.pk i :: as) = lendR ρ as := by
            show (match ρ[i]? with | some (.ow _ _) => lendR (ρ.set i .un) as | _ => lendR ρ as) = _
            rw [hs]
          cases k with
          | sh k =>
            rename_i bs
            rw [hR] at h
            have hB : takeBack ρ (.pk i :: as) (.sh d :: bs) = takeBack ρ as bs := by
              show (match ρ[i]? with | some (.ow b _) => (takeBack (ρ.set i .un) as bs).set i (backS b _) | _ => takeBack ρ as bs) = _
              rw [hs]
            rw [hB]
            have h1 : HL K Hk' H' (C ++ ((some v, .sh d) :: ((vs.map some).zip bs ++ (σ.zip (lendR ρ as) ++ T)))) := h
            exact ih hl hr k h1.mid.tail
        | ow b o =>
          obtain ⟨r, hr, er⟩ := Option.map_eq_some_iff.mp e'
          subst er
          have hR : lendR ρ (.pk i :: as) = lendR (ρ.set i .un) as := by
            show (match ρ[i]? with | some (.ow _ _) => lendR (ρ.set i .un) as | _ => lendR ρ as) = _
            rw [hs]
          cases k with
          | ow k =>
            rename_i o' bs
            rw [hR] at h
            have hB : takeBack ρ (.pk i :: as) (.ow true o' :: bs) = (takeBack (ρ.set i .un) as bs).set i (.ow b o') := by
              show (match ρ[i]? with | some (.ow b _) => (takeBack (ρ.set i .un) as bs).set i (backS b _) | _ => takeBack ρ as bs) = _
              rw [hs]; rfl
            rw [hB]
            have h1 : HL K Hk' H' (C ++ ((some v, .ow true o') :: ((vs.map some).zip bs ++ (σ.zip (lendR (ρ.set i .un) as) ++ T)))) := h
            have h2 := ih (C := (some v, .ow b o') :: C) (by simpa using hl) hr k h1.mid.relab
            have hi : i < ρ.length := (List.getElem?_eq_some_iff.mp hs).1
            have u : (takeBack (ρ.set i .un) as bs)[i]? = some Slot.un := takeBack_un as _ bs r (by rw [List.getElem?_set_self hi]) hr
            obtain ⟨R, z1, z2⟩ := zip_at hv u
            have z3 := z2 (some v) (.ow b o')
            rw [set_self hv] at z3
            have q : HL K Hk' H' ((some v, .un) :: (((some v, .ow b o') :: C) ++ (R ++ T))) := (h2.perm ((z1.append_right T).append_left _)).mid
            have q1 : HL K Hk' H' (C ++ ((some v, .ow b o') :: (R ++ T))) := HL.unmid (by simpa using q.tail)
            exact q1.perm ((z3.append_right T).symm.append_left C)
end

/-- a call -/
def vCall (SS : VSp) (ta : VA) : VE := fun ρ Q => ta ρ fun as ρ1 => ∃ ρs, lendS ρ1 as = some ρs ∧ SS ρs (fun r ss => Q r (takeBack ρ1 as ss)) fun _ _ _ => False
theorem run_call {X : Cx} {Φ : Fr} {SS : VSp} {es : List Expr} {tas : VA} {E : L2.St → XK} (ha : PWA X Φ es tas) : RunE X.K Φ (tCallSD (spV X.K SS) [] E (tSemA X es)) (vCall SS tas) := ⟨fun ρ Q Hk T σ H P q hh p =>
  ha.run ρ _ Hk T σ H _ q hh fun vs H1 Hk1 ρ1 as ts e1 has h1 k1 ⟨ρs, hl, q1⟩ => by
    obtain ⟨g1, g2, g3⟩ := argsAt_ok (T := T ++ Φ.T0) (C := []) has h1.len (by have := h1.hl; rw [List.append_assoc] at this; simpa using this) hl
    show spV X.K SS (vs ++ []) H1 P (E σ)
    rw [List.append_nil]
    have kb : ∀ {ρs'}, KpA ρs ρs' → Kp σ ρ1 σ (takeBack ρ1 as ρs') := fun k2 j o x ej ex => ⟨ex, takeBack_kp as ρ1 ρs _ ej hl k2⟩
    refine ⟨Hk1, ρs, _, _, _, g2, g3, g1, q1, fun v H' Hk' ρs' r e2 k2 h2 q2 => ?_, fun _ _ _ _ _ _ _ _ _ _ z => z.elim⟩
    refine p v H' Hk' (takeBack ρ1 as ρs') r (e1.trans e2) ?_ (k1.trans (kb k2)) q2
    have b := argsAt_back (C := [(some v, r)]) has h1.len hl k2 h2
    refine ⟨by rw [takeBack_len]; exact h1.len, HL.unmid (C := σ.zip (takeBack ρ1 as ρs')) (by simpa using b), h1.ex0.trans e2, h1.kp0.trans (kb k2)⟩⟩
/-- a call that may raise -/
def vCallX (EX : Value → List (Str × D) → Rho → Prop) (SS : VSp) (ta : VA) : VE := fun ρ Q => ta ρ fun as ρ1 => ∃ ρs, lendS ρ1 as = some ρs ∧ SS ρs (fun r ss => Q r (takeBack ρ1 as ss)) fun cls fs ss => EX cls fs (takeBack ρ1 as ss)
theorem run_callX {X : Cx} {Φ : Fr} {SS : VSp} {es : List Expr} {tas : VA} (ha : PWA X Φ es tas) : RunE X.K Φ (tCallSD (spV X.K SS) [] (WE (WΦ X.K Φ)) (tSemA X es)) (vCallX Φ.EX SS tas) := ⟨fun ρ Q Hk T σ H P q hh p =>
  ha.run ρ _ Hk T σ H _ q hh fun vs H1 Hk1 ρ1 as ts e1 has h1 k1 ⟨ρs, hl, q1⟩ => by
    obtain ⟨g1, g2, g3⟩ := argsAt_ok (T := T ++ Φ.T0) (C := []) has h1.len (by have := h1.hl; rw [List.append_assoc] at this; simpa using this) hl
    show spV X.K SS (vs ++ []) H1 P (WE (WΦ X.K Φ) σ)
    rw [List.append_nil]
    have kb : ∀ {ρs'}, KpA ρs ρs' → Kp σ ρ1 σ (takeBack ρ1 as ρs') := fun k2 j o x ej ex => ⟨ex, takeBack_kp as ρ1 ρs _ ej hl k2⟩
    refine ⟨Hk1, ρs, _, _, _, g2, g3, g1, q1, fun v H' Hk' ρs' r e2 k2 h2 q2 => ?_, fun cls d fs H' Hk' ρs' e2 k2 h2 xa q2 => ?_⟩
    · refine p v H' Hk' (takeBack ρ1 as ρs') r (e1.trans e2) ?_ (k1.trans (kb k2)) q2
      have b := argsAt_back (C := [(some v, r)]) has h1.len hl k2 h2
      exact ⟨by rw [takeBack_len]; exact h1.len, HL.unmid (C := σ.zip (takeBack ρ1 as ρs')) (by simpa using b), h1.ex0.trans e2, h1.kp0.trans (kb k2)⟩
    · have b := argsAt_back (C := []) has h1.len hl k2 h2
      have hX : Holds X.K Φ Hk' (takeBack ρ1 as ρs') T σ H' := ⟨by rw [takeBack_len]; exact h1.len, by simpa using b, h1.ex0.trans e2, h1.kp0.trans (kb k2)⟩
      exact ⟨Hk', _, fs, (Holds.drop (ts := T) (T := []) (by rw [List.append_nil]; exact hX)), xa, q2⟩⟩

/-! ### a def keeps its promise -/
/-- the arguments as they are at the end -/
def fin : List Slot → Rho → List Slot
  | [], _ => []
  | .ow true _ :: as, b :: bs => b :: fin as bs
  | a :: as, _ :: bs => a :: fin as bs
  | as, [] => as
section
variable {K : PySem.W.Frag} {Φ : Fr} {Hk Hk' H H' : Hp}
theorem fin_kp : ∀ {ρs ρs' : List Slot} {ρ' : Rho}, KpA ρs ρs' → (∀ (i : Nat) (o : Own), ρs[i]? = some (Slot.ow true o) → ∃ o', ρ'[i]? = some (Slot.ow true o')) → KpA ρs (fin ρs ρ')
  | _, _, ρ', .nil, _ => by cases ρ' <;> exact .nil
  | .sh d :: as, .sh _ :: bs, [], .sh t, h => by
    show KpA _ (.sh d :: as)
    have : ∀ {as bs : List Slot}, KpA as bs → (∀ (i : Nat) (o : Own), as[i]? = some (Slot.ow true o) → ∃ o', ([] : Rho)[i]? = some (Slot.ow true o')) → KpA as as := by
      intro as bs k
      induction k with
      | nil => intro _; exact .nil
      | sh t ih => intro h; exact .sh (ih fun i o e => h (i + 1) o (by simpa using e))
      | ow t ih => intro h; obtain ⟨_, z⟩ := h 0 _ rfl; simp at z
    exact .sh (this t fun i o e => h (i + 1) o (by simpa using e))
  | .sh d :: as, .sh _ :: bs, b :: ρ', .sh t, h => .sh (fin_kp t fun i o e => by simpa using h (i + 1) o (by simpa using e))
  | .ow true o :: as, .ow true _ :: bs, [], .ow t, h => by obtain ⟨_, z⟩ := h 0 o (by simp); simp at z
  | .ow true o :: as, .ow true _ :: bs, b :: ρ', .ow t, h => by
    obtain ⟨o', z⟩ := h 0 o (by simp)
    have z' : b = .ow true o' := by simpa using z
    subst z'
    exact .ow (fin_kp t fun i o e => by simpa using h (i + 1) o (by simpa using e))
theorem fin_hl : ∀ {ρs : List Slot} {vs : List V} {σ' : L2.St} {ρ' : Rho} {L C : List Cell}, KpA ρs ρs → ρs.length = vs.length → ρ'.length = σ'.length →
    (∀ (i : Nat) (o : Own) (v : V), ρs[i]? = some (Slot.ow true o) → vs[i]? = some v → σ'[i]? = some (some v) ∧ ∃ o', ρ'[i]? = some (Slot.ow true o')) → (∀ (i : Nat) (d : D) (v : V), ρs[i]? = some (Slot.sh d) → vs[i]? = some v → Rep K Hk v d) →
    HL K Hk H (C ++ (σ'.zip ρ' ++ L)) → HL K Hk H (C ++ ((vs.map some).zip (fin ρs ρ') ++ L))
  | [], [], σ', ρ', L, C, _, _, _, _, _, h => by
    have : fin [] ρ' = [] := by cases ρ' <;> rfl
    rw [this]
    show HL K Hk H (C ++ L)
    have h1 : HL K Hk H (σ'.zip ρ' ++ (C ++ L)) := h.perm (by
      rw [← List.append_assoc, ← List.append_assoc]
      exact List.perm_append_comm.append_right L)
    exact h1.drop
  | .sh d :: as, v :: vs, σ', ρ', L, C, .sh k, hl, hlen, ho, hs, h => by
    have r := hs 0 d v (by simp) (by simp)
    cases ρ' with
    | nil =>
      have hσ : σ' = [] := List.length_eq_zero_iff.mp (by rw [← hlen]; rfl)
      subst hσ
      have noow : ∀ (i : Nat) (o : Own), as[i]? ≠ some (Slot.ow true o) := fun i o e => by
        have hi : i < vs.length := by have := (List.getElem?_eq_some_iff.mp e).1; simp at hl; omega
        obtain ⟨z, _⟩ := ho (i + 1) o vs[i] (by simpa using e) (by simp [hi])
        simp at z
      have ih := fin_hl (ρs := as) (vs := vs) (σ' := []) (ρ' := []) (L := L) (C := (some v, .sh d) :: C) k (by simpa using hl) rfl (fun i o x e _ => absurd e (noow i o)) (fun i d x e e2 => hs (i + 1) d x (by simpa using e) (by simpa using e2)) (h.sh r)
      have hf : fin as [] = as := by cases as with
        | nil => rfl
        | cons a t => cases k with
          | sh _ => rfl
          | ow _ => exact absurd rfl (noow 0 _)
      rw [hf] at ih
      show HL K Hk H (C ++ (((v :: vs).map some).zip (.sh d :: as) ++ L))
      exact HL.unmid ih
    | cons b ρ' =>
      cases σ' with
      | nil => simp at hlen
      | cons x σ' =>
        have h1 : HL K Hk H (C ++ ((x, b) :: (σ'.zip ρ' ++ L))) := h
        have ih := fin_hl (ρs := as) (vs := vs) (σ' := σ') (ρ' := ρ') (L := L) (C := (some v, .sh d) :: C) k (by simpa using hl) (by simpa using hlen)
          (fun i o y e e2 => by simpa using ho (i + 1) o y (by simpa using e) (by simpa using e2)) (fun i d y e e2 => hs (i + 1) d y (by simpa using e) (by simpa using e2)) (h1.mid.tail.sh r)
        exact HL.unmid ih
  | .ow true o :: as, v :: vs, σ', ρ', L, C, .ow k, hl, hlen, ho, hs, h => by
    obtain ⟨e1, o', e2⟩ := ho 0 o v (by simp) (by simp)
    cases ρ' with
    | nil => simp at e2
    | cons b ρ' =>
      cases σ' with
      | nil => simp at e1
      | cons x σ' =>
        have eb : b = .ow true o' := by simpa using e2
        have ex : x = some v := by simpa using e1
        subst eb; subst ex
        have h1 : HL K Hk H (C ++ ((some v, .ow true o') :: (σ'.zip ρ' ++ L))) := h
        have ih := fin_hl (ρs := as) (vs := vs) (σ' := σ') (ρ' := ρ') (L := L) (C := (some v, .ow true o') :: C) k (by simpa using hl) (by simpa using hlen)
          (fun i o y e e2 => by simpa using ho (i + 1) o y (by simpa using e) (by simpa using e2)) (fun i d y e e2 => hs (i + 1) d y (by simpa using e) (by simpa using e2)) h1.mid
        exact HL.unmid ih
end
def uns : Nat → Rho
  | 0 => []
  | n + 1 => .un :: uns n
theorem uns_len : ∀ n, (uns n).length = n
  | 0 => rfl
  | n + 1 => by simp [uns, uns_len n]
section
variable {P : Program} {w : World} {K : PySem.W.Frag} {mg : Str → Option Value} {base : Heap}
theorem uns_hl {Hk H : Hp} {L : List Cell} : ∀ (n : Nat), HL K Hk H L → HL K Hk H ((List.replicate n (none : Option V)).zip (uns n) ++ L)
  | 0, h => h
  | n + 1, h => (uns_hl n h).un
/-- the frame of a run that begins with these arguments and n more names -/
def frW (Hk : Hp) (T : List Cell) (vs : List V) (ρs : List Slot) (RX : Value → List (Str × D) → List Slot → Prop) (n : Nat) : Fr := ⟨T, Hk, vs.map some ++ List.replicate n none, ρs ++ uns n, fun cls fs ρ' => RX cls fs (fin ρs ρ')⟩
theorem start_w {Hk H : Hp} {ρs : List Slot} {T : List Cell} {vs : List V} {R : Slot → List Slot → Prop} {RX : Value → List (Str × D) → List Slot → Prop} {Q : VK} {E : XK} (n : Nat) (hl : ρs.length = vs.length) (hk : KpA ρs ρs) (hh : HL K Hk H ((vs.map some).zip ρs ++ T))
    (fin' : ∀ v H' Hk' ρs' r, Same Hk Hk' → KpA ρs ρs' → HL K Hk' H' ((some v, r) :: ((vs.map some).zip ρs' ++ T)) → R r ρs' → Q v H')
    (finX : ∀ cls d fs H' Hk' ρs', Same Hk Hk' → KpA ρs ρs' → HL K Hk' H' ((vs.map some).zip ρs' ++ T) → ExAt K Hk' d fs → RX cls fs ρs' → E cls d H') :
    Holds K (frW Hk T vs ρs RX n) Hk (ρs ++ uns n) [] (vs.map some ++ List.replicate n none) H ∧
    (∀ v σ' H' Hk' ρ' r, Same Hk Hk' → Holds K (frW Hk T vs ρs RX n) Hk' ρ' ((some v, r) :: []) σ' H' → Kp (vs.map some ++ List.replicate n none) (ρs ++ uns n) σ' ρ' → R r (fin ρs ρ') → Q v H') ∧
    ∀ cls d σ' H', WΦ K (frW Hk T vs ρs RX n) cls d σ' H' → E cls d H' := by
  have h0 : Holds K (frW Hk T vs ρs RX n) Hk (ρs ++ uns n) [] (vs.map some ++ List.replicate n none) H := by
    refine ⟨by simp [uns_len, hl], ?_, .refl _, .refl _ _⟩
    show HL K Hk H ((vs.map some ++ List.replicate n none).zip (ρs ++ uns n) ++ T)
    rw [List.zip_append (by simp [hl])]
    rw [List.append_assoc]
    have h1 : HL K Hk H ((List.replicate n (none : Option V)).zip (uns n) ++ ((vs.map some).zip ρs ++ T)) := uns_hl _ hh
    refine h1.perm ?_
    rw [← List.append_assoc, ← List.append_assoc]
    exact List.perm_append_comm.append_right T
  have shs : ∀ (i : Nat) (d : D) (v : V), ρs[i]? = some (Slot.sh d) → vs[i]? = some v → Rep K Hk v d := fun i d v e1 e2 => by
    have hi : i < ρs.length := (List.getElem?_eq_some_iff.mp e1).1
    have e3 : (ρs ++ uns n)[i]? = some (Slot.sh d) := by rw [List.getElem?_append_left hi]; exact e1
    obtain ⟨v', e4, r⟩ := h0.get_sh e3
    have e5 : (vs.map some ++ List.replicate n none)[i]? = some (some v) := by rw [List.getElem?_append_left (by simp; omega), List.getElem?_map, e2]; rfl
    rw [e5] at e4; cases e4; exact r
  have ows : ∀ {σ' : L2.St} {ρ' : Rho}, Kp (vs.map some ++ List.replicate n none) (ρs ++ uns n) σ' ρ' → ∀ (i : Nat) (o : Own) (v : V), ρs[i]? = some (Slot.ow true o) → vs[i]? = some v → σ'[i]? = some (some v) ∧ ∃ o', ρ'[i]? = some (Slot.ow true o') := fun k1 i o v e1 e2 => by
    have hi : i < ρs.length := (List.getElem?_eq_some_iff.mp e1).1
    exact k1 i o (some v) (by rw [List.getElem?_append_left hi]; exact e1) (by rw [List.getElem?_append_left (by simp; omega), List.getElem?_map, e2]; rfl)
  have kpf : ∀ {σ' : L2.St} {ρ' : Rho}, Kp (vs.map some ++ List.replicate n none) (ρs ++ uns n) σ' ρ' → KpA ρs (fin ρs ρ') := fun k1 => fin_kp hk fun i o e => by
    have hi : i < vs.length := by rw [← hl]; exact (List.getElem?_eq_some_iff.mp e).1
    exact (ows k1 i o vs[i] e (List.getElem?_eq_getElem hi)).2
  refine ⟨h0, fun v σ' H' Hk' ρ' r e1 h1 k1 q1 => ?_, fun cls d σ' H' ⟨Hk', ρ', fs, h1, xa, q1⟩ => ?_⟩
  · refine fin' v H' Hk' (fin ρs ρ') r e1 (kpf k1) ?_ q1
    have h2 : HL K Hk' H' ([(some v, r)] ++ (σ'.zip ρ' ++ T)) := HL.mid (C := σ'.zip ρ') h1.hl
    exact fin_hl hk hl h1.len (ows k1) (fun i d v e3 e4 => (shs i d v e3 e4).mono e1) h2
  · exact finX cls d fs H' Hk' (fin ρs ρ') h1.ex0 (kpf h1.kp0) (fin_hl (C := []) hk hl h1.len (ows h1.kp0) (fun i d v e3 e4 => (shs i d v e3 e4).mono h1.ex0) h1.hl) xa q1
/-- a def's body from the values' reading -/
theorem body_w {scope : Scope} {qual : Str} {body : List Stmt} {f : Addr} {N ps : List Str} {t : (Value → List (Str × D) → Rho → Prop) → VS} {cdv : Value} {A : Around} {outer : List Env} {s : Shared} {H Hk : Hp} {vs : List V} {Q : VK} {E : XK}
    {ρs : List Slot} {T : List Cell} {R : Slot → List Slot → Prop} {RX : Value → List (Str × D) → List Slot → Prop} (hl : ρs.length = vs.length) (hn : ρs.length = ps.length) (hk : KpA ρs ρs) (hh : HL K Hk H ((vs.map some).zip ρs ++ T))
    (fin' : ∀ v H' Hk' ρs' r, Same Hk Hk' → KpA ρs ρs' → HL K Hk' H' ((some v, r) :: ((vs.map some).zip ρs' ++ T)) → R r ρs' → Q v H')
    (finX : ∀ cls d fs H' Hk' ρs', Same Hk Hk' → KpA ρs ρs' → HL K Hk' H' ((vs.map some).zip ρs' ++ T) → ExAt K Hk' d fs → RX cls fs ρs' → E cls d H')
    (syn : ∀ Φ : Fr, Φ.Hk0 = Hk → Tk (cxOf (L2.CX P w) P w K mg base N qual scope f cdv A outer s H E) Φ → PWSs (cxOf (L2.CX P w) P w K mg base N qual scope f cdv A outer s H E) Φ body (t Φ.EX))
    (rd : t (fun cls fs ρ' => RX cls fs (fin ρs ρ')) { nx := fun ρ' => R (.sh .non) (fin ρs ρ'), rt := fun r ρ' => R r (fin ρs ρ') } (ρs ++ uns (N.length - ps.length))) :
    tSemSs (cxOf (L2.CX P w) P w K mg base N qual scope f cdv A outer s H E) body { nx := fun _ H' => Q .non H', rt := Q } (L2.start N vs) H := by
  have e0 : L2.start N vs = vs.map some ++ List.replicate (N.length - ps.length) none := by unfold L2.start; rw [← hl, hn]
  rw [e0]
  obtain ⟨h0, ends, wx⟩ := start_w (Q := Q) (E := E) (N.length - ps.length) hl hk hh fin' finX
  have tk : Tk (cxOf (L2.CX P w) P w K mg base N qual scope f cdv A outer s H E) (frW Hk T vs ρs RX (N.length - ps.length)) := (takes_of rfl rfl rfl rfl : Takes (cxOf (L2.CX P w) P w K mg base N qual scope f cdv A outer s H E) (fun cls d _ H' => E cls d H')).imp fun cls d σ' H' h => wx cls d σ' H' h
  refine (syn _ rfl tk).run _ _ Hk [] _ H _ rd h0 ⟨fun σ' H' Hk' ρ' e h1 k1 q1 => ?_, fun v σ' H' Hk' ρ' r e h1 k1 q1 => ends v σ' H' Hk' ρ' r e h1 k1 q1, fun _ _ _ _ _ _ _ z => z.elim, fun _ _ _ _ _ _ _ z => z.elim⟩
  exact ends .non σ' H' Hk' ρ' _ e (h1.sh .non) k1 q1
/-- a def by the values' reading of its body -/
theorem fn_w {x qual : Str} {st : Stmt} {f : Addr} {fd : FuncData} {N ps : List Str} {k : Nat} {SS : VSp} {t : (Value → List (Str × D) → Rho → Prop) → VS} (F : Fun K x qual st f fd) (S : FnScope N ps (defScope st)) (hps : ps.length ≤ N.length) (len : ∀ ρs R RX, SS ρs R RX → ρs.length = ps.length)
    (syn : ∀ (Φ : Fr) (cdv : Value) (A : Around) (outer : List Env) (s : Shared) (H : Hp) (E : XK), Room k (A.deeper (envOfC qual (defScope st) s.heap.objs.size f cdv)) → Tk (cxOf (L2.CX P w) P w K mg base N qual (defScope st) f cdv A outer s H E) Φ → PWSs (cxOf (L2.CX P w) P w K mg base N qual (defScope st) f cdv A outer s H E) Φ (defBody st) (t Φ.EX))
    (rd : ∀ ρs R RX, SS ρs R RX → t (fun cls fs ρ' => RX cls fs (fin ρs ρ')) { nx := fun ρ' => R (.sh .non) (fin ρs ρ'), rt := fun r ρ' => R r (fin ρs ρ') } (ρs ++ uns (N.length - ps.length))) : FnOk P w K mg base (L2.CX P w) (k + 1) f fd ps (spV K SS) := by
  refine F.okX S (fun vs H Q E h => ?_) (fun cdv A outer s H vs Q E hr h => ?_)
  · obtain ⟨Hk, ρs, T, R, RX, hl, _, _, hs, _⟩ := h
    rw [← hl]; exact len ρs R RX hs
  · obtain ⟨Hk, ρs, T, R, RX, hl, hk, hh, hs, fin', finX⟩ := h
    exact ⟨_, pss_sem, body_w hl (len ρs R RX hs) hk hh fin' finX (fun Φ _ tk => syn Φ cdv A outer s H E hr tk) (rd ρs R RX hs)⟩
end
end WL

set_option Elab.async false
set_option linter.all false
set_option maxRecDepth 100000
set_option maxHeartbeats 4000000
/-! W5: operators and built-ins over data. -/
namespace WL
open PySem PySem.Spec PyProof.Rows L2
variable [TBs]

section
variable {X : Cx} {Φ : Fr}
theorem CallR.or {f : Value} {r r' : List V → Hp → VK → Prop} (h : CallR X f r) (h' : CallR X f r') : CallR X f (fun x H Q => r x H Q ∨ r' x H Q) := by
  intro pins s σ H vs us Q I rv q
  rcases q with q | q
  · exact h pins s σ H vs us Q I rv q
  · exact h' pins s σ H vs us Q I rv q

/-! ### + - * // % ** -/
def rCatS : R2 := fun x y H Q => ∃ i j, x = .str i ∧ y = .str j ∧ i.length + j.length ≤ sizeLine ∧ Q (.str (i ++ j)) H
def rAddA (K : PySem.W.Frag) : R2 := fun x y H Q => rI0 (fun i j => .int (i + j)) x y H Q ∨ (rCatS x y H Q ∨ (rCat x y H Q ∨ rCatA K x y H Q))
theorem op_addA : OpR X (binaryOp .Add) (rAddA X.K) := op_add.or (OpR.or op_add_str (op_cat.or op_catA))
def addP : Prim := fun ds R => match ds with
  | [.int i, .int j] => R (.val (.int (i + j)))
  | [.str x, .str y] => x.length + y.length ≤ sizeLine ∧ R (.val (.str (x ++ y)))
  | [.lst a, .lst b] => a.length + b.length ≤ sizeLine ∧ R (.newL (a ++ b))
  | [.tup a, .tup b] => a.length + b.length ≤ sizeLine ∧ R (.newT (a ++ b)) ∧ R (.val (.tup (a ++ b)))
  | _ => False
theorem ok_add : PrimOk2 X (rAddA X.K) addP := by
  intro Hk H x y dx dy P R ex vx vy q k
  unfold addP at q
  split at q
  · rename_i e; cases e
    exact .inl ⟨_, _, vx.int, vy.int, k _ q _ .int⟩
  · rename_i e; cases e
    exact .inr (.inl ⟨_, _, vx.str, vy.str, q.1, k _ q.2 _ .str⟩)
  · rename_i e; cases e
    obtain ⟨p, vs, rfl, hp, rp⟩ := vx.lst ex
    obtain ⟨p', vs', rfl, hp', rp'⟩ := vy.lst ex
    exact .inr (.inr (.inl ⟨_, _, _, _, rfl, rfl, hp, hp', by rw [rp.length, rp'.length]; exact q.1, fun a ha => k _ q.2 a _ ha (rp.append rp')⟩))
  · rename_i e; cases e
    obtain ⟨p, vs, rfl, hp, rp⟩ := vx.tup ex
    obtain ⟨p', vs', rfl, hp', rp'⟩ := vy.tup ex
    have kx : ∀ {d : List D} {a : Addr}, View X.K Hk H (.ref a) (.tup d) → Rep X.K Hk (.ref a) (.tup d) := fun {d a} h => by
      generalize e : D.tup d = z at h
      cases h with
      | known r => exact r
      | own r => cases r <;> cases e
    refine .inr (.inr (.inr ⟨_, _, _, _, rfl, rfl, .of hp, .of hp', by rw [rp.length, rp'.length]; exact q.1, fun e0 => ?_, fun _ e1 => ?_, fun _ _ a ha => k _ q.2.1 a _ ha (rp.append rp')⟩))
    · have := k _ q.2.2 (.ref p')
      subst e0; cases rp
      exact this (kx vy)
    · have := k _ q.2.2 (.ref p)
      subst e1; cases rp'
      rw [List.append_nil] at this
      exact this (kx vx)
  · exact q.elim
def subP : Prim := fun ds R => match ds with
  | [.int i, .int j] => R (.val (.int (i - j)))
  | _ => False
theorem ok_sub : PrimOk2 X (rI0 fun i j => .int (i - j)) subP := by
  intro Hk H x y dx dy P R ex vx vy q k
  unfold subP at q
  split at q
  · rename_i e; cases e
    exact ⟨_, _, vx.int, vy.int, k _ q _ .int⟩
  · exact q.elim
def mulP : Prim := fun ds R => match ds with
  | [.int i, .int j] => (CMul i j ∨ CMulW i j) ∧ R (.val (.int (i * j)))
  | [.lst a, .int n] => (-(2 ^ 63) ≤ n ∧ n < 2 ^ 63 ∧ a.length * n.toNat ≤ sizeLine) ∧ R (.newL (List.replicate n.toNat a).flatten)
  | _ => False
theorem Reps.rep {K : PySem.W.Frag} {H : Hp} {vs : List V} {ds : List D} (r : Reps K H vs ds) : ∀ n : Nat, Reps K H (List.replicate n vs).flatten (List.replicate n ds).flatten
  | 0 => .nil
  | n + 1 => by rw [List.replicate_succ, List.replicate_succ]; exact r.append (Reps.rep r n)
def rMulA : R2 := fun x y H Q => rI CMul (fun i j => .int (i * j)) x y H Q ∨ (rI CMulW (fun i j => .int (i * j)) x y H Q ∨ rRep x y H Q)
theorem ok_mul : PrimOk2 X rMulA mulP := by
  intro Hk H x y dx dy P R ex vx vy q k
  unfold mulP at q
  split at q
  · rename_i e; cases e
    rcases q.1 with q1 | q1
    · exact .inl ⟨_, _, vx.int, vy.int, q1, k _ q.2 _ .int⟩
    · exact .inr (.inl ⟨_, _, vx.int, vy.int, q1, k _ q.2 _ .int⟩)
  · rename_i e; cases e
    obtain ⟨p, vs, rfl, hp, rp⟩ := vx.lst ex
    exact .inr (.inr ⟨_, _, _, rfl, vy.int, hp, q.1.1, q.1.2.1, by rw [rp.length]; exact q.1.2.2, fun a ha => k _ q.2 a _ ha (rp.rep _)⟩)
  · exact q.elim
theorem op_mulA : OpR X (binaryOp .Mult) rMulA := op_mul.or (OpR.or op_mulW op_rep)
def modP : Prim := fun ds R => match ds with
  | [.int i, .int j] => 0 < j ∧ R (.val (.int (i % j)))
  | _ => False
theorem ok_mod : PrimOk2 X (rI (fun _ j => 0 < j) fun i j => .int (i % j)) modP := by
  intro Hk H x y dx dy P R ex vx vy q k
  unfold modP at q
  split at q
  · rename_i e; cases e
    exact ⟨_, _, vx.int, vy.int, q.1, k _ q.2 _ .int⟩
  · exact q.elim
def divP : Prim := fun ds R => match ds with
  | [.int i, .int j] => (CDiv i j ∨ CDivW i j) ∧ R (.val (.int (i / j)))
  | _ => False
def rDivA : R2 := fun x y H Q => rI CDiv (fun i j => .int (i / j)) x y H Q ∨ rI CDivW (fun i j => .int (i / j)) x y H Q
theorem op_divA : OpR X (binaryOp .FloorDiv) rDivA := op_fdiv.or op_fdivW
theorem ok_div : PrimOk2 X rDivA divP := by
  intro Hk H x y dx dy P R ex vx vy q k
  unfold divP at q
  split at q
  · rename_i e; cases e
    rcases q.1 with q1 | q1
    · exact .inl ⟨_, _, vx.int, vy.int, q1, k _ q.2 _ .int⟩
    · exact .inr ⟨_, _, vx.int, vy.int, q1, k _ q.2 _ .int⟩
  · exact q.elim
def powP : Prim := fun ds R => match ds with
  | [.int i, .int j] => CPow i j ∧ R (.val (.int (i ^ j.toNat)))
  | _ => False
theorem ok_pow : PrimOk2 X (rI CPow fun i j => .int (i ^ j.toNat)) powP := by
  intro Hk H x y dx dy P R ex vx vy q k
  unfold powP at q
  split at q
  · rename_i e; cases e
    exact ⟨_, _, vx.int, vy.int, q.1, k _ q.2 _ .int⟩
  · exact q.elim
def negP : Prim := fun ds R => match ds with
  | [.int i] => R (.val (.int (-i)))
  | _ => False
theorem ok_neg : PrimOk1 X (rU fun i => .int (-i)) negP := by
  intro Hk H x dx P R ex vx q k
  unfold negP at q
  split at q
  · rename_i e; cases e
    exact ⟨_, vx.int, k _ q _ .int⟩
  · exact q.elim

/-! ### order -/
def rLtA : R2 := fun x y H Q => rI0 (fun i j => .bl (decide (i < j))) x y H Q ∨ ∃ i j, x = .str i ∧ y = .str j ∧ Q (.bl (decide (i.cps.toList < j.cps.toList))) H
theorem op_ltA : OpR X (compareOp .Lt) rLtA := op_lt.or op_lt_str
def ltP : Prim := fun ds R => match ds with
  | [.int i, .int j] => R (.val (.bl (decide (i < j))))
  | [.str x, .str y] => R (.val (.bl (decide (x.cps.toList < y.cps.toList))))
  | _ => False
theorem ok_lt : PrimOk2 X rLtA ltP := by
  intro Hk H x y dx dy P R ex vx vy q k
  unfold ltP at q
  split at q
  · rename_i e; cases e
    exact .inl ⟨_, _, vx.int, vy.int, k _ q _ .bl⟩
  · rename_i e; cases e
    exact .inr ⟨_, _, vx.str, vy.str, k _ q _ .bl⟩
  · exact q.elim
def leP : Prim := fun ds R => match ds with
  | [.int i, .int j] => R (.val (.bl (decide (i ≤ j))))
  | _ => False
theorem ok_le : PrimOk2 X (rI0 fun i j => .bl (decide (i ≤ j))) leP := by
  intro Hk H x y dx dy P R ex vx vy q k
  unfold leP at q
  split at q
  · rename_i e; cases e
    exact ⟨_, _, vx.int, vy.int, k _ q _ .bl⟩
  · exact q.elim
def geP : Prim := fun ds R => match ds with
  | [.int i, .int j] => R (.val (.bl (decide (j ≤ i))))
  | _ => False
theorem ok_ge : PrimOk2 X (rI0 fun i j => .bl (decide (j ≤ i))) geP := by
  intro Hk H x y dx dy P R ex vx vy q k
  unfold geP at q
  split at q
  · rename_i e; cases e
    exact ⟨_, _, vx.int, vy.int, k _ q _ .bl⟩
  · exact q.elim
theorem op_gt_strW : OpR X (compareOp .Gt) (fun x y H Q => ∃ i j, x = .str i ∧ y = .str j ∧ Q (.bl (decide (j.cps.toList < i.cps.toList))) H) := op_gt_str
def rGtA : R2 := fun x y H Q => rI0 (fun i j => .bl (decide (j < i))) x y H Q ∨ ∃ i j, x = .str i ∧ y = .str j ∧ Q (.bl (decide (j.cps.toList < i.cps.toList))) H
theorem op_gtA : OpR X (compareOp .Gt) rGtA := op_gt.or op_gt_str
def gtP : Prim := fun ds R => match ds with
  | [.int i, .int j] => R (.val (.bl (decide (j < i))))
  | [.str x, .str y] => R (.val (.bl (decide (y.cps.toList < x.cps.toList))))
  | _ => False
theorem ok_gt : PrimOk2 X rGtA gtP := by
  intro Hk H x y dx dy P R ex vx vy q k
  unfold gtP at q
  split at q
  · rename_i e; cases e
    exact .inl ⟨_, _, vx.int, vy.int, k _ q _ .bl⟩
  · rename_i e; cases e
    exact .inr ⟨_, _, vx.str, vy.str, k _ q _ .bl⟩
  · exact q.elim

/-! ### == != -/
mutual
def toPy : D → Option PyData
  | .non => some .none
  | .bl b => some (.bool b)
  | .int i => some (.int i)
  | .str x => some (.str x)
  | .lst ds => (toPys ds).map .list
  | .tup ds => (toPys ds).map .tuple
  | .fls ds => (toPys ds).map .list
  | .ftp ds => (toPys ds).map .tuple
  | _ => none
def toPys : List D → Option (List PyData)
  | [] => some []
  | d :: ds => match toPy d, toPys ds with
    | some p, some ps => some (p :: ps)
    | _, _ => none
end
mutual
theorem Rep.dp {K : PySem.W.Frag} {H : Hp} : ∀ {v : V} {d : D} {p : PyData}, Rep K H v d → toPy d = some p → Dp K H v p
  | _, _, p, .non, e => by unfold toPy at e; cases e; exact .non
  | _, _, p, .bl, e => by unfold toPy at e; cases e; exact .bl _
  | _, _, p, .int, e => by unfold toPy at e; cases e; exact .int _
  | _, _, p, .str, e => by unfold toPy at e; cases e; exact .str _
  | _, _, p, .lst h r, e => by
    unfold toPy at e
    obtain ⟨ps, hp, ep⟩ := Option.map_eq_some_iff.mp e
    subst ep
    exact .lst (.of h) (Reps.dp r hp)
  | _, _, p, .tup h r, e => by
    unfold toPy at e
    obtain ⟨ps, hp, ep⟩ := Option.map_eq_some_iff.mp e
    subst ep
    exact .tup (.of h) (Reps.dp r hp)
  | _, _, p, .fls h r, e => by
    unfold toPy at e
    obtain ⟨ps, hp, ep⟩ := Option.map_eq_some_iff.mp e
    subst ep
    exact .lst h (Reps.dp r hp)
  | _, _, p, .ftp h r, e => by
    unfold toPy at e
    obtain ⟨ps, hp, ep⟩ := Option.map_eq_some_iff.mp e
    subst ep
    exact .tup h (Reps.dp r hp)
  | _, _, p, .dct _ _, e => by unfold toPy at e; cases e
  | _, _, p, .dcT _ _, e => by unfold toPy at e; cases e
  | _, _, p, .opq, e => by unfold toPy at e; cases e
theorem Reps.dp {K : PySem.W.Frag} {H : Hp} : ∀ {vs : List V} {ds : List D} {ps : List PyData}, Reps K H vs ds → toPys ds = some ps → DpAll K H vs ps
  | _, _, ps, .nil, e => by unfold toPys at e; cases e; exact .nil
  | _, _, ps, .cons h t, e => by
    unfold toPys at e
    split at e
    · rename_i p ps' h1 h2
      cases e
      exact .cons (Rep.dp h h1) (Reps.dp t h2)
    · cases e
end
theorem View.dp {K : PySem.W.Frag} {Hk H : Hp} {v : V} {d : D} {p : PyData} (ex : Same Hk H) (h : View K Hk H v d) (e : toPy d = some p) : Dp K H v p := by
  cases h with
  | known r => exact (r.mono ex).dp e
  | own r =>
    cases r with
    | lst h r =>
      have e' : toPy (.lst _) = some p := e
      unfold toPy at e'
      obtain ⟨ps, hp, ep⟩ := Option.map_eq_some_iff.mp e'
      subst ep
      exact .lst (.of h) ((r.mono ex).dp hp)
    | dct h r => have e' : toPy (.dct _) = some p := e; unfold toPy at e'; cases e'
    | dcT h r => have e' : toPy (.dcT _) = some p := e; unfold toPy at e'; cases e'
/-! dicts compared -/
def lookK {κ α : Type} [DecidableEq κ] (kvs : List (κ × α)) (k : κ) : Option α := (kvs.find? fun kv => decide (kv.1 = k)).map (·.2)
section
variable {K : PySem.W.Frag} {Φ : Fr} {H : Hp}
theorem RepK.look : ∀ {vs : List (Key × V)} {ds : List (Key × D)} {k : Key}, RepK K H vs ds → (valV vs k = none ∧ lookK ds k = none) ∨ ∃ v d, valV vs k = some v ∧ lookK ds k = some d ∧ Rep K H v d
  | _, _, k, .nil => .inl ⟨rfl, rfl⟩
  | _, _, k, .cons (k := j) (vs := vs) (ds := ds) h t => by
    by_cases e : j = k
    · subst e
      exact .inr ⟨_, _, by simp [valV], by simp [lookK], h⟩
    · rcases t.look (k := k) with ⟨h1, h2⟩ | ⟨v, d, h1, h2, r⟩
      · exact .inl ⟨by simpa [valV, e] using h1, by simpa [lookK, e] using h2⟩
      · exact .inr ⟨v, d, by simpa [valV, e] using h1, by simpa [lookK, e] using h2, r⟩
theorem RepK.len : ∀ {vs : List (Key × V)} {ds : List (Key × D)}, RepK K H vs ds → vs.length = ds.length
  | _, _, .nil => rfl
  | _, _, .cons _ t => by simp [RepK.len t]
end
/-- what the walk over the first dict's entries says -/
inductive HitsE (ls : List (Key × D)) : List (Key × D) → Bool → Prop
  | nil : HitsE ls [] true
  | miss {k v r} (h : lookK ls k = none) : HitsE ls ((k, v) :: r) false
  | hit {k v u d e r b} (h : lookK ls k = some u) (hd : toPy v = some d) (he : toPy u = some e) (sd : SeqAt.shaped d = true) (se : SeqAt.shaped e = true) (dd : d.depth ≤ 60) (t : HitsE ls r b) : HitsE ls ((k, v) :: r) (PyData.eqv d e && b)
inductive HitsV (K : PySem.W.Frag) (H : Hp) (ls : List (Key × V)) : List (Key × V) → Bool → Prop
  | nil : HitsV K H ls [] true
  | miss {k v r} (h : valV ls k = none) : HitsV K H ls ((k, v) :: r) false
  | hit {k v u d e r b} (h : valV ls k = some u) (hd : Dp K H v d) (he : Dp K H u e) (sd : SeqAt.shaped d = true) (se : SeqAt.shaped e = true) (dd : d.depth ≤ 60) (t : HitsV K H ls r b) : HitsV K H ls ((k, v) :: r) (PyData.eqv d e && b)
theorem hitsV_of {K : PySem.W.Frag} {H : Hp} {lv : List (Key × V)} {ls : List (Key × D)} (rl : RepK K H lv ls) {ks : List (Key × D)} {r : Bool} (h : HitsE ls ks r) : ∀ {kv : List (Key × V)}, RepK K H kv ks → HitsV K H lv kv r := by
  induction h with
  | nil => intro kv rk; cases rk; exact .nil
  | miss h =>
    intro kv rk
    cases rk with
    | cons rv rt =>
      rename_i k v r v' vs
      rcases rl.look (k := k) with ⟨h1, _⟩ | ⟨_, _, _, h2, _⟩
      · exact .miss h1
      · rw [h] at h2; cases h2
  | hit h hd he sd se dd t ih =>
    intro kv rk
    cases rk with
    | cons rv rt =>
      rcases rl.look (k := _) with ⟨_, h2⟩ | ⟨u', d', h1, h2, ru⟩
      · rw [h] at h2; cases h2
      · rw [h] at h2
        cases h2
        exact .hit h1 (rv.dp hd) (ru.dp he) sd se dd (ih rt)
theorem hits_vals {X : Cx} {pins : List (Addr × Obj)} {σ : L2.St} {H : Hp} {s : Shared} (I : Inv X pins σ H s) {A : Around} (hu : A.units + 60 < cLine) {ls : List (Key × V)} {vb : List (Key × Value)} (rb : KV ls vb) {ks : List (Key × V)} {r : Bool} (h : HitsV X.K H ls ks r) :
    ∀ {va : List (Key × Value)}, KV ks va → PySem.W.KeqHits A s vb va r := by
  induction h with
  | nil => intro va ra; cases ra; exact .nil
  | miss h =>
    intro va ra
    cases ra with
    | cons z t =>
      rename_i q _
      obtain ⟨k, w⟩ := q
      obtain ⟨e, _⟩ := z
      have e' : _ = k := e
      have hv := rb.val k
      rw [← e', h] at hv
      exact .miss (by rw [← e']; cases hq : valueAt vb _ with
        | none => rfl
        | some y => rw [hq] at hv; cases hv)
  | hit h hd he sd se dd t ih =>
    intro va ra
    cases ra with
    | cons z t =>
      rename_i q _
      obtain ⟨k, w⟩ := q
      obtain ⟨e, rw'⟩ := z
      have e' : _ = k := e
      have hv := rb.val k
      rw [← e', h] at hv
      obtain ⟨y, hy, ry⟩ := hv.some_of
      rw [e'] at hy
      obtain ⟨as, r1⟩ := Dp.reads I _ _ w hd rw'
      obtain ⟨bs, r2⟩ := Dp.reads I _ _ y he ry
      refine .hit hy (SeqAt.eqAt_reads _ _ A s w y as bs r1 r2 (SeqAt.canLay_of_shaped sd) (SeqAt.canLay_of_shaped se) ?_) (ih t)
      exact Nat.lt_of_le_of_lt (Nat.add_le_add_left (Nat.le_trans (Nat.min_le_left _ _) dd) _) hu
def rEqK (K : PySem.W.Frag) : R2 := fun x y H Q => ∃ a b ks ls r, x = .ref a ∧ y = .ref b ∧ Rd H a (.dK ks) ∧ Rd H b (.dK ls) ∧ HitsV K H ls ks r ∧ Q (.bl (ks.length == ls.length && r)) H
def rNeK (K : PySem.W.Frag) : R2 := fun x y H Q => ∃ a b ks ls r, x = .ref a ∧ y = .ref b ∧ Rd H a (.dK ks) ∧ Rd H b (.dK ls) ∧ HitsV K H ls ks r ∧ Q (.bl (!(ks.length == ls.length && r))) H
section
variable {X : Cx} {Φ : Fr}
theorem op_eqK (hu : X.A.units + 64 < cLine) : OpR X (compareOp .Eq) (rEqK X.K) := by
  intro pins s σ H x y v u Q I rx ry ⟨a, b, ks, ls, r, ex, ey, ha, hb, hh, q⟩
  subst ex; subst ey
  cases rx; cases ry
  obtain ⟨_, na, va, ra, da⟩ := dk_rd I.hok ha
  obtain ⟨_, nb, vb, rb, db⟩ := dk_rd I.hok hb
  refine PySem.W.keq_eq (knd := mixKind X.prog X.w) (r := r) na nb da db (by omega) (fun _ => hits_vals I (by show X.A.units + 1 + 60 < cLine; omega) rb hh ra) ⟨.bl _, H, I, ?_, q⟩
  rw [ra.length, rb.length]; rfl
theorem op_neK (hu : X.A.units + 64 < cLine) : OpR X (compareOp .NotEq) (rNeK X.K) := by
  intro pins s σ H x y v u Q I rx ry ⟨a, b, ks, ls, r, ex, ey, ha, hb, hh, q⟩
  subst ex; subst ey
  cases rx; cases ry
  obtain ⟨_, na, va, ra, da⟩ := dk_rd I.hok ha
  obtain ⟨_, nb, vb, rb, db⟩ := dk_rd I.hok hb
  refine PySem.W.keq_ne (knd := mixKind X.prog X.w) (r := r) na nb da db (by omega) (fun _ => hits_vals I (by show X.A.units + 1 + 60 < cLine; omega) rb hh ra) ⟨.bl _, H, I, ?_, q⟩
  rw [ra.length, rb.length]; rfl
end
def eqP : Prim := fun ds R => match ds with
  | [.int i, .int j] => R (.val (.bl (decide (i = j))))
  | [.str x, .str y] => R (.val (.bl (decide (x = y))))
  | [.bl x, .bl y] => R (.val (.bl (decide (x = y))))
  | [.non, .non] => R (.val (.bl true))
  | [.dct ks, .dct ls] => ∃ r, HitsE ls ks r ∧ R (.val (.bl (ks.length == ls.length && r)))
  | [a, b] => ∃ d e, toPy a = some d ∧ toPy b = some e ∧ SeqAt.shaped d = true ∧ SeqAt.shaped e = true ∧ R (.val (.bl (PyData.eqv d e)))
  | _ => False
def rEqA (K : PySem.W.Frag) : R2 := fun x y H Q => (rEq x y H Q ∨ rEqD K x y H Q) ∨ rEqK K x y H Q
theorem op_eqA (hu : X.A.units + 64 < cLine) : OpR X (compareOp .Eq) (rEqA X.K) := (op_eq.or (op_eqD hu)).or (op_eqK hu)
theorem dec_inj {α β : Type} [DecidableEq α] [DecidableEq β] {f : α → β} (h : ∀ a b, f a = f b → a = b) (a b : α) : decide (f a = f b) = decide (a = b) := by
  by_cases e : a = b
  · subst e; simp
  · rw [decide_eq_false e, decide_eq_false fun z => e (h a b z)]
theorem ok_eq : PrimOk2 X (rEqA X.K) eqP := by
  intro Hk H x y dx dy P R ex vx vy q k
  unfold eqP at q
  split at q
  · rename_i e; cases e
    rw [vx.int, vy.int]
    exact .inl (.inl ⟨rfl, by rw [dec_inj (f := V.int) fun _ _ z => by injection z]; exact k _ q _ .bl⟩)
  · rename_i e; cases e
    rw [vx.str, vy.str]
    exact .inl (.inl ⟨rfl, by rw [dec_inj (f := V.str) fun _ _ z => by injection z]; exact k _ q _ .bl⟩)
  · rename_i e; cases e
    rw [vx.bl, vy.bl]
    exact .inl (.inl ⟨rfl, by rw [dec_inj (f := V.bl) fun _ _ z => by injection z]; exact k _ q _ .bl⟩)
  · rename_i e; cases e
    rw [vx.non, vy.non]
    exact .inl (.inl ⟨rfl, k _ q _ .bl⟩)
  · rename_i e; cases e
    obtain ⟨r, hr, q⟩ := q
    obtain ⟨a, ks, rfl, ha, ra⟩ := vx.dct ex
    obtain ⟨b, ls, rfl, hb, rb⟩ := vy.dct ex
    refine .inr ⟨a, b, ks, ls, r, rfl, rfl, ha, hb, hitsV_of (rb.mono ex) hr (ra.mono ex), ?_⟩
    rw [ra.len, rb.len]
    exact k _ q _ .bl
  · rename_i e; cases e
    obtain ⟨d, e, hd, he, sd, se, q⟩ := q
    exact .inl (.inr ⟨d, e, vx.dp ex hd, vy.dp ex he, sd, se, k _ q _ .bl⟩)
  · exact q.elim
def neP : Prim := fun ds R => match ds with
  | [.int i, .int j] => R (.val (.bl (!decide (i = j))))
  | [.str x, .str y] => R (.val (.bl (!decide (x = y))))
  | [.bl x, .bl y] => R (.val (.bl (!decide (x = y))))
  | [.non, .non] => R (.val (.bl false))
  | [.dct ks, .dct ls] => ∃ r, HitsE ls ks r ∧ R (.val (.bl (!(ks.length == ls.length && r))))
  | [a, b] => ∃ d e, toPy a = some d ∧ toPy b = some e ∧ SeqAt.shaped d = true ∧ SeqAt.shaped e = true ∧ R (.val (.bl (!PyData.eqv d e)))
  | _ => False
def rNeA (K : PySem.W.Frag) : R2 := fun x y H Q => (rNe x y H Q ∨ rNeD K x y H Q) ∨ rNeK K x y H Q
theorem op_neA (hu : X.A.units + 64 < cLine) : OpR X (compareOp .NotEq) (rNeA X.K) := (op_ne.or (op_neD hu)).or (op_neK hu)
theorem ok_ne : PrimOk2 X (rNeA X.K) neP := by
  intro Hk H x y dx dy P R ex vx vy q k
  unfold neP at q
  split at q
  · rename_i e; cases e
    rw [vx.int, vy.int]
    exact .inl (.inl ⟨rfl, by rw [dec_inj (f := V.int) fun _ _ z => by injection z]; exact k _ q _ .bl⟩)
  · rename_i e; cases e
    rw [vx.str, vy.str]
    exact .inl (.inl ⟨rfl, by rw [dec_inj (f := V.str) fun _ _ z => by injection z]; exact k _ q _ .bl⟩)
  · rename_i e; cases e
    rw [vx.bl, vy.bl]
    exact .inl (.inl ⟨rfl, by rw [dec_inj (f := V.bl) fun _ _ z => by injection z]; exact k _ q _ .bl⟩)
  · rename_i e; cases e
    rw [vx.non, vy.non]
    exact .inl (.inl ⟨rfl, k _ q _ .bl⟩)
  · rename_i e; cases e
    obtain ⟨r, hr, q⟩ := q
    obtain ⟨a, ks, rfl, ha, ra⟩ := vx.dct ex
    obtain ⟨b, ls, rfl, hb, rb⟩ := vy.dct ex
    refine .inr ⟨a, b, ks, ls, r, rfl, rfl, ha, hb, hitsV_of (rb.mono ex) hr (ra.mono ex), ?_⟩
    rw [ra.len, rb.len]
    exact k _ q _ .bl
  · rename_i e; cases e
    obtain ⟨d, e, hd, he, sd, se, q⟩ := q
    exact .inl (.inr ⟨d, e, vx.dp ex hd, vy.dp ex he, sd, se, k _ q _ .bl⟩)
  · exact q.elim
/-- is None -/
def isNP : Prim := fun ds R => match ds with
  | [.non, .non] => R (.val (.bl true))
  | [.int _, .non] => R (.val (.bl false))
  | [.str _, .non] => R (.val (.bl false))
  | [.bl _, .non] => R (.val (.bl false))
  | [.lst _, .non] => R (.val (.bl false))
  | [.tup _, .non] => R (.val (.bl false))
  | [.dct _, .non] => R (.val (.bl false))
  | _ => False
def notNP : Prim := fun ds R => isNP ds fun r => match r with | .val (.bl b) => R (.val (.bl (!b))) | _ => False
theorem ok_isN : PrimOk2 X (fun x y H Q => y = .non ∧ Q (.bl (decide (x = .non))) H) isNP := by
  intro Hk H x y dx dy P R ex vx vy q k
  unfold isNP at q
  split at q <;> first
    | (rename_i e; cases e; refine ⟨vy.non, ?_⟩; first
        | (rw [vx.non]; exact k _ q _ .bl)
        | (rw [vx.int]; exact k _ q _ .bl)
        | (rw [vx.str]; exact k _ q _ .bl)
        | (rw [vx.bl]; exact k _ q _ .bl)
        | (obtain ⟨p, vs, rfl, hp, rp⟩ := vx.lst ex; exact k _ q _ .bl)
        | (obtain ⟨p, vs, rfl, hp, rp⟩ := vx.tup ex; exact k _ q _ .bl)
        | (obtain ⟨p, vs, rfl, hp, rp⟩ := vx.dct ex; exact k _ q _ .bl))
    | exact q.elim
theorem ok_notN : PrimOk2 X (fun x y H Q => y = .non ∧ Q (.bl (!decide (x = .non))) H) notNP := by
  intro Hk H x y dx dy P R ex vx vy q k
  unfold notNP isNP at q
  split at q <;> first
    | (rename_i e; cases e; refine ⟨vy.non, ?_⟩; first
        | (rw [vx.non]; exact k _ q _ .bl)
        | (rw [vx.int]; exact k _ q _ .bl)
        | (rw [vx.str]; exact k _ q _ .bl)
        | (rw [vx.bl]; exact k _ q _ .bl)
        | (obtain ⟨p, vs, rfl, hp, rp⟩ := vx.lst ex; exact k _ q _ .bl)
        | (obtain ⟨p, vs, rfl, hp, rp⟩ := vx.tup ex; exact k _ q _ .bl)
        | (obtain ⟨p, vs, rfl, hp, rp⟩ := vx.dct ex; exact k _ q _ .bl))
    | exact q.elim
/-- x += y, x -= y by values: ints, texts -/
def rIAdd : R2 := fun x y H Q => rI0 (fun i j => .int (i + j)) x y H Q ∨ rCatS x y H Q
theorem ip_addA : PIp X .Add rIAdd := by
  intro pins s σ H x y v u Q I rx ry q
  rcases q with q | q
  · exact iop_add pins s σ H x y v u Q I rx ry q
  · exact iop_add_str pins s σ H x y v u Q I rx ry q
theorem ip_subA : PIp X .Sub (rI0 fun i j => .int (i - j)) := fun pins s σ H x y v u Q I rx ry q => iop_sub pins s σ H x y v u Q I rx ry q
def iaddP : Prim := fun ds R => match ds with
  | [.int i, .int j] => R (.val (.int (i + j)))
  | [.str x, .str y] => x.length + y.length ≤ sizeLine ∧ R (.val (.str (x ++ y)))
  | _ => False
theorem ok_iadd : PrimOk2 X rIAdd iaddP := by
  intro Hk H x y dx dy P R ex vx vy q k
  unfold iaddP at q
  split at q
  · rename_i e; cases e
    exact .inl ⟨_, _, vx.int, vy.int, k _ q _ .int⟩
  · rename_i e; cases e
    exact .inr ⟨_, _, vx.str, vy.str, q.1, k _ q.2 _ .str⟩
  · exact q.elim
end
end WL

set_option Elab.async false
set_option linter.all false
set_option maxRecDepth 100000
set_option maxHeartbeats 4000000
/-! W6: in, subscripts, slices, len and other built-ins, changes of own lists and dicts. -/
namespace WL
open PySem PySem.Spec PyProof.Rows L2
variable [TBs]

/-! ### keys, flat data -/
def flat1 : D → Option V
  | .non => some .non
  | .bl b => some (.bl b)
  | .int i => some (.int i)
  | .str x => some (.str x)
  | _ => none
def flatL : List D → Option (List V)
  | [] => some []
  | d :: ds => match flat1 d, flatL ds with
    | some v, some vs => some (v :: vs)
    | _, _ => none
def keyD : D → Option Key
  | .int i => some (.inl i)
  | .str x => some (.inr x)
  | _ => none
def dK : Key → D
  | .inl i => .int i
  | .inr x => .str x
def keyL : List D → Option (List Key)
  | [] => some []
  | d :: ds => match keyD d, keyL ds with
    | some v, some vs => some (v :: vs)
    | _, _ => none
section
variable {K : PySem.W.Frag} {Φ : Fr} {H : Hp}
theorem Rep.flat {v w : V} {d : D} (h : Rep K H v d) (e : flat1 d = some w) : v = w ∧ flatV w = true := by
  cases h <;> simp [flat1] at e <;> subst e <;> exact ⟨rfl, rfl⟩
theorem Reps.flat : ∀ {vs ws : List V} {ds : List D}, Reps K H vs ds → flatL ds = some ws → vs = ws ∧ ws.all flatV = true
  | _, _, _, .nil, e => by cases e; exact ⟨rfl, rfl⟩
  | _, _, _, .cons h t, e => by
    unfold flatL at e
    split at e
    · rename_i v vs h1 h2
      cases e
      obtain ⟨e1, f1⟩ := h.flat h1
      obtain ⟨e2, f2⟩ := t.flat h2
      subst e1; subst e2
      exact ⟨rfl, by rw [List.all_cons, f1, f2]; rfl⟩
    · cases e
theorem View.flat {Hk : Hp} {v w : V} {d : D} (h : View K Hk H v d) (e : flat1 d = some w) : v = w ∧ flatV w = true := by
  cases h with
  | known r => exact r.flat e
  | own r => cases r <;> cases e
theorem Rep.key {v : V} {d : D} {k : Key} (h : Rep K H v d) (e : keyD d = some k) : v = kV k := by
  cases h <;> simp [keyD] at e <;> subst e <;> rfl
theorem View.key {Hk : Hp} {v : V} {d : D} {k : Key} (h : View K Hk H v d) (e : keyD d = some k) : v = kV k := by
  cases h with
  | known r => exact r.key e
  | own r => cases r <;> cases e
theorem Reps.keys : ∀ {vs : List V} {ds : List D} {ks : List Key}, Reps K H vs ds → keyL ds = some ks → vs = ks.map kV
  | _, _, _, .nil, e => by cases e; rfl
  | _, _, _, .cons h t, e => by
    unfold keyL at e
    split at e
    · rename_i v vs h1 h2
      cases e
      rw [h.key h1, t.keys h2]; rfl
    · cases e
theorem RepT.look : ∀ {vs : List (List Key × V)} {ds : List (List Key × D)} {k : List Key}, RepT K H vs ds → (valV vs k = none ∧ lookK ds k = none) ∨ ∃ v d, valV vs k = some v ∧ lookK ds k = some d ∧ Rep K H v d
  | _, _, k, .nil => .inl ⟨rfl, rfl⟩
  | _, _, k, .cons (k := j) (vs := vs) (ds := ds) h t => by
    by_cases e : j = k
    · subst e
      exact .inr ⟨_, _, by simp [valV], by simp [lookK], h⟩
    · rcases t.look (k := k) with ⟨h1, h2⟩ | ⟨v, d, h1, h2, r⟩
      · exact .inl ⟨by simpa [valV, e] using h1, by simpa [lookK, e] using h2⟩
      · exact .inr ⟨v, d, by simpa [valV, e] using h1, by simpa [lookK, e] using h2, r⟩
theorem RepK.isSome {vs : List (Key × V)} {ds : List (Key × D)} {k : Key} (r : RepK K H vs ds) : (valV vs k).isSome = (lookK ds k).isSome := by
  rcases r.look (k := k) with ⟨h1, h2⟩ | ⟨v, d, h1, h2, r⟩ <;> rw [h1, h2] <;> rfl
theorem RepT.isSome {vs : List (List Key × V)} {ds : List (List Key × D)} {k : List Key} (r : RepT K H vs ds) : (valV vs k).isSome = (lookK ds k).isSome := by
  rcases r.look (k := k) with ⟨h1, h2⟩ | ⟨v, d, h1, h2, r⟩ <;> rw [h1, h2] <;> rfl
theorem RepK.length : ∀ {vs : List (Key × V)} {ds : List (Key × D)}, RepK K H vs ds → vs.length = ds.length
  | _, _, .nil => rfl
  | _, _, .cons _ t => by simp [RepK.length t]
theorem RepT.length : ∀ {vs : List (List Key × V)} {ds : List (List Key × D)}, RepT K H vs ds → vs.length = ds.length
  | _, _, .nil => rfl
  | _, _, .cons _ t => by simp [RepT.length t]
theorem RepK.keys : ∀ {vs : List (Key × V)} {ds : List (Key × D)}, RepK K H vs ds → vs.map (·.1) = ds.map (·.1)
  | _, _, .nil => rfl
  | _, _, .cons _ t => by simp [RepK.keys t]
end

/-! ### in -/
section
variable {X : Cx} {Φ : Fr}
def rDIn (b : Bool) : R2 := fun y x H Q => ∃ a o, x = .ref a ∧ DGet H a y o ∧ Q (.bl (if b then !o.isSome else o.isSome)) H
theorem op_din (hu : X.A.units + 1 < cLine) : OpR X (compareOp .In) (rDIn false) := by
  intro pins s σ H y x u v Q I ry rx h
  obtain ⟨a, o, e, g, q⟩ := h
  subst e
  cases rx
  exact d_in hu I g ry fun s3 I3 => ⟨.bl o.isSome, H, I3, rfl, q⟩
theorem op_dnotin (hu : X.A.units + 1 < cLine) : OpR X (compareOp .NotIn) (rDIn true) := by
  intro pins s σ H y x u v Q I ry rx h
  obtain ⟨a, o, e, g, q⟩ := h
  subst e
  cases rx
  exact d_notIn hu I g ry fun s3 I3 => ⟨.bl (!o.isSome), H, I3, rfl, q⟩
def rInA (K : PySem.W.Frag) (b : Bool) : R2 := fun x y H Q => rIn K b x y H Q ∨ rDIn b x y H Q
theorem op_inA (hu : X.A.units + 1 < cLine) : OpR X (compareOp .In) (rInA X.K false) := op_in_seq.or (op_din hu)
theorem op_notinA (hu : X.A.units + 1 < cLine) : OpR X (compareOp .NotIn) (rInA X.K true) := op_notIn_seq.or (op_dnotin hu)
def ifN (b k : Bool) : Bool := if b then !k else k
def inP (b : Bool) : Prim := fun ds R => match ds with
  | [x, .dct kvs] => ∃ k, keyD x = some k ∧ R (.val (.bl (ifN b (lookK kvs k).isSome)))
  | [.tup ks, .dcT kvs] => ∃ k, keyL ks = some k ∧ R (.val (.bl (ifN b (lookK kvs k).isSome)))
  | [x, d] => ∃ ds vx vs, (seqLD d = some ds ∨ seqTD d = some ds) ∧ flat1 x = some vx ∧ flatL ds = some vs ∧ R (.val (.bl (ifN b (inV vx vs))))
  | _ => False
theorem ok_in {b : Bool} : PrimOk2 X (rInA X.K b) (inP b) := by
  intro Hk H x y dx dy P R ex vx vy q k
  unfold inP at q
  split at q
  · rename_i e; cases e
    obtain ⟨key, hk, q⟩ := q
    obtain ⟨a, vs, rfl, hr, rr⟩ := vy.dct ex
    refine .inr ⟨a, valV vs key, rfl, .inl ⟨vs, key, hr, vx.key hk, rfl⟩, ?_⟩
    have e := rr.isSome (k := key)
    show P (.bl (ifN b (valV vs key).isSome)) H
    rw [e]; exact k _ q _ .bl
  · rename_i e; cases e
    obtain ⟨key, hk, q⟩ := q
    obtain ⟨a, vs, rfl, hr, rr⟩ := vy.dcT ex
    obtain ⟨a2, ws, rfl, hr2, rr2⟩ := vx.tup ex
    refine .inr ⟨a, valV vs key, rfl, .inr ⟨vs, key, a2, hr, rfl, by rw [hr2, rr2.keys hk], rfl⟩, ?_⟩
    have e := rr.isSome (k := key)
    show P (.bl (ifN b (valV vs key).isSome)) H
    rw [e]; exact k _ q _ .bl
  · rename_i e; cases e
    obtain ⟨ds, wx, ws, hd, hx, hs, q⟩ := q
    obtain ⟨rfl, fx⟩ := vx.flat hx
    rcases hd with hd | hd
    · obtain ⟨a, vs, rfl, hr, rr⟩ := vy.seqL ex (seqLD_eq hd)
      obtain ⟨rfl, fs⟩ := rr.flat hs
      exact .inl ⟨a, _, rfl, .inl hr, fx, fs, k _ q _ .bl⟩
    · obtain ⟨a, vs, rfl, hr, rr⟩ := vy.seqT ex (seqTD_eq hd)
      obtain ⟨rfl, fs⟩ := rr.flat hs
      exact .inl ⟨a, _, rfl, .inr hr, fx, fs, k _ q _ .bl⟩
  · exact q.elim

/-! ### a[i] -/
def rIxDc : R2 := fun x y H Q => ∃ a v, x = .ref a ∧ DGet H a y (some v) ∧ Q v H
theorem ix_dict (hu : X.A.units + 1 < cLine) : IxR X rIxDc := by
  intro value slice pins s σ H x y v u Q I rx ry h hs
  obtain ⟨a, w, e, g, q⟩ := h
  subst e
  cases rx
  exact tail_any (dict_typeIs I g) PySem.F.slot_dict_getitem.lookup (d_getItem hu I g ry fun w' s3 I3 rw' => ⟨w, H, I3, rw', q⟩) hs
theorem Reps.atI {K : PySem.W.Frag} {H : Hp} {vs : List V} {ds : List D} {i : Int} {d : D} (r : Reps K H vs ds) (h : L2.atI ds i = some d) : ∃ v, L2.atI vs i = some v ∧ Rep K H v d := by
  unfold L2.atI at h ⊢
  rw [r.length]
  obtain ⟨j, hj, hd⟩ := Option.bind_eq_some_iff.mp h
  obtain ⟨v, hv, rv⟩ := r.getD hd
  exact ⟨v, by rw [hj]; exact hv, rv⟩
def rIxA (K : PySem.W.Frag) : R2 := fun x y H Q => rIxL K x y H Q ∨ (rIxT K x y H Q ∨ (rIxS x y H Q ∨ rIxDc x y H Q))
theorem ix_all (hu : X.A.units + 1 < cLine) : IxR X (rIxA X.K) := ix_list.or (IxR.or ix_tup (IxR.or ix_str (ix_dict hu)))
def ixP : Prim := fun ds R => match ds with
  | [.str x, .int i] => x.length ≤ sizeLine ∧ ∃ c, L2.atI x.cps.toList i = some c ∧ R (.val (.str ⟨#[c]⟩))
  | [.dct kvs, y] => ∃ k d, keyD y = some k ∧ lookK kvs k = some d ∧ R (.val d)
  | [.dcT kvs, .tup ks] => ∃ k d, keyL ks = some k ∧ lookK kvs k = some d ∧ R (.val d)
  | [x, .int i] => ∃ ds d, (seqLD x = some ds ∨ seqTD x = some ds) ∧ L2.atI ds i = some d ∧ R (.val d)
  | _ => False
theorem ok_ix : PrimOk2 X (rIxA X.K) ixP := by
  intro Hk H x y dx dy P R ex vx vy q k
  unfold ixP at q
  split at q
  · rename_i e; cases e
    obtain ⟨hz, c, hc, q⟩ := q
    exact .inr (.inr (.inl ⟨_, _, c, vx.str, vy.int, hz, hc, k _ q _ .str⟩))
  · rename_i e; cases e
    obtain ⟨key, d, hk, hl, q⟩ := q
    obtain ⟨a, vs, rfl, hr, rr⟩ := vx.dct ex
    rcases rr.look (k := key) with ⟨h1, h2⟩ | ⟨v, d', h1, h2, r⟩
    · rw [hl] at h2; cases h2
    · rw [hl] at h2; cases h2
      exact .inr (.inr (.inr ⟨a, v, rfl, .inl ⟨vs, key, hr, vy.key hk, h1.symm⟩, k _ q _ r⟩))
  · rename_i e; cases e
    obtain ⟨key, d, hk, hl, q⟩ := q
    obtain ⟨a, vs, rfl, hr, rr⟩ := vx.dcT ex
    obtain ⟨a2, ws, rfl, hr2, rr2⟩ := vy.tup ex
    rcases rr.look (k := key) with ⟨h1, h2⟩ | ⟨v, d', h1, h2, r⟩
    · rw [hl] at h2; cases h2
    · rw [hl] at h2; cases h2
      exact .inr (.inr (.inr ⟨a, v, rfl, .inr ⟨vs, key, a2, hr, rfl, by rw [hr2, rr2.keys hk], h1.symm⟩, k _ q _ r⟩))
  · rename_i e; cases e
    obtain ⟨ds, d, hd, ha, q⟩ := q
    rcases hd with hd | hd
    · obtain ⟨a, vs, rfl, hr, rr⟩ := vx.seqL ex (seqLD_eq hd)
      obtain ⟨v, hv, rv⟩ := rr.atI ha
      exact .inl ⟨a, vs, _, v, rfl, vy.int, hr, hv, k _ q _ rv⟩
    · obtain ⟨a, vs, rfl, hr, rr⟩ := vx.seqT ex (seqTD_eq hd)
      obtain ⟨v, hv, rv⟩ := rr.atI ha
      exact .inr (.inl ⟨a, vs, _, v, rfl, vy.int, hr, hv, k _ q _ rv⟩)
  · exact q.elim

/-! ### slices -/
def cutL {α : Type} (xs : List α) (lo hi : Option Int) : List α := (xs.drop (HT.sIx xs.length 0 lo)).take (HT.sIx xs.length xs.length hi - HT.sIx xs.length 0 lo)
theorem Reps.cut {K : PySem.W.Frag} {H : Hp} {vs : List V} {ds : List D} {lo hi : Option Int} (r : Reps K H vs ds) : Reps K H (cutV vs lo hi) (cutL ds lo hi) := by
  unfold cutV cutL
  rw [r.length]
  exact (r.drop _).take _
abbrev VPo := Rho → (Option Int → Rho → Prop) → Prop
structure RunO (K : PySem.W.Frag) (Φ : Fr) (t : TO) (to : VPo) : Prop where
  run : ∀ ρ (Q : Option Int → Rho → Prop) Hk T σ H (P : Option Int → Hp → Prop), to ρ Q → Holds K Φ Hk ρ T σ H → (∀ i H' Hk' ρ', Same Hk Hk' → Holds K Φ Hk' ρ' T σ H' → Kp σ ρ σ ρ' → Q i ρ' → P i H') → t σ H P
def vNoPart : VPo := fun ρ Q => Q none ρ
def vPart (te : VE) : VPo := fun ρ Q => te ρ fun s ρ1 => ∃ i, s = .sh (.int i) ∧ Q (some i) ρ1
theorem runo_none {K : PySem.W.Frag} {Φ : Fr} : RunO K Φ tNoPart vNoPart := ⟨fun ρ Q Hk T σ H P q hh p => p none H Hk ρ (.refl _) hh (.refl _ _) q⟩
theorem runo_some {e : Expr} {te : VE} (h : PWE X Φ e te) : RunO X.K Φ (tPart (tSem X e)) (vPart te) := ⟨fun ρ Q Hk T σ H P q hh p =>
  h.run ρ _ Hk T σ H _ q hh fun v H1 Hk1 ρ1 s e1 h1 k1 ⟨i, hs, q1⟩ => by
    subst hs
    obtain ⟨v', ev, r⟩ := h1.top
    cases ev; cases r
    exact ⟨i, rfl, p _ H1 Hk1 ρ1 e1 h1.pop k1 q1⟩⟩
def slP (lo hi : Option Int) : Prim := fun ds R => match ds with
  | [.str x] => x.length ≤ sizeLine ∧ R (.val (.str (cutS x lo hi)))
  | [.lst ds] => R (.newL (cutL ds lo hi))
  | [.fls ds] => R (.newL (cutL ds lo hi))
  | _ => False
def rSlA (K : PySem.W.Frag) : V → Option Int → Option Int → Hp → VK → Prop := fun x lo hi H Q => rSlS x lo hi H Q ∨ rSlL K x lo hi H Q
theorem sl_all : SlR X (rSlA X.K) := sl_str.or sl_list
theorem ok_sl {lo hi : Option Int} : PrimOk1 X (fun x H Q => rSlA X.K x lo hi H Q) (slP lo hi) := by
  intro Hk H x dx P R ex vx q k
  unfold slP at q
  split at q
  · rename_i e; cases e
    exact .inl ⟨_, vx.str, q.1, k _ q.2 _ .str⟩
  · rename_i e; cases e
    obtain ⟨a, vs, rfl, hr, rr⟩ := vx.lst ex
    exact .inr ⟨a, vs, rfl, .of hr, fun p hp => k _ q p _ hp rr.cut⟩
  · rename_i e; cases e
    obtain ⟨a, vs, rfl, hr, rr⟩ := vx.fls ex
    exact .inr ⟨a, vs, rfl, hr, fun p hp => k _ q p _ hp rr.cut⟩
  · exact q.elim
def vSl (to : VO) (tl th : VPo) : VE := fun ρ Q => to ρ fun a ρ1 => tl ρ1 fun lo ρ2 => th ρ2 fun hi ρ3 => ∃ d, argD ρ3 a = some d ∧ slP lo hi [d] fun ret => Q ret.slot ρ3
theorem run_sl {e : Expr} {to : VO} {t1 t2 : TO} {tl th : VPo} (ha : PWO X Φ e to) (hl : RunO X.K Φ t1 tl) (hh : RunO X.K Φ t2 th) : RunE X.K Φ (tSl (rSlA X.K) (tSem X e) t1 t2) (vSl to tl th) := ⟨fun ρ Q Hk T σ H P q h0 p =>
  ha.run ρ _ Hk T σ H _ q h0 fun v H1 Hk1 ρ1 a ts e1 g1 h1 k1 q1 => hl.run ρ1 _ Hk1 (ts ++ T) σ H1 _ q1 h1 fun lo H2 Hk2 ρ2 e2 h2 k2 q2 => hh.run ρ2 _ Hk2 (ts ++ T) σ H2 _ q2 h2 fun hi H3 Hk3 ρ3 e3 h3 k3 ⟨d, hd, q3⟩ =>
    ok_sl Hk3 H3 v d P _ h3.ex (ArgAt.view h3 g1 hd) q3 fun ret hr => ret_post h3.drop (p.step (e1.trans (e2.trans e3)) (k1.trans (k2.trans k3))) hr⟩

/-! ### built-ins by name -/
def lenP : Prim := fun ds R => match ds with
  | [.str x] => x.length ≤ sizeLine ∧ R (.val (.int x.length))
  | [.lst ds] => R (.val (.int ds.length))
  | [.fls ds] => R (.val (.int ds.length))
  | [.tup ds] => R (.val (.int ds.length))
  | [.ftp ds] => R (.val (.int ds.length))
  | [.dct ds] => R (.val (.int ds.length))
  | _ => False
def rLenA (K : PySem.W.Frag) : List V → Hp → VK → Prop := fun xs H Q => (∃ x n, xs = [x] ∧ LenV K x H n ∧ Q (.int n) H) ∨ ∃ d kvs, xs = [.ref d] ∧ Rd H d (.dK kvs) ∧ Q (.int kvs.length) H
end
end WL

set_option Elab.async false
set_option linter.all false
set_option maxRecDepth 100000
set_option maxHeartbeats 4000000
/-! W7: built-ins by name, methods of texts, changes of own lists and dicts. -/
namespace WL
open PySem PySem.Spec PyProof.Rows L2
variable [TBs]
section
variable {X : Cx} {Φ : Fr}
theorem vs1 {K : PySem.W.Frag} {Hk H : Hp} {vs : List V} {d : D} (h : Views K Hk H vs [d]) : ∃ v, vs = [v] ∧ View K Hk H v d := by
  cases h with
  | cons h t => cases t; exact ⟨_, rfl, h⟩
theorem vs2 {K : PySem.W.Frag} {Hk H : Hp} {vs : List V} {d e : D} (h : Views K Hk H vs [d, e]) : ∃ v w, vs = [v, w] ∧ View K Hk H v d ∧ View K Hk H w e := by
  cases h with
  | cons h t =>
    cases t with
    | cons h2 t => cases t; exact ⟨_, _, rfl, h, h2⟩
theorem call_lenA : CallR X (.builtin "len") (rLenA X.K) := by
  intro pins s σ H vs us Q I rv q
  rcases q with q | q
  · exact call_len pins s σ H vs us Q I rv q
  · obtain ⟨a, kvs, rfl, ha, q⟩ := q
    obtain ⟨u, rfl, ru⟩ := vals1 rv
    cases ru
    exact d_len I ha fun t s' I' => ⟨.int kvs.length, H, I', ⟨t, rfl⟩, q⟩
theorem ok_len : PrimOk X (rLenA X.K) lenP := by
  intro Hk H vs ds P R ex vv q k
  unfold lenP at q
  split at q
  · obtain ⟨v, rfl, h⟩ := vs1 vv
    rename_i z
    have e := h.str
    subst e
    exact .inl ⟨.str z, z.length, rfl, ⟨q.1, rfl⟩, k _ q.2 _ .int⟩
  · obtain ⟨v, rfl, h⟩ := vs1 vv
    obtain ⟨a, vs, rfl, hr, rr⟩ := h.lst ex
    exact .inl ⟨_, vs.length, rfl, .inl ⟨_, .of hr, rfl⟩, by rw [rr.length]; exact k _ q _ .int⟩
  · obtain ⟨v, rfl, h⟩ := vs1 vv
    obtain ⟨a, vs, rfl, hr, rr⟩ := h.fls ex
    exact .inl ⟨_, vs.length, rfl, .inl ⟨_, hr, rfl⟩, by rw [rr.length]; exact k _ q _ .int⟩
  · obtain ⟨v, rfl, h⟩ := vs1 vv
    obtain ⟨a, vs, rfl, hr, rr⟩ := h.tup ex
    exact .inl ⟨_, vs.length, rfl, .inr ⟨_, .of hr, rfl⟩, by rw [rr.length]; exact k _ q _ .int⟩
  · obtain ⟨v, rfl, h⟩ := vs1 vv
    obtain ⟨a, vs, rfl, hr, rr⟩ := h.ftp ex
    exact .inl ⟨_, vs.length, rfl, .inr ⟨_, hr, rfl⟩, by rw [rr.length]; exact k _ q _ .int⟩
  · obtain ⟨v, rfl, h⟩ := vs1 vv
    obtain ⟨a, vs, rfl, hr, rr⟩ := h.dct ex
    exact .inr ⟨_, vs, rfl, hr, by rw [rr.length]; exact k _ q _ .int⟩
  · exact q.elim

/-! ints, bools -/
def absP : Prim := fun ds R => match ds with
  | [.int i] => R (.val (.int (if i < 0 then -i else i)))
  | _ => False
theorem ok_abs : PrimOk X (fun xs H Q => ∃ i, xs = [.int i] ∧ Q (.int (if i < 0 then -i else i)) H) absP := by
  intro Hk H vs ds P R ex vv q k
  unfold absP at q
  split at q
  · obtain ⟨v, rfl, h⟩ := vs1 vv
    exact ⟨_, by rw [h.int], k _ q _ .int⟩
  · exact q.elim
def intP : Prim := fun ds R => match ds with
  | [.int i] => R (.val (.int i))
  | [.bl b] => R (.val (.int (if b then 1 else 0)))
  | _ => False
theorem ok_int : PrimOk X (fun xs H Q => (∃ i, xs = [.int i] ∧ Q (.int i) H) ∨ ∃ k, xs = [.bl k] ∧ Q (.int (if k then 1 else 0)) H) intP := by
  intro Hk H vs ds P R ex vv q k
  unfold intP at q
  split at q
  · obtain ⟨v, rfl, h⟩ := vs1 vv
    exact .inl ⟨_, by rw [h.int], k _ q _ .int⟩
  · obtain ⟨v, rfl, h⟩ := vs1 vv
    exact .inr ⟨_, by rw [h.bl], k _ q _ .int⟩
  · exact q.elim
def strP : Prim := fun ds R => match ds with
  | [.int i] => i.natAbs.log2 < 1920 ∧ R (.val (.str (toString i)))
  | [.str x] => R (.val (.str x))
  | _ => False
def rStrA : List V → Hp → VK → Prop := fun xs H Q => (∃ i, xs = [.int i] ∧ i.natAbs.log2 < 1920 ∧ Q (.str (toString i)) H) ∨ ∃ a, xs = [.str a] ∧ Q (.str a) H
theorem call_strA : CallR X (.type "str") rStrA := CallR.or call_str_int SkE.call_str_str
theorem ok_str : PrimOk X rStrA strP := by
  intro Hk H vs ds P R ex vv q k
  unfold strP at q
  split at q
  · obtain ⟨v, rfl, h⟩ := vs1 vv
    exact .inl ⟨_, by rw [h.int], q.1, k _ q.2 _ .str⟩
  · obtain ⟨v, rfl, h⟩ := vs1 vv
    exact .inr ⟨_, by rw [h.str], k _ q _ .str⟩
  · exact q.elim
def reprP : Prim := fun ds R => match ds with
  | [.int i] => i.natAbs.log2 < 1920 ∧ R (.val (.str (toString i)))
  | [.str x] => (reprText x).length ≤ sizeLine ∧ R (.val (.str (reprText x)))
  | [.bl b] => R (.val (.str (if b then "True" else "False")))
  | [.non] => R (.val (.str "None"))
  | _ => False
def rReprA : List V → Hp → VK → Prop := fun xs H Q => ((∃ i, xs = [.int i] ∧ i.natAbs.log2 < 1920 ∧ Q (.str (toString i)) H) ∨ ∃ a, xs = [.str a] ∧ (reprText a).length ≤ sizeLine ∧ Q (.str (reprText a)) H) ∨
  ((∃ b : Bool, xs = [.bl b] ∧ Q (.str (if b then "True" else "False")) H) ∨ (xs = [.non] ∧ Q (.str "None") H))
theorem call_repr_bl : CallR X (.builtin "repr") (fun xs H Q => ∃ b : Bool, xs = [.bl b] ∧ Q (.str (if b then "True" else "False")) H) := by
  intro pins s σ H xs us Q I r h
  obtain ⟨a, rfl, q⟩ := h
  obtain ⟨u, rfl, rv⟩ := vals1 r
  cases rv
  refine PySem.P.repr_of_bool ⟨.str _, H, I.tok _, ?_, q⟩
  cases a <;> exact ⟨_, rfl⟩
theorem call_repr_non : CallR X (.builtin "repr") (fun xs H Q => xs = [.non] ∧ Q (.str "None") H) := by
  intro pins s σ H xs us Q I r h
  obtain ⟨rfl, q⟩ := h
  obtain ⟨u, rfl, rv⟩ := vals1 r
  cases rv
  exact PySem.P.repr_of_none ⟨.str _, H, I.tok _, ⟨_, rfl⟩, q⟩
theorem call_repr_str : CallR X (.builtin "repr") (fun xs H Q => ∃ a, xs = [.str a] ∧ (reprText a).length ≤ sizeLine ∧ Q (.str (reprText a)) H) := by
  intro pins s σ H xs us Q I r h
  obtain ⟨a, rfl, hz, q⟩ := h
  obtain ⟨u, rfl, t, rfl⟩ := vals1 r
  exact PySem.P.repr_of_str ⟨.str _, H, I.tok _, ⟨_, rfl⟩, q⟩ hz
theorem call_reprA : CallR X (.builtin "repr") rReprA := CallR.or (CallR.or SkE.call_repr_int call_repr_str) (CallR.or call_repr_bl call_repr_non)
theorem ok_repr : PrimOk X rReprA reprP := by
  intro Hk H vs ds P R ex vv q k
  unfold reprP at q
  split at q
  · obtain ⟨v, rfl, h⟩ := vs1 vv
    exact .inl (.inl ⟨_, by rw [h.int], q.1, k _ q.2 _ .str⟩)
  · obtain ⟨v, rfl, h⟩ := vs1 vv
    exact .inl (.inr ⟨_, by rw [h.str], q.1, k _ q.2 _ .str⟩)
  · obtain ⟨v, rfl, h⟩ := vs1 vv
    exact .inr (.inl ⟨_, by rw [h.bl], k _ q _ .str⟩)
  · obtain ⟨v, rfl, h⟩ := vs1 vv
    exact .inr (.inr ⟨by rw [h.non], k _ q _ .str⟩)
  · exact q.elim
/-! lists -/
def listP : Prim := fun ds R => match ds with
  | [.dct kvs] => R (.newL (kvs.map fun kv => dK kv.1))
  | [d] => ∃ ds, (seqLD d = some ds ∨ seqTD d = some ds) ∧ R (.newL ds)
  | _ => False
def rListK : List V → Hp → VK → Prop := fun xs H Q => ∃ d kvs, xs = [.ref d] ∧ Rd H d (.dK kvs) ∧ ∀ q, H q = none → Q (.ref q) (upd H q (.lst (kvs.map fun kv => kV kv.1)))
theorem call_list_rd (hc : X.calm = true) : CallR X (.type "list") rListK := by
  intro pins s σ H xs us Q I r ⟨d, kvs, e, hk, q⟩
  subst e
  obtain ⟨u, rfl, rx⟩ := vals1 r
  cases rx
  obtain ⟨z, lo, vs, rk, hd⟩ := dk_rd I.hok hk
  obtain ⟨ep, hat⟩ := hd.dictAt
  have hl : kvs.length = vs.length := rk.length
  refine PySem.W.kdl_call (PySem.W.kdl_dict (knd := mixKind X.prog X.w) (kvs := vs) (ep := ep) lo) (I.ok.hd hc) hat (hl ▸ z) fun h' tk acc' c' hkeep hS hacc => ?_
  have hz : (kvs.map fun kv => kV kv.1).length ≤ sizeLine := by simpa using z
  have hvals : Vals (kvs.map fun kv => kV kv.1) acc'.toList := by
    refine vals_of_at (by simp [hacc.1, hl]) fun j x w h1 h2 => ?_
    obtain ⟨k, y, hky, hi⟩ := hacc.2 j w (by simpa using h2)
    have hj : (kvs.map (·.1))[j]? = some k := by rw [KV.keys rk]; simp [hky]
    have hx : x = kV k := by
      have h3 : ((kvs.map (·.1)).map kV)[j]? = some x := by simpa using h1
      rw [List.getElem?_map, hj] at h3
      exact (Option.some.inj h3).symm
    subst hx
    exact relV_key hi
  have ob : ObjOk X.prog X.w (upd H s.heap.objs.size (.lst (kvs.map fun kv => kV kv.1))) h' s.heap.objs.size (.lst (kvs.map fun kv => kV kv.1)) := ⟨hz, acc'.toList, c', hvals, by simpa using hS⟩
  exact ⟨.ref _, _, I.laid hkeep (Nat.le_refl _) ob, rfl, q _ (I.hok.fresh (Nat.le_refl _))⟩
def rListA (K : PySem.W.Frag) : List V → Hp → VK → Prop := fun xs H Q => (∃ p ys, xs = [.ref p] ∧ (SqL K H p ys ∨ SqT K H p ys) ∧ ∀ l, H l = none → Q (.ref l) (upd H l (.lst ys))) ∨ rListK xs H Q
theorem call_listA (hc : X.calm = true) : CallR X (.type "list") (rListA X.K) := CallR.or call_list_of (call_list_rd hc)
theorem Reps.ofKeys {K : PySem.W.Frag} {H : Hp} : ∀ (ks : List Key), Reps K H (ks.map kV) (ks.map dK)
  | [] => .nil
  | .inl _ :: r => .cons .int (Reps.ofKeys r)
  | .inr _ :: r => .cons .str (Reps.ofKeys r)
theorem ok_list : PrimOk X (rListA X.K) listP := by
  intro Hk H vs ds P R ex vv q k
  unfold listP at q
  split at q
  · obtain ⟨v, rfl, h⟩ := vs1 vv
    obtain ⟨a, ws, rfl, hr, rr⟩ := h.dct ex
    refine .inr ⟨a, ws, rfl, hr, fun p hp => k _ q p _ hp ?_⟩
    rename_i kvs
    have e2 : (ws.map fun kv => kV kv.1) = (ws.map (·.1)).map kV := by simp
    have e3 : (kvs.map fun kv => dK kv.1) = (kvs.map (·.1)).map dK := by simp
    rw [e2, e3, rr.keys]
    exact Reps.ofKeys _
  · obtain ⟨v, rfl, h⟩ := vs1 vv
    obtain ⟨ds, hd, q⟩ := q
    rcases hd with hd | hd
    · obtain ⟨a, ws, rfl, hr, rr⟩ := h.seqL ex (seqLD_eq hd)
      exact .inl ⟨a, ws, rfl, .inl hr, fun p hp => k _ q p _ hp rr⟩
    · obtain ⟨a, ws, rfl, hr, rr⟩ := h.seqT ex (seqTD_eq hd)
      exact .inl ⟨a, ws, rfl, .inr hr, fun p hp => k _ q p _ hp rr⟩
  · exact q.elim

def sumP : Prim := fun ds R => ∃ (d : D) (l : List D) (ns : List Int), ds = [d] ∧ seqLD d = some l ∧ l = ns.map D.int ∧ R (.val (.int ns.sum))
theorem ok_sum : PrimOk X (rSum X.K) sumP := by
  intro Hk H vs ds P R ex vv ⟨d, l, ns, e, hd, hl, q⟩ k
  subst e; subst hl
  obtain ⟨v, rfl, h⟩ := vs1 vv
  obtain ⟨a, ws, rfl, hr, rr⟩ := h.seqL ex (seqLD_eq hd)
  rw [rr.ints] at hr
  exact ⟨a, ns, rfl, hr, k _ q _ .int⟩
def maxP : Prim := fun ds R => match ds with
  | [.int i, .int j] => R (.val (.int (if j > i then j else i)))
  | [d] => ∃ (l : List D) (ns : List Int), seqLD d = some l ∧ l = ns.map D.int ∧ ns ≠ [] ∧ ∀ m, m ∈ ns → (∀ y ∈ ns, y ≤ m) → R (.val (.int m))
  | _ => False
def rMaxA (K : PySem.W.Frag) : List V → Hp → VK → Prop := fun xs H Q => (∃ i j, xs = [.int i, .int j] ∧ Q (.int (if j > i then j else i)) H) ∨ rMax K xs H Q
theorem call_maxA (hc : X.calm = true) : CallR X (.builtin "max") (rMaxA X.K) := CallR.or (call_max2 hc) (cr_max hc)
theorem ok_max : PrimOk X (rMaxA X.K) maxP := by
  intro Hk H vs ds P R ex vv q k
  unfold maxP at q
  split at q
  · obtain ⟨v, w, rfl, h, h2⟩ := vs2 vv
    exact .inl ⟨_, _, by rw [h.int, h2.int], k _ q _ .int⟩
  · obtain ⟨l, ns, hd, hl, hn, q⟩ := q
    subst hl
    obtain ⟨v, rfl, h⟩ := vs1 vv
    obtain ⟨a, ws, rfl, hr, rr⟩ := h.seqL ex (seqLD_eq hd)
    rw [rr.ints] at hr
    exact .inr ⟨a, ns, rfl, hr, List.length_pos_iff.mpr hn, fun m h1 h2 => k _ (q m h1 h2) _ .int⟩
  · exact q.elim
def minP : Prim := fun ds R => match ds with
  | [.int i, .int j] => R (.val (.int (if j < i then j else i)))
  | [d] => ∃ (l : List D) (ns : List Int), seqLD d = some l ∧ l = ns.map D.int ∧ ns ≠ [] ∧ ∀ m, m ∈ ns → (∀ y ∈ ns, m ≤ y) → R (.val (.int m))
  | _ => False
def rMinA (K : PySem.W.Frag) : List V → Hp → VK → Prop := fun xs H Q => (∃ i j, xs = [.int i, .int j] ∧ Q (.int (if j < i then j else i)) H) ∨ rMin K xs H Q
theorem call_minA (hc : X.calm = true) : CallR X (.builtin "min") (rMinA X.K) := CallR.or (call_min2 hc) (cr_min hc)
theorem ok_min : PrimOk X (rMinA X.K) minP := by
  intro Hk H vs ds P R ex vv q k
  unfold minP at q
  split at q
  · obtain ⟨v, w, rfl, h, h2⟩ := vs2 vv
    exact .inl ⟨_, _, by rw [h.int, h2.int], k _ q _ .int⟩
  · obtain ⟨l, ns, hd, hl, hn, q⟩ := q
    subst hl
    obtain ⟨v, rfl, h⟩ := vs1 vv
    obtain ⟨a, ws, rfl, hr, rr⟩ := h.seqL ex (seqLD_eq hd)
    rw [rr.ints] at hr
    exact .inr ⟨a, ns, rfl, hr, List.length_pos_iff.mpr hn, fun m h1 h2 => k _ (q m h1 h2) _ .int⟩
  · exact q.elim
/-- all, any of truths -/
def allP : Prim := fun ds R => ∃ (d : D) (l : List D) (bs : List Bool), ds = [d] ∧ seqLD d = some l ∧ l = bs.map D.bl ∧ R (.val (.bl (bs.all id)))
theorem ok_all : PrimOk X (rAll X.K) allP := by
  intro Hk H vs ds P R ex vv ⟨d, l, bs, e, hd, hl, q⟩ k
  subst e; subst hl
  obtain ⟨v, rfl, h⟩ := vs1 vv
  obtain ⟨a, ws, rfl, hr, rr⟩ := h.seqL ex (seqLD_eq hd)
  rw [rr.bls] at hr
  exact ⟨a, bs, rfl, hr, k _ q _ .bl⟩
def anyP : Prim := fun ds R => ∃ (d : D) (l : List D) (bs : List Bool), ds = [d] ∧ seqLD d = some l ∧ l = bs.map D.bl ∧ R (.val (.bl (bs.any id)))
theorem ok_any : PrimOk X (rAny X.K) anyP := by
  intro Hk H vs ds P R ex vv ⟨d, l, bs, e, hd, hl, q⟩ k
  subst e; subst hl
  obtain ⟨v, rfl, h⟩ := vs1 vv
  obtain ⟨a, ws, rfl, hr, rr⟩ := h.seqL ex (seqLD_eq hd)
  rw [rr.bls] at hr
  exact ⟨a, bs, rfl, hr, k _ q _ .bl⟩
/-- sorted: ints, texts below 64 -/
def sortedP : Prim := fun ds R => ∃ (d : D) (l : List D), ds = [d] ∧ seqLD d = some l ∧ ((∃ (ns : List Int), l = ns.map D.int ∧ ∀ ms : List Int, ms.Perm ns → ms.Pairwise (· ≤ ·) → R (.newL (ms.map D.int))) ∨
  ∃ (xs : List Str), l = xs.map D.str ∧ xs.length < 64 ∧ ∀ ys : List Str, ys.Perm xs → sortedS ys = true → R (.newL (ys.map D.str)))
def rSortedA (K : PySem.W.Frag) : List V → Hp → VK → Prop := fun xs H Q => rSortedI K xs H Q ∨ rSortedS K xs H Q
theorem call_sortedA : CallR X (.builtin "sorted") (rSortedA X.K) := CallR.or cr_sortedI cr_sortedS
theorem ok_sorted : PrimOk X (rSortedA X.K) sortedP := by
  intro Hk H vs ds P R ex vv ⟨d, l, e, hd, q⟩ k
  subst e
  obtain ⟨v, rfl, h⟩ := vs1 vv
  obtain ⟨a, ws, rfl, hr, rr⟩ := h.seqL ex (seqLD_eq hd)
  rcases q with ⟨ns, hl, q⟩ | ⟨xs, hl, hz, q⟩
  · subst hl
    rw [rr.ints] at hr
    exact .inl ⟨a, ns, rfl, hr, fun ms p h1 h2 hp => k _ (q ms h1 h2) p _ hp (Reps.of_ints ms)⟩
  · subst hl
    rw [rr.strs] at hr
    exact .inr ⟨a, xs, rfl, hr, hz, fun ms p h1 h2 hp => k _ (q ms h1 h2) p _ hp (Reps.of_strs ms)⟩
def tupleP : Prim := fun ds R => match ds with
  | [.lst l] => R (.newT l)
  | _ => False
theorem ok_tuple : PrimOk X (fun xs H Q => ∃ p ys, xs = [.ref p] ∧ ((SqL X.K H p ys ∧ ∀ l, H l = none → Q (.ref l) (upd H l (.tup ys))) ∨ (SqT X.K H p ys ∧ Q (.ref p) H))) tupleP := by
  intro Hk H vs ds P R ex vv q k
  unfold tupleP at q
  split at q
  · obtain ⟨v, rfl, h⟩ := vs1 vv
    obtain ⟨a, ws, rfl, hr, rr⟩ := h.lst ex
    exact ⟨a, ws, rfl, .inl ⟨.of hr, fun p hp => k _ q p _ hp rr⟩⟩
  · exact q.elim
/-- dict of pairs -/
def pairsD : List D → Option (List (Key × D))
  | [] => some []
  | .tup [k, d] :: r => match keyD k, pairsD r with
    | some k, some r => some ((k, d) :: r)
    | _, _ => none
  | _ => none
def putD {κ α : Type} [DecidableEq κ] (kvs : List (κ × α)) (k : κ) (v : α) : List (κ × α) :=
  if (kvs.any fun kv => decide (kv.1 = k)) = true then kvs.map (fun kv => if kv.1 = k then (kv.1, v) else kv) else kvs ++ [(k, v)]
def mergeD {α : Type} (kvs more : List (Key × α)) : List (Key × α) := more.foldl (fun acc kv => putD acc kv.1 kv.2) kvs
section
variable {K : PySem.W.Frag} {Φ : Fr} {H : Hp}
theorem RepK.any : ∀ {vs : List (Key × V)} {ds : List (Key × D)} {k : Key}, RepK K H vs ds → (vs.any fun kv => decide (kv.1 = k)) = (ds.any fun kv => decide (kv.1 = k))
  | _, _, _, .nil => rfl
  | _, _, k, .cons (vs := vs) (ds := ds) _ t => by rw [List.any_cons, List.any_cons, RepK.any t]
theorem RepK.repl {v : V} {d : D} (r : Rep K H v d) : ∀ {vs : List (Key × V)} {ds : List (Key × D)} {k : Key}, RepK K H vs ds → RepK K H (vs.map fun kv => if kv.1 = k then (kv.1, v) else kv) (ds.map fun kv => if kv.1 = k then (kv.1, d) else kv)
  | _, _, _, .nil => .nil
  | _, _, k, .cons (k := j) (vs := vs) (ds := ds) h t => by
    rw [List.map_cons, List.map_cons]
    by_cases e : j = k
    · rw [if_pos e, if_pos e]; exact .cons r (RepK.repl r t)
    · rw [if_neg e, if_neg e]; exact .cons h (RepK.repl r t)
theorem RepK.append : ∀ {vs ws : List (Key × V)} {ds es : List (Key × D)}, RepK K H vs ds → RepK K H ws es → RepK K H (vs ++ ws) (ds ++ es)
  | _, _, _, _, .nil, h => h
  | _, _, _, _, .cons h t, h2 => .cons h (RepK.append t h2)
theorem RepK.put {v : V} {d : D} {vs : List (Key × V)} {ds : List (Key × D)} {k : Key} (h : RepK K H vs ds) (r : Rep K H v d) : RepK K H (putK vs k v) (putD ds k d) := by
  unfold putK putD
  rw [h.any]
  split
  · exact h.repl r
  · exact h.append (.cons r .nil)
theorem RepK.merge : ∀ {ws vs : List (Key × V)} {es ds : List (Key × D)}, RepK K H vs ds → RepK K H ws es → RepK K H (mergeK vs ws) (mergeD ds es)
  | [], _, [], _, h, .nil => h
  | (k, v) :: ws, vs, (_, d) :: es, ds, h, .cons r t => RepK.merge (ws := ws) (es := es) (vs := putK vs k v) (ds := putD ds k d) (h.put r) t
theorem RepT.any : ∀ {vs : List (List Key × V)} {ds : List (List Key × D)} {k : List Key}, RepT K H vs ds → (vs.any fun kv => decide (kv.1 = k)) = (ds.any fun kv => decide (kv.1 = k))
  | _, _, _, .nil => rfl
  | _, _, k, .cons (vs := vs) (ds := ds) _ t => by rw [List.any_cons, List.any_cons, RepT.any t]
theorem RepT.repl {v : V} {d : D} (r : Rep K H v d) : ∀ {vs : List (List Key × V)} {ds : List (List Key × D)} {k : List Key}, RepT K H vs ds → RepT K H (vs.map fun kv => if kv.1 = k then (kv.1, v) else kv) (ds.map fun kv => if kv.1 = k then (kv.1, d) else kv)
  | _, _, _, .nil => .nil
  | _, _, k, .cons (k := j) (vs := vs) (ds := ds) h t => by
    rw [List.map_cons, List.map_cons]
    by_cases e : j = k
    · rw [if_pos e, if_pos e]; exact .cons r (RepT.repl r t)
    · rw [if_neg e, if_neg e]; exact .cons h (RepT.repl r t)
theorem RepT.append : ∀ {vs ws : List (List Key × V)} {ds es : List (List Key × D)}, RepT K H vs ds → RepT K H ws es → RepT K H (vs ++ ws) (ds ++ es)
  | _, _, _, _, .nil, h => h
  | _, _, _, _, .cons h t, h2 => .cons h (RepT.append t h2)
theorem RepT.put {v : V} {d : D} {vs : List (List Key × V)} {ds : List (List Key × D)} {k : List Key} (h : RepT K H vs ds) (r : Rep K H v d) : RepT K H (putK vs k v) (putD ds k d) := by
  unfold putK putD
  rw [h.any]
  split
  · exact h.repl r
  · exact h.append (.cons r .nil)
theorem Reps.pairs : ∀ {vs : List V} {ds : List D} {kds : List (Key × D)}, Reps K H vs ds → pairsD ds = some kds → ∃ (ps : List Addr) (kvs : List (Key × V)), vs = ps.map V.ref ∧ Paired (fun p kv => SqT K H p [kV kv.1, kv.2]) ps kvs ∧ RepK K H kvs kds
  | _, _, _, .nil, e => by cases e; exact ⟨[], [], rfl, .nil, .nil⟩
  | _, _, kds, .cons (d := d) h t, e => by
    unfold pairsD at e
    split at e
    · rename_i heq; cases heq
    · rename_i ds k d r heq
      cases heq
      split at e
      · rename_i k' r' h1 h2
        cases e
        obtain ⟨ps, kvs, e1, p1, r1⟩ := t.pairs h2
        cases h with
        | tup hh rr =>
          cases rr with
          | cons ra rt =>
            cases rt with
            | cons rb rt =>
              cases rt
              have ek := ra.key h1
              subst ek; subst e1
              exact ⟨_ :: ps, (k', _) :: kvs, rfl, .cons (.of hh) p1, .cons rb r1⟩
      · cases e
    · cases e
end
def dictP : Prim := fun ds R => ∃ (d : D) (l : List D) (kvs : List (Key × D)), ds = [d] ∧ seqLD d = some l ∧ pairsD l = some kvs ∧ R (.newD (mergeD [] kvs))
theorem ok_dict : PrimOk X (fun xs H Q => ∃ (a : Addr) (ps : List Addr) (kvs : List (Key × V)), xs = [.ref a] ∧ SqL X.K H a (ps.map V.ref) ∧ Paired (fun p kv => SqT X.K H p [kV kv.1, kv.2]) ps kvs ∧ ∀ p, H p = none → Q (.ref p) (upd H p (.dK (mergeK [] kvs)))) dictP := by
  intro Hk H vs ds P R ex vv ⟨d, l, kvs, e, hd, hp, q⟩ k
  subst e
  obtain ⟨v, rfl, h⟩ := vs1 vv
  obtain ⟨a, ws, rfl, hr, rr⟩ := h.seqL ex (seqLD_eq hd)
  obtain ⟨ps, kws, rfl, pp, rk⟩ := (rr.mono ex).pairs hp
  obtain ⟨ps', kws', e1, pp', rk'⟩ := rr.pairs hp
  have e2 : ps = ps' := by
    have inj : ∀ {a b : List Addr}, a.map V.ref = b.map V.ref → a = b := fun {a b} h => (List.map_inj_right (fun x y z => by injection z)).mp h
    exact inj e1
  subst e2
  refine ⟨a, ps, kws', rfl, hr, ?_, fun p hp => k _ q p _ hp (RepK.merge .nil rk')⟩
  exact Paired.mapP pp' fun p kv hq => Same.sqT ex hq
/-- isinstance -/
def tyD : D → Option String
  | .non => some "NoneType"
  | .bl _ => some "bool"
  | .int _ => some "int"
  | .str _ => some "str"
  | .lst _ => some "list"
  | .fls _ => some "list"
  | .tup _ => some "tuple"
  | .ftp _ => some "tuple"
  | .dct _ => some "dict"
  | _ => none
theorem View.tyx {K : PySem.W.Frag} {Hk H : Hp} {v : V} {d : D} {t : String} (ex : Same Hk H) (h : View K Hk H v d) (e : tyD d = some t) : TyX K H v (.type t) := by
  cases d with
  | non => rw [h.non]; cases e; exact .base .non
  | bl b => rw [h.bl]; cases e; exact .base (.bl b)
  | int b => rw [h.int]; cases e; exact .base (.int b)
  | str b => rw [h.str]; cases e; exact .base (.str b)
  | lst l => obtain ⟨a, vs, rfl, hr, _⟩ := h.lst ex; cases e; exact .base (.lst hr)
  | tup l => obtain ⟨a, vs, rfl, hr, _⟩ := h.tup ex; cases e; exact .base (.tup hr)
  | fls l =>
    obtain ⟨a, vs, rfl, hr, _⟩ := h.fls ex; cases e
    rcases hr with (hr | ⟨o, hr⟩) | ⟨o, its, n, hk, hc, _⟩
    · exact .base (.lst hr)
    · exact .base (.frz hr)
    · exact .kList hk hc
  | ftp l =>
    obtain ⟨a, vs, rfl, hr, _⟩ := h.ftp ex; cases e
    rcases hr with (hr | ⟨o, hr⟩) | ⟨o, its, n, hk, hc, _⟩
    · exact .base (.tup hr)
    · exact .fTuple hr
    · exact .kTuple hk hc
  | dct l =>
    obtain ⟨a, vs, rfl, hr, _⟩ := h.dct ex; cases e
    rcases hr with hr | ⟨o, hr⟩
    · exact .base (.dK hr)
    · exact .fDict hr
  | dcT l => cases e
  | opq v => cases e
def kitAnyB (t : String) : List String → Option Bool
  | [] => some false
  | c :: r => match kitB t c with
    | some true => some true
    | some false => kitAnyB t r
    | none => none
def isiP : Prim := fun ds R => ∃ (d : D) (T t : String) (b : Bool), ds = [d, .opq (.ty T)] ∧ tyD d = some t ∧ kitB t T = some b ∧ R (.val (.bl b))
def isiTP : Prim := fun ds R => ∃ (d : D) (Ts : List String) (t : String) (b : Bool), ds = [d, .tup (Ts.map fun n => .opq (.ty n))] ∧ tyD d = some t ∧ kitAnyB t Ts = some b ∧ R (.val (.bl b))
theorem View.opq {K : PySem.W.Frag} {Hk H : Hp} {v w : V} (h : View K Hk H v (.opq w)) : v = w := by
  generalize e : D.opq w = d at h
  cases h with
  | known r => subst e; cases r; rfl
  | own r => cases r <;> cases e
theorem ok_isi : PrimOk X (rIsi X.K) isiP := by
  intro Hk H vs ds P R ex vv ⟨d, T, t, b, e, ht, hk, q⟩ k
  subst e
  obtain ⟨v, w, rfl, h, h2⟩ := vs2 vv
  have := h2.opq
  subst this
  exact ⟨v, .ty T, .type t, .type T, b, rfl, .ty T, h.tyx ex ht, kit_ty hk, k _ q _ .bl⟩
theorem Reps.tys {K : PySem.W.Frag} {H : Hp} : ∀ {vs : List V} {Ts : List String}, Reps K H vs (Ts.map fun n => .opq (.ty n)) → Paired ClsV vs (Ts.map Value.type) ∧ vs = Ts.map V.ty
  | _, [], .nil => ⟨.nil, rfl⟩
  | _, T :: Ts, .cons h t => by
    cases h
    obtain ⟨h1, h2⟩ := t.tys
    exact ⟨.cons (.ty T) h1, by rw [h2]; rfl⟩
theorem kitAny_of {K : PySem.W.Frag} {t : String} : ∀ {Ts : List String} {b : Bool}, kitAnyB t Ts = some b → PySem.W.kitAny K (.type t) (Ts.map Value.type) = some b
  | [], b, e => by cases e; rfl
  | T :: Ts, b, e => by
    unfold kitAnyB at e
    split at e
    · rename_i h; cases e
      exact kitAny_cons (kit_ty h) (fun z => by cases z) fun _ => rfl
    · rename_i h
      exact kitAny_cons (kit_ty h) (fun _ => kitAny_of e) fun z => by cases z
    · cases e
theorem ok_isiT : PrimOk X (rIsiT X.K) isiTP := by
  intro Hk H vs ds P R ex vv ⟨d, Ts, t, b, e, ht, hk, q⟩ k
  subst e
  obtain ⟨v, w, rfl, h, h2⟩ := vs2 vv
  obtain ⟨a, us, rfl, hr, rr⟩ := h2.tup ex
  obtain ⟨h3, h4⟩ := rr.tys
  exact ⟨v, a, us, .type t, _, b, rfl, hr, h3, h.tyx ex ht, kitAny_of hk, k _ q _ .bl⟩
end
end WL

set_option Elab.async false
set_option linter.all false
set_option maxRecDepth 100000
set_option maxHeartbeats 4000000
/-! W8: changes of own lists and dicts, joins, gets, truth of data. -/
namespace WL
open PySem PySem.Spec PyProof.Rows L2
variable [TBs]

section
variable {K : PySem.W.Frag} {Φ : Fr} {Hk H : Hp} {ρ : Rho} {T : List Cell} {σ : L2.St} {i : Nat} {b : Bool}
theorem kp_ow {o o' : Own} (e : ρ[i]? = some (.ow b o)) : Kp σ ρ σ (ρ.set i (.ow b o')) := kp_set e fun o1 z => by cases z; exact ⟨o', rfl⟩
theorem Holds.mutL {ds : List D} (h : Holds K Φ Hk ρ T σ H) (e : ρ[i]? = some (.ow b (.lst ds))) : ∃ p vs, σ[i]? = some (some (.ref p)) ∧ H p = some (.lst vs) ∧ Reps K Hk vs ds ∧
    ∀ vs' ds', Reps K Hk vs' ds' → Holds K Φ Hk (ρ.set i (.ow b (.lst ds'))) T σ (upd H p (.lst vs')) := by
  obtain ⟨v, R, ev, h1, back⟩ := h.at' e
  obtain ⟨p, vs, ex, hp, r, k⟩ := h1.lst
  subst ex
  exact ⟨p, vs, ev, hp, r, fun vs' ds' r' => back _ _ _ (k vs' ds' r') (.refl _) (kp_ow e)⟩
theorem Holds.mutD {ds : List (Key × D)} (h : Holds K Φ Hk ρ T σ H) (e : ρ[i]? = some (.ow b (.dct ds))) : ∃ p vs, σ[i]? = some (some (.ref p)) ∧ H p = some (.dK vs) ∧ RepK K Hk vs ds ∧
    ∀ vs' ds', RepK K Hk vs' ds' → Holds K Φ Hk (ρ.set i (.ow b (.dct ds'))) T σ (upd H p (.dK vs')) := by
  obtain ⟨v, R, ev, h1, back⟩ := h.at' e
  obtain ⟨p, vs, ex, hp, r, k⟩ := h1.dct
  subst ex
  exact ⟨p, vs, ev, hp, r, fun vs' ds' r' => back _ _ _ (k vs' ds' r') (.refl _) (kp_ow e)⟩
end

section
variable {X : Cx} {Φ : Fr} {e k : Expr} {te tk : VE}
/-- x.append(e) -/
def vApp (i : Nat) (te : VE) : VE := fun ρ Q => (∃ b ds, ρ[i]? = some (.ow b (.lst ds))) ∧ te ρ fun s ρ1 => ∃ b ds d, ρ1[i]? = some (.ow b (.lst ds)) ∧ slotD s = some d ∧ ds.length < sizeLine ∧ Q (.sh .non) (ρ1.set i (.ow b (.lst (ds ++ [d]))))
theorem run_app (i : Nat) (h : PWE X Φ e te) : RunE X.K Φ (tBM X.K "list" rAppend (tVar i) (tCons (tSem X e) tNil)) (vApp i te) := ⟨fun ρ Q Hk T σ H P ⟨⟨b0, ds0, e0⟩, q⟩ hh p => by
  obtain ⟨p0, vs0, ev, hp0, _, _⟩ := hh.mutL e0
  refine ⟨.ref p0, ev, .inl ⟨rfl, vs0, .of hp0⟩, h.run ρ _ Hk T σ H _ q hh fun v H1 Hk1 ρ1 s e1 h1 k1 ⟨b, ds, d, e2, hs, hz, q1⟩ => ?_⟩
  obtain ⟨Hk2, e3, rd, h2⟩ := h1.know_top hs
  obtain ⟨p1, vs1, ev1, hp1, r1, mu⟩ := h2.mutL e2
  rw [ev] at ev1; cases ev1
  exact ⟨p0, vs1, v, rfl, rfl, hp1, by rw [r1.length]; exact hz, p _ _ Hk2 _ _ (e1.trans e3) ((mu _ _ (r1.append (.one rd))).sh .non) (k1.trans (kp_ow e2)) q1⟩⟩
/-- x.pop() -/
def vPop (i : Nat) : VE := fun ρ Q => ∃ b ds d, ρ[i]? = some (.ow b (.lst ds)) ∧ ds[ds.length - 1]? = some d ∧ Q (.sh d) (ρ.set i (.ow b (.lst ds.dropLast)))
theorem run_pop (i : Nat) : RunE X.K Φ (tBM0 X.K "list" rPop (tVar i)) (vPop i) := ⟨fun ρ Q Hk T σ H P ⟨b, ds, d, e0, hd, q⟩ hh p => by
  obtain ⟨p0, vs0, ev, hp0, r0, mu⟩ := hh.mutL e0
  obtain ⟨v, hv, rv⟩ := r0.getD hd
  exact ⟨.ref p0, ev, .inl ⟨rfl, vs0, .of hp0⟩, p0, vs0, v, rfl, rfl, hp0, by rw [r0.length]; exact hv, p _ _ Hk _ _ (.refl _) ((mu _ _ r0.dropLast).sh rv) (kp_ow e0) q⟩⟩
/-- x.pop(k) -/
def vPopAt (i : Nat) (tk : VE) : VE := fun ρ Q => (∃ b ds, ρ[i]? = some (.ow b (.lst ds))) ∧ tk ρ fun s ρ1 => ∃ (k : Int) (j : Nat) (b : Bool) (ds : List D) (d : D), s = .sh (.int k) ∧ ρ1[i]? = some (.ow b (.lst ds)) ∧
  (-(2 ^ 63) ≤ k ∧ k < 2 ^ 63) ∧ seqIndex? k ds.length = some j ∧ ds[j]? = some d ∧ Q (.sh d) (ρ1.set i (.ow b (.lst (ds.eraseIdx j))))
theorem run_popAt (i : Nat) (h : PWE X Φ e te) : RunE X.K Φ (tBM X.K "list" rPopAt (tVar i) (tCons (tSem X e) tNil)) (vPopAt i te) := ⟨fun ρ Q Hk T σ H P ⟨⟨b0, ds0, e0⟩, q⟩ hh p => by
  obtain ⟨p0, vs0, ev, hp0, _, _⟩ := hh.mutL e0
  refine ⟨.ref p0, ev, .inl ⟨rfl, vs0, .of hp0⟩, h.run ρ _ Hk T σ H _ q hh fun v H1 Hk1 ρ1 s e1 h1 k1 ⟨k, j, b, ds, d, hs, e2, hz, hj, hd, q1⟩ => ?_⟩
  subst hs
  obtain ⟨v', ev', rv⟩ := h1.top
  cases ev'; cases rv
  obtain ⟨p1, vs1, ev1, hp1, r1, mu⟩ := h1.pop.mutL e2
  rw [ev] at ev1; cases ev1
  obtain ⟨w, hw, rw'⟩ := r1.getD hd
  exact ⟨p0, vs1, k, j, w, rfl, rfl, hp1, hz.1, hz.2, by rw [r1.length]; exact hj, hw, p _ _ Hk1 _ _ e1 ((mu _ _ (r1.eraseIdx j)).sh rw') (k1.trans (kp_ow e2)) q1⟩⟩
/-- x.extend(e) -/
def vExt (i : Nat) (te : VE) : VE := fun ρ Q => (∃ b ds, ρ[i]? = some (.ow b (.lst ds))) ∧ te ρ fun s ρ1 => ∃ b ds es, ρ1[i]? = some (.ow b (.lst ds)) ∧ slotD s = some (.lst es) ∧ ds.length + es.length ≤ sizeLine ∧ Q (.sh .non) (ρ1.set i (.ow b (.lst (ds ++ es))))
theorem run_ext (i : Nat) (h : PWE X Φ e te) : RunE X.K Φ (tBM X.K "list" rExtend (tVar i) (tCons (tSem X e) tNil)) (vExt i te) := ⟨fun ρ Q Hk T σ H P ⟨⟨b0, ds0, e0⟩, q⟩ hh p => by
  obtain ⟨p0, vs0, ev, hp0, _, _⟩ := hh.mutL e0
  refine ⟨.ref p0, ev, .inl ⟨rfl, vs0, .of hp0⟩, h.run ρ _ Hk T σ H _ q hh fun v H1 Hk1 ρ1 s e1 h1 k1 ⟨b, ds, es, e2, hs, hz, q1⟩ => ?_⟩
  obtain ⟨Hk2, e3, rd, h2⟩ := h1.know_top hs
  obtain ⟨p1, vs1, ev1, hp1, r1, mu⟩ := h2.mutL e2
  rw [ev] at ev1; cases ev1
  cases rd with
  | lst hq rq => exact ⟨p0, _, vs1, _, rfl, rfl, hp1, h2.ex _ _ hq, by rw [r1.length, rq.length]; exact hz, p _ _ Hk2 _ _ (e1.trans e3) ((mu _ _ (r1.append rq)).sh .non) (k1.trans (kp_ow e2)) q1⟩⟩

/-! ### statements -/
variable {st : Stmt}
/-- x[k] = e, a list -/
def vSetL (i : Nat) (tk te : VE) : VS := fun R ρ => te ρ fun s ρ1 => (∃ b ds, ρ1[i]? = some (.ow b (.lst ds))) ∧ tk ρ1 fun sk ρ2 => ∃ (k : Int) (j : Nat) (b : Bool) (ds : List D) (d : D), sk = .sh (.int k) ∧ ρ2[i]? = some (.ow b (.lst ds)) ∧ ixN ds.length k = some j ∧ slotD s = some d ∧
  R.nx (ρ2.set i (.ow b (.lst (ds.set j d))))
theorem pws_setL (i : Nat) (hp : PS X st (tAsg (tSem X e) (gSub (tVar i) (tSem X k) rSetL))) (hk : PWE X Φ k tk) (h : PWE X Φ e te) : PWS X Φ st (vSetL i tk te) := ⟨fun ρ R Hk T σ H D q hh o => tSemS_of hp
  (h.run ρ _ Hk T σ H _ q hh fun v H1 Hk1 ρ1 s e1 h1 k1 ⟨⟨b0, ds0, e0⟩, q1⟩ => by
    obtain ⟨p0, vs0, ev, hp0, _, _⟩ := h1.mutL e0
    refine ⟨.ref p0, ev, hk.run ρ1 _ Hk1 ((some v, s) :: T) σ H1 _ q1 h1 fun u H2 Hk2 ρ2 sk e2 h2 k2 ⟨k, j, b, ds, d, hs, e3, hj, hd, q2⟩ => ?_⟩
    subst hs
    obtain ⟨v', ev', rv⟩ := h2.top
    cases ev'; cases rv
    obtain ⟨Hk3, e4, rd, h3⟩ := h2.pop.know_top hd
    obtain ⟨p1, vs1, ev1, hp1, r1, mu⟩ := h3.mutL e3
    rw [ev] at ev1; cases ev1
    exact ⟨p0, vs1, k, j, rfl, rfl, hp1, by rw [r1.length]; exact hj, o.nx σ _ Hk3 _ (e1.trans (e2.trans e4)) (mu _ _ (r1.set rd j)) (k1.trans (k2.trans (kp_ow e3))) q2⟩)⟩
/-- x[k] = e, a dict -/
def vPutD (i : Nat) (tk te : VE) : VS := fun R ρ => te ρ fun s ρ1 => (∃ b ds, ρ1[i]? = some (.ow b (.dct ds))) ∧ tk ρ1 fun sk ρ2 => ∃ (kd : D) (key : Key) (b : Bool) (ds : List (Key × D)) (d : D), sk = .sh kd ∧ keyD kd = some key ∧ ρ2[i]? = some (.ow b (.dct ds)) ∧ ds.length < sizeLine ∧ slotD s = some d ∧
  R.nx (ρ2.set i (.ow b (.dct (putD ds key d))))
theorem pws_putD (i : Nat) (hp : PS X st (sDPut (tVar i) (tSem X k) (tSem X e))) (hk : PWE X Φ k tk) (h : PWE X Φ e te) : PWS X Φ st (vPutD i tk te) := ⟨fun ρ R Hk T σ H D q hh o => tSemS_of hp
  (h.run ρ _ Hk T σ H _ q hh fun v H1 Hk1 ρ1 s e1 h1 k1 ⟨⟨b0, ds0, e0⟩, q1⟩ => by
    obtain ⟨p0, vs0, ev, hp0, _, _⟩ := h1.mutD e0
    refine ⟨.ref p0, ev, hk.run ρ1 _ Hk1 ((some v, s) :: T) σ H1 _ q1 h1 fun u H2 Hk2 ρ2 sk e2 h2 k2 ⟨kd, key, b, ds, d, hs, hkey, e3, hz, hd, q2⟩ => ?_⟩
    subst hs
    obtain ⟨v', ev', rv⟩ := h2.top
    cases ev'
    have ek := rv.key hkey
    subst ek
    obtain ⟨Hk3, e4, rd, h3⟩ := h2.pop.know_top hd
    obtain ⟨p1, vs1, ev1, hp1, r1, mu⟩ := h3.mutD e3
    rw [ev] at ev1; cases ev1
    exact ⟨p0, _, rfl, .inl ⟨vs1, key, hp1, rfl, by rw [r1.length]; exact hz, rfl⟩, o.nx σ _ Hk3 _ (e1.trans (e2.trans e4)) (mu _ _ (r1.put rd)) (k1.trans (k2.trans (kp_ow e3))) q2⟩)⟩
/-- x[k], a list, by values -/
theorem pget_list : PGet X (fun o i H Q => ∃ p vs k v, o = .ref p ∧ i = .int k ∧ H p = some (.lst vs) ∧ 0 ≤ k ∧ vs[k.toNat]? = some v ∧ Q v H) := by
  intro pins s σ H o i ov iv Q I ro ri ⟨p, vs, k, v, e1, e2, hp, h0, hv, q⟩
  subst e1; subst e2
  cases ro
  obtain ⟨t, rfl⟩ := ri
  obtain ⟨its, r, pl, hz⟩ := I.list (.of hp)
  obtain ⟨w, ew, rw'⟩ := r.get hv
  have hl : k.toNat < vs.length := (List.getElem?_eq_some_iff.mp hv).1
  have hn := line63
  exact wpAny_getItem_list pl.isList h0 (by omega) (by simpa using ew) ⟨v, H, I, rw', q⟩
/-- x[k] op= e, a list -/
def vAugL (i : Nat) (op : Prim) (tk te : VE) : VS := fun R ρ => (∃ b ds, ρ[i]? = some (.ow b (.lst ds))) ∧ tk ρ fun sk ρ1 => ∃ (k : Int) (b : Bool) (ds : List D) (d : D), sk = .sh (.int k) ∧ ρ1[i]? = some (.ow b (.lst ds)) ∧ 0 ≤ k ∧ ds[k.toNat]? = some d ∧
  te ρ1 fun s ρ2 => ∃ (b' : Bool) (ds' : List D) (dy : D), slotD s = some dy ∧ ρ2[i]? = some (.ow b' (.lst ds')) ∧ k < ds'.length ∧ op [d, dy] fun ret => ∃ z, ret = .val z ∧ R.nx (ρ2.set i (.ow b' (.lst (ds'.set k.toNat z))))
theorem pws_augL {tip : TIp} {op : Prim} (i : Nat) (hp : PS X st (tAugS (tVar i) (tSem X k) (tSem X e) (fun o i H Q => ∃ p vs k v, o = .ref p ∧ i = .int k ∧ H p = some (.lst vs) ∧ 0 ≤ k ∧ vs[k.toNat]? = some v ∧ Q v H) tip rSetL)) (ho : PrimOk2 X tip op) (hk : PWE X Φ k tk) (h : PWE X Φ e te) :
    PWS X Φ st (vAugL i op tk te) := ⟨fun ρ R Hk T σ H D ⟨⟨b0, ds0, e0⟩, q⟩ hh o => tSemS_of hp (by
  obtain ⟨p0, vs0, ev, hp0, _, _⟩ := hh.mutL e0
  refine ⟨.ref p0, ev, hk.run ρ _ Hk T σ H _ q hh fun u H1 Hk1 ρ1 sk e1 h1 k1 ⟨k, b, ds, d, hs, e2, h0, hd, q1⟩ => ?_⟩
  subst hs
  obtain ⟨v', ev', rv⟩ := h1.top
  cases ev'; cases rv
  obtain ⟨p1, vs1, ev1, hp1, r1, _⟩ := h1.pop.mutL e2
  rw [ev] at ev1; cases ev1
  obtain ⟨x, hx, rx⟩ := r1.getD hd
  refine ⟨p0, vs1, k, x, rfl, rfl, hp1, h0, hx, h.run ρ1 _ Hk1 T σ H1 _ q1 h1.pop fun y H2 Hk2 ρ2 s e3 h2 k2 ⟨b', ds', dy, hy, e4, hlt, q2⟩ => ?_⟩
  refine ho Hk2 H2 x y d dy _ _ h2.ex (.known (rx.mono e3)) (HL.view h2.front hy) q2 fun ret ⟨z, ez, q3⟩ => ?_
  subst ez
  intro w rw'
  obtain ⟨p2, vs2, ev2, hp2, r2, mu⟩ := h2.pop.mutL e4
  rw [ev] at ev2; cases ev2
  have hj : ixN vs2.length k = some k.toNat := by
    unfold ixN
    rw [if_pos h0, if_pos (by rw [r2.length]; exact hlt)]
  exact ⟨p0, vs2, k, k.toNat, rfl, rfl, hp2, hj, o.nx σ _ Hk2 _ (e1.trans e3) (mu _ _ (r2.set rw' k.toNat)) (k1.trans (k2.trans (kp_ow e4))) q3⟩)⟩

/-! ### {} -/
def vNewD : VE := fun ρ Q => Q (.ow false (.dct [])) ρ
theorem run_newD : RunE X.K Φ tDNewK vNewD := ⟨fun ρ Q Hk T σ H P q hh p => fun a ha => p _ _ Hk ρ _ (.refl _) (hh.own ha (.dct upd_same .nil)) (.refl _ _) q⟩
end
end WL

set_option Elab.async false
set_option linter.all false
set_option maxRecDepth 100000
set_option maxHeartbeats 4000000
/-! W9: displays, truth, joins, gets, walks over dicts. -/
namespace WL
open PySem PySem.Spec PyProof.Rows L2
variable [TBs]

def argV : Arg → Option D
  | .val s => slotD s
  | .pk _ => none
def argVs : List Arg → Option (List D)
  | [] => some []
  | a :: as => match argV a, argVs as with
    | some d, some ds => some (d :: ds)
    | _, _ => none
section
variable {K : PySem.W.Frag} {Φ : Fr} {H : Hp} {ρ : Rho} {σ : L2.St}
theorem ArgsAt.known {as : List Arg} {vs : List V} {ts : List Cell} (h : ArgsAt σ as vs ts) : ∀ {Hk : Hp} {T : List Cell} {ds : List D}, argVs as = some ds → Holds K Φ Hk ρ (ts ++ T) σ H → ∃ Hk', Same Hk Hk' ∧ Reps K Hk' vs ds ∧ Holds K Φ Hk' ρ T σ H := by
  induction h with
  | nil => intro Hk T ds e hh; cases e; exact ⟨Hk, .refl _, .nil, hh⟩
  | cons ha t ih =>
    rename_i a v ta as vs us
    intro Hk T ds e hh
    have e' : (match argV a, argVs as with | some d, some ds => some (d :: ds) | _, _ => none) = some ds := e
    cases h1 : argV a with
    | none => rw [h1] at e'; cases e'
    | some d =>
      cases h2 : argVs as with
      | none => rw [h1, h2] at e'; cases e'
      | some es =>
        rw [h1, h2] at e'
        cases e'
        cases ha with
        | pk hv => cases h1
        | val =>
          rename_i s
          rw [List.append_assoc] at hh
          obtain ⟨Hk1, e1, r1, hh1⟩ := ih h2 hh
          obtain ⟨Hk2, e2, r2, hh2⟩ := hh1.know_top h1
          exact ⟨Hk2, e1.trans e2, .cons r2 (r1.mono e2), hh2⟩
end
section
variable {X : Cx} {Φ : Fr} {e k f : Expr} {es : List Expr} {te tk tx : VE} {to tu : VO} {tas : VA} {pos : Pos}
def vLst (ta : VA) : VE := fun ρ Q => ta ρ fun as ρ1 => ∃ ds, argVs as = some ds ∧ ds.length ≤ sizeLine ∧ Q (.ow false (.lst ds)) ρ1
def vTup (ta : VA) : VE := fun ρ Q => ta ρ fun as ρ1 => ∃ ds, argVs as = some ds ∧ ds.length ≤ sizeLine ∧ Q (.sh (.tup ds)) ρ1
theorem pwe_lst (h : PWA X Φ es tas) : PWE X Φ (.List es pos) (vLst tas) := ⟨fun ρ Q Hk T σ H P q hh p => tSem_of (pe_lst pa_sem)
  (h.run ρ _ Hk T σ H _ q hh fun vs H1 Hk1 ρ1 as ts e1 has h1 k1 ⟨ds, hd, hz, q1⟩ => by
    obtain ⟨Hk2, e2, r2, h2⟩ := has.known hd h1
    exact ⟨by rw [r2.length]; exact hz, fun a ha => p _ _ Hk2 ρ1 _ (e1.trans e2) (h2.own ha (.lst upd_same r2)) k1 q1⟩)⟩
theorem pwe_tup {n : Nat} (h : PWA X Φ es tas) : PWE X Φ (.Tuple es n pos) (vTup tas) := ⟨fun ρ Q Hk T σ H P q hh p => tSem_of (pe_tup pa_sem)
  (h.run ρ _ Hk T σ H _ q hh fun vs H1 Hk1 ρ1 as ts e1 has h1 k1 ⟨ds, hd, hz, q1⟩ => by
    obtain ⟨Hk2, e2, r2, h2⟩ := has.known hd h1
    exact ⟨by rw [r2.length]; exact hz, fun a ha => p _ _ _ ρ1 _ (e1.trans (e2.trans (h2.know_same ha))) ((h2.know ha).sh (.tup upd_same (r2.mono (h2.know_same ha)))) k1 q1⟩)⟩
/-- truth -/
def truD : D → Option Bool
  | .non => some false
  | .bl b => some b
  | .int i => some (i != 0)
  | .lst ds => some (!ds.isEmpty)
  | .fls ds => some (!ds.isEmpty)
  | .tup ds => some (!ds.isEmpty)
  | _ => none
theorem Reps.isEmpty {K : PySem.W.Frag} {H : Hp} {vs : List V} {ds : List D} (r : Reps K H vs ds) : vs.isEmpty = ds.isEmpty := by cases r <;> rfl
theorem View.tru {K : PySem.W.Frag} {Hk H : Hp} {v : V} {d : D} {b : Bool} (ex : Same Hk H) (h : View K Hk H v d) (e : truD d = some b) : TruV K v H b := by
  cases d with
  | non => rw [h.non]; cases e; rfl
  | bl b => rw [h.bl]; cases e; rfl
  | int b => rw [h.int]; cases e; rfl
  | lst l => obtain ⟨a, vs, rfl, hr, rr⟩ := h.lst ex; cases e; exact .inl ⟨vs, .of hr, by rw [rr.isEmpty]⟩
  | fls l => obtain ⟨a, vs, rfl, hr, rr⟩ := h.fls ex; cases e; exact .inl ⟨vs, hr, by rw [rr.isEmpty]⟩
  | tup l => obtain ⟨a, vs, rfl, hr, rr⟩ := h.tup ex; cases e; exact .inr (.inl ⟨vs, .of hr, by rw [rr.isEmpty]⟩)
  | _ => cases e
def vTru (to : VO) : VT := fun ρ Q => to ρ fun a ρ1 => ∃ d b, argD ρ1 a = some d ∧ truD d = some b ∧ Q b ρ1
theorem pwt_truth (h : PWO X Φ e to) (he : ∀ whole, isTrue e X.env whole = (do let v ← whole; standAt e.pos; holding [v] (truthy v)) := by intro _; rfl) : PWT X Φ e (vTru to) := ⟨fun ρ Q Hk T σ H P q hh p => tSemT_of (pt_truth pe_sem he)
  (h.run ρ _ Hk T σ H _ q hh fun v H1 Hk1 ρ1 a ts e1 ha h1 k1 ⟨d, b, hd, hb, q1⟩ => ⟨b, (ha.view h1 hd).tru h1.ex hb, p b H1 Hk1 ρ1 e1 h1.drop k1 q1⟩)⟩
/-- sep.join(xs) -/
def joinP : Prim := fun ds R => ∃ (a : Str) (d : D) (l : List D) (ys : List Str), ds = [.str a, d] ∧ seqLD d = some l ∧ l = ys.map D.str ∧ (ys.map (·.length)).sum + ys.length * a.length ≤ 16777216 ∧ R (.val (.str (Txt.join a ys)))
/-- a text's method with one argument -/
def vM1 (op : Prim) (to tu : VO) : VE := fun ρ Q => to ρ fun a ρ1 => (∃ z, argD ρ1 a = some (.str z)) ∧ tu ρ1 fun b ρ2 => ∃ da db, argD ρ2 a = some da ∧ argD ρ2 b = some db ∧ op [da, db] fun ret => Q ret.slot ρ2
def PrimOkM (X : Cx) (r : V → List V → Hp → VK → Prop) (op : Prim) : Prop :=
  ∀ Hk H x y dx dy P R, Same Hk H → View X.K Hk H x dx → View X.K Hk H y dy → op [dx, dy] R → (∀ ret, R ret → RetK X.K Hk H P ret) → r x [y] H P
theorem run_m1 {r : V → List V → Hp → VK → Prop} {op : Prim} (ho : PrimOkM X r op) (ha : PWO X Φ e to) (hb : PWO X Φ f tu) : RunE X.K Φ (tM1 r (tSem X e) (tSem X f)) (vM1 op to tu) := ⟨fun ρ Q Hk T σ H P q hh p =>
  ha.run ρ _ Hk T σ H _ q hh fun v H1 Hk1 ρ1 a ts e1 h1 hh1 k1 ⟨⟨z, hz⟩, q1⟩ => ⟨⟨z, (ArgAt.view hh1 h1 hz).str⟩, hb.run ρ1 _ Hk1 (ts ++ T) σ H1 _ q1 hh1 fun u H2 Hk2 ρ2 b us e2 h2 hh2 k2 ⟨da, db, hda, hdb, q2⟩ =>
    ho Hk2 H2 v u da db P _ hh2.ex (ArgAt.view (ts := ts) (T := T) hh2.drop h1 hda) (ArgAt.view (ts := us) (T := ts ++ T) hh2 h2 hdb) q2 fun ret hr => ret_post hh2.drop.drop (p.step (e1.trans e2) (k1.trans k2)) hr⟩⟩
theorem ok_join : PrimOkM X (fun x xs H Q => ∃ a p, ∃ ys : List Str, x = .str a ∧ xs = [.ref p] ∧ (SqL X.K H p (ys.map V.str) ∨ SqT X.K H p (ys.map V.str)) ∧ (ys.map (·.length)).sum + ys.length * a.length ≤ 16777216 ∧ Q (.str (Txt.join a ys)) H) joinP := by
  intro Hk H x y dx dy P R ex vx vy ⟨a, d, l, ys, e, hd, hl, hz, q⟩ k
  cases e
  subst hl
  obtain ⟨p, ws, rfl, hr, rr⟩ := vy.seqL ex (seqLD_eq hd)
  rw [rr.strs] at hr
  exact ⟨a, p, ys, vx.str, rfl, .inl hr, hz, k _ q _ .str⟩
/-- d.get(k, x) -/
def vGet2 (to : VO) (tk tx : VE) : VE := fun ρ Q => to ρ fun a ρ1 => (∃ kvs, argD ρ1 a = some (.dct kvs)) ∧ tk ρ1 fun sk ρ2 => tx ρ2 fun s ρ3 => ∃ kd key kvs, sk = .sh kd ∧ keyD kd = some key ∧ argD ρ3 a = some (.dct kvs) ∧ (∀ d, lookK kvs key = some d → Q (.sh d) ρ3) ∧ (lookK kvs key = none → Q s ρ3)
theorem run_get2 (ha : PWO X Φ e to) (hk : PWE X Φ k tk) (hf : PWE X Φ f tx) : RunE X.K Φ (tDGet2 (tSem X e) (tSem X k) (tSem X f)) (vGet2 to tk tx) := ⟨fun ρ Q Hk T σ H P q hh p =>
  ha.run ρ _ Hk T σ H _ q hh fun v H1 Hk1 ρ1 a ts e1 h1 hh1 k1 ⟨⟨kvs0, hz⟩, q1⟩ => by
    obtain ⟨ad, vs0, rfl, hr0, rr0⟩ := (ArgAt.view hh1 h1 hz).dct hh1.ex
    refine ⟨ad, rfl, .inl ⟨vs0, hr0⟩, hk.run ρ1 _ Hk1 (ts ++ T) σ H1 _ q1 hh1 fun y H2 Hk2 ρ2 sk e2 h2 k2 q2 => hf.run ρ2 _ Hk2 ((some y, sk) :: (ts ++ T)) σ H2 _ q2 h2 fun z H3 Hk3 ρ3 s e3 h3 k3 ⟨kd, key, kvs, hs, hkey, hd, qs, qn⟩ => ?_⟩
    subst hs
    have h3' : Holds X.K Φ Hk3 ρ3 ((some y, .sh kd) :: ((some z, s) :: (ts ++ T))) σ H3 := h3.perm (.swap _ _ _)
    obtain ⟨y', ey, ry⟩ := h3'.top
    cases ey
    have eyk := ry.key hkey
    subst eyk
    obtain ⟨ad', vs, ea, hr, rr⟩ := (ArgAt.view (ts := ts) (T := T) h3.pop.pop h1 hd).dct h3.ex
    cases ea
    refine ⟨valV vs key, .inl ⟨vs, key, hr, rfl, rfl⟩, ?_⟩
    have ee := e1.trans (e2.trans e3)
    have kk := k1.trans (k2.trans k3)
    rcases rr.look (k := key) with ⟨l1, l2⟩ | ⟨w, d, l1, l2, rw'⟩
    · rw [l1]
      exact p z H3 Hk3 ρ3 s ee (h3'.pop.dropMid) kk (qn l2)
    · rw [l1]
      exact p w H3 Hk3 ρ3 _ ee (h3'.pop.pop.drop.sh rw') kk (qs d l2)⟩
end

/-! ### walks over dicts: the dict is locked meanwhile -/
def IsDk (H : Hp) (a : Addr) (kvs : List (Key × V)) : Prop := H a = some (.dK kvs) ∨ ∃ o, H a = some (.frz o (.dK kvs))
structure Sw (a : Addr) (kvs : List (Key × V)) (H H2 : Hp) : Prop where
  l : IsDk H a kvs
  r : IsDk H2 a kvs
  out : ∀ b, b ≠ a → H2 b = H b
section
variable {K : PySem.W.Frag} {Φ : Fr} {a : Addr} {kvs : List (Key × V)} {H H2 Hk Hk2 : Hp}
theorem Sw.upd {u : HO} (h : IsDk H a kvs) (hu : u = .dK kvs ∨ ∃ o, u = .frz o (.dK kvs)) : Sw a kvs H (upd H a u) := by
  refine ⟨h, ?_, fun b hb => upd_ne hb⟩
  rcases hu with rfl | ⟨o, rfl⟩
  · exact .inl upd_same
  · exact .inr ⟨o, upd_same⟩
theorem Sw.notl (s : Sw a kvs H H2) {b : Addr} {vs : List V} (h : H b = some (.lst vs)) : H2 b = some (.lst vs) := by
  by_cases e : b = a
  · subst e; rcases s.l with l | ⟨o, l⟩ <;> rw [l] at h <;> cases h
  · rw [s.out b e]; exact h
theorem Sw.nott (s : Sw a kvs H H2) {b : Addr} {vs : List V} (h : H b = some (.tup vs)) : H2 b = some (.tup vs) := by
  by_cases e : b = a
  · subst e; rcases s.l with l | ⟨o, l⟩ <;> rw [l] at h <;> cases h
  · rw [s.out b e]; exact h
theorem Sw.rd (s : Sw a kvs H H2) {b : Addr} {u : HO} (hu : ∀ o w, u ≠ .frz o w) (h : Rd H b u) : Rd H2 b u := by
  by_cases e : b = a
  · subst e
    have : u = .dK kvs := by
      rcases s.l with l | ⟨o, l⟩ <;> rcases h with h | ⟨o', h⟩ <;> rw [l] at h <;> cases h
      · rfl
      · exact absurd rfl (hu o _)
      · rfl
    subst this
    exact s.r
  · unfold Rd; rw [s.out b e]; exact h
theorem Sw.sqL (s : Sw a kvs H H2) {b : Addr} {vs : List V} (h : SqL K H b vs) : SqL K H2 b vs := by
  rcases h with h | h
  · exact .inl (s.rd (fun _ _ z => by cases z) h)
  · exact .inr h
theorem Sw.sqT (s : Sw a kvs H H2) {b : Addr} {vs : List V} (h : SqT K H b vs) : SqT K H2 b vs := by
  rcases h with h | h
  · exact .inl (s.rd (fun _ _ z => by cases z) h)
  · exact .inr h
mutual
theorem Rep.sw {v : V} {d : D} (s : Sw a kvs H H2) : Rep K H v d → Rep K H2 v d
  | .non => .non
  | .bl => .bl
  | .int => .int
  | .str => .str
  | .lst h r => .lst (s.notl h) (Reps.sw s r)
  | .tup h r => .tup (s.nott h) (Reps.sw s r)
  | .fls h r => .fls (s.sqL h) (Reps.sw s r)
  | .ftp h r => .ftp (s.sqT h) (Reps.sw s r)
  | .dct h r => .dct (s.rd (fun _ _ z => by cases z) h) (RepK.sw s r)
  | .dcT h r => .dcT (s.rd (fun _ _ z => by cases z) h) (RepT.sw s r)
  | .opq => .opq
theorem Reps.sw {vs : List V} {ds : List D} (s : Sw a kvs H H2) : Reps K H vs ds → Reps K H2 vs ds
  | .nil => .nil
  | .cons h t => .cons (Rep.sw s h) (Reps.sw s t)
theorem RepK.sw {vs : List (Key × V)} {ds : List (Key × D)} (s : Sw a kvs H H2) : RepK K H vs ds → RepK K H2 vs ds
  | .nil => .nil
  | .cons h t => .cons (Rep.sw s h) (RepK.sw s t)
theorem RepT.sw {vs : List (List Key × V)} {ds : List (List Key × D)} (s : Sw a kvs H H2) : RepT K H vs ds → RepT K H2 vs ds
  | .nil => .nil
  | .cons h t => .cons (Rep.sw s h) (RepT.sw s t)
end
theorem OwnAt.sw {o : Own} {p : Addr} {fp : List Addr} (s : Sw a kvs Hk Hk2) (k : ∀ q ∈ fp, H2 q = H q) (h : OwnAt K Hk H o p fp) : OwnAt K Hk2 H2 o p fp := by
  cases h with
  | lst h r => exact .lst ((k _ (by simp)).trans h) (r.sw s)
  | dct h r => exact .dct ((k _ (by simp)).trans h) (r.sw s)
  | dcT h r => exact .dcT ((k _ (by simp)).trans h) (r.sw s)
theorem Rows.sw (s : Sw a kvs Hk Hk2) : ∀ {qs : List Addr} {rows : List (List D)}, (∀ q ∈ qs, H2 q = H q) → Rows K Hk H qs rows → Rows K Hk2 H2 qs rows
  | _, _, _, .nil => .nil
  | _, _, k, .cons h r t => .cons ((k _ (by simp)).trans h) (r.sw s) (Rows.sw s (fun q hq => k q (List.mem_cons_of_mem _ hq)) t)
theorem CellOk.sw {x : Option V} {sl : Slot} {fp : List Addr} (s : Sw a kvs Hk Hk2) (k : ∀ q ∈ fp, H2 q = H q) (h : CellOk K Hk H x sl fp) : CellOk K Hk2 H2 x sl fp := by
  cases h with
  | rw h hk r => exact .rw ((k _ (by simp)).trans h) hk (r.sw s fun q hq => k q (List.mem_cons_of_mem _ hq))
  | ks h hl r nd kk hz hp => exact .ks ((k _ (by simp)).trans h) hl (r.sw s) nd kk hz hp
  | un => exact .un
  | sh r => exact .sh (r.sw s)
  | ow r => exact .ow (r.sw s k)
theorem Cells.sw (s : Sw a kvs Hk Hk2) : ∀ {L : List Cell} {F : List Addr}, (∀ q ∈ F, H2 q = H q) → Cells K Hk H L F → Cells K Hk2 H2 L F
  | _, _, _, .nil => .nil
  | _, _, k, .cons h t => .cons (h.sw s fun q hq => k q (List.mem_append_left _ hq)) (Cells.sw s (fun q hq => k q (List.mem_append_right _ hq)) t)
theorem TabsW.sw (t : TabsW Hk H) (s : Sw a kvs Hk Hk2) (s2 : Sw a kvs H H2) : TabsW Hk2 H2 := by
  refine ⟨fun b ps z => ?_, fun p hp => ?_⟩
  · by_cases hb : b = a
    · rw [hb] at z
      rcases s.r with l | ⟨o, l⟩ <;> rw [l] at z <;> cases z
    · rw [s.out b hb] at z; exact t.nt b ps z
  · obtain ⟨ps, h1, h2, h3⟩ := t.tb p hp
    have hb : p.1 ≠ a := fun z => by
      rw [z] at h1
      rcases s2.l with l | ⟨o, l⟩ <;> rw [l] at h1 <;> cases h1
    refine ⟨ps, by rw [s2.out _ hb]; exact h1, h2, fun pos cv hc => ?_⟩
    obtain ⟨c, e1, e2⟩ := h3 pos cv hc
    refine ⟨c, e1, ?_⟩
    rw [s.out c (fun z => by rw [z] at e2; rcases s.l with l | ⟨o, l⟩ <;> rw [l] at e2 <;> cases e2)]
    exact e2
theorem HL.sw {L : List Cell} (h : HL K Hk H L) (s : Sw a kvs Hk Hk2) (s2 : Sw a kvs H H2) (e : H2 a = Hk2 a) : HL K Hk2 H2 L := by
  obtain ⟨F, hc, hn, hk⟩ := h.cells
  have ne : ∀ q ∈ F, q ≠ a := fun q hq z => by
    have := hk q hq
    rw [z] at this
    rcases s.l with l | ⟨o, l⟩ <;> rw [l] at this <;> cases this
  refine ⟨fun b o q => ?_, h.tb.sw s s2, F, hc.sw s fun q hq => s2.out q (ne q hq), hn, fun q hq => by rw [s.out q (ne q hq)]; exact hk q hq⟩
  by_cases hb : b = a
  · subst hb; rw [e]; exact q
  · rw [s.out b hb] at q; rw [s2.out b hb]; exact h.ex b o q
theorem Holds.sw {ρ : Rho} {T : List Cell} {σ : L2.St} (h : Holds K Φ.mute Hk ρ T σ H) (s : Sw a kvs Hk Hk2) (s2 : Sw a kvs H H2) (e : H2 a = Hk2 a) : Holds K Φ.mute Hk2 ρ T σ H2 := ⟨h.len, h.hl.sw s s2 e, (fun _ _ z => by cases z), h.kp0⟩
/-- locked, unlocked -/
theorem Holds.lock {ρ : Rho} {T : List Cell} {σ : L2.St} (h : Holds K Φ.mute Hk ρ T σ H) (hk : Hk a = some (.dK kvs)) (od : Obj) : Holds K Φ.mute (upd Hk a (.frz od (.dK kvs))) ρ T σ (upd H a (.frz od (.dK kvs))) :=
  h.sw (.upd (.inl hk) (.inr ⟨od, rfl⟩)) (.upd (.inl (h.ex _ _ hk)) (.inr ⟨od, rfl⟩)) (by rw [upd_same, upd_same])
theorem Holds.unlock {ρ : Rho} {T : List Cell} {σ : L2.St} {od : Obj} (h : Holds K Φ.mute Hk ρ T σ H) (hk : Hk a = some (.frz od (.dK kvs))) : Holds K Φ.mute (upd Hk a (.dK kvs)) ρ T σ (upd H a (.dK kvs)) :=
  h.sw (.upd (.inr ⟨od, hk⟩) (.inl rfl)) (.upd (.inr ⟨od, h.ex _ _ hk⟩) (.inl rfl)) (by rw [upd_same, upd_same])
theorem OutOk.mute {ρ : Rho} {T : List Cell} {σ : L2.St} {R : Out} {D : Ends} (o : OutOk K Φ Hk T σ ρ R D) (hh : Holds K Φ Hk ρ T σ H) : OutOk K Φ.mute Hk T σ ρ R D :=
  ⟨fun σ' H' Hk' ρ' e h k q => o.nx σ' H' Hk' ρ' e (hh.unmute h e k) k q, fun v σ' H' Hk' ρ' r e h k q => o.rt v σ' H' Hk' ρ' r e (hh.unmute h e k) k q,
    fun σ' H' Hk' ρ' e h k q => o.bk σ' H' Hk' ρ' e (hh.unmute h e k) k q, fun σ' H' Hk' ρ' e h k q => o.ct σ' H' Hk' ρ' e (hh.unmute h e k) k q⟩
theorem Post.mute {ρ : Rho} {T : List Cell} {σ : L2.St} {Q : VK0} {P : VK} (o : Post K Φ Hk T σ ρ Q P) (hh : Holds K Φ Hk ρ T σ H) : Post K Φ.mute Hk T σ ρ Q P :=
  fun v H' Hk' ρ' r e h k q => o v H' Hk' ρ' r e (hh.unmute h e k) k q
theorem same_unlock {od : Obj} (h : Hk a = some (.dK kvs)) (e : Same (upd Hk a (.frz od (.dK kvs))) Hk2) : Same Hk (upd Hk2 a (.dK kvs)) := fun b o q => by
  by_cases hb : b = a
  · subst hb; rw [h] at q; cases q; exact upd_same
  · rw [upd_ne hb]; exact e b o (by rw [upd_ne hb]; exact q)
theorem itok_keys {od : Obj} {T' : List Cell} {kds : List (Key × D)} (hk : Hk a = some (.frz od (.dK kvs))) (r : RepK K Hk kvs kds) : ItOk K Hk T' (Itk a od kvs) (kds.map fun kv => dK kv.1) where
  go := fun i Hk' H L e h hi => by
    have hH := h.ex _ _ (e _ _ hk)
    have hl : i < kvs.length := by rw [r.length]; simpa using hi
    refine ⟨⟨hH, hl⟩, fun x H' ⟨eH, k, v, hkv, ex⟩ => ?_⟩
    subst eH; subst ex
    have h1 : (kvs.map (·.1))[i]? = some k := by simp [hkv]
    rw [r.keys] at h1
    refine ⟨Hk', dK k, ?_, .refl _, ?_, fun _ m => m⟩
    · have h2 : ((kds.map (·.1)).map dK)[i]? = some (dK k) := by rw [List.getElem?_map, h1]; rfl
      simpa using h2
    · cases k
      · exact .int
      · exact .str
  stop := fun i Hk' H L e h hi => ⟨h.ex _ _ (e _ _ hk), by rw [r.length]; simpa using hi⟩
end
section
variable {X : Cx} {Φ : Fr} {st : Stmt} {tg elt c : Expr} {body : List Stmt} {is : List Nat} {g : VG} {tb : VS} {te : VE} {tt : VT}
/-- for k in d, d a name -/
def vForK (i : Nat) (g : VG) (tb : VS) : VS := fun R ρ => ∃ kvs, ρ[i]? = some (.sh (.dct kvs)) ∧ ∃ I : Nat → Rho → Prop, I 0 ρ ∧
  (∀ j d ρ', (kvs.map fun kv => dK kv.1)[j]? = some d → I j ρ' → g d ρ' fun ρ2 => tb { R with nx := I (j + 1), ct := I (j + 1), bk := R.nx } ρ2) ∧ ∀ ρ', I (kvs.map fun kv => dK kv.1).length ρ' → R.nx ρ'
theorem pws_forK (i : Nat) (hp : PS X st (tFor (iKeys (tVar i)) (tSemG X tg) (tSemSs X body))) (hg : PWG X Φ.mute tg is g) (hb : PWSs X Φ.mute body tb) : PWS X Φ st (vForK i g tb) := ⟨fun ρ R Hk T σ H D ⟨kds, e0, I, i0, turn, fin⟩ hh o => by
  obtain ⟨v, ev, rv⟩ := hh.get_sh e0
  cases rv with
  | dct hr rr =>
    rename_i a kvs
    rcases hr with hr | ⟨od, hr⟩
    · refine tSemS_of (ps_lock hp) ⟨a, .dK kvs, hh.ex _ _ hr, trivial, fun od => ?_⟩
      have h1 := hh.mute.lock hr od
      have hl : upd Hk a (.frz od (.dK kvs)) a = some (.frz od (.dK kvs)) := upd_same
      have s1 : Sw a kvs Hk (upd Hk a (.frz od (.dK kvs))) := .upd (.inl hr) (.inr ⟨od, rfl⟩)
      refine ⟨.ref a, ev, a, od, rfl, .inl ⟨kvs, upd_same, for_core (T' := []) hg hb (itok_keys hl (rr.sw s1)) h1 ⟨?_, ?_, ?_, ?_⟩ I i0 turn fin⟩⟩
      · exact fun σ' H' Hk' ρ' e h k q => ⟨h.ex _ _ (e _ _ hl), o.nx σ' _ _ ρ' (same_unlock hr e) (hh.unmute (h.unlock (e _ _ hl)) (same_unlock hr e) k) k q⟩
      · exact fun v σ' H' Hk' ρ' r e h k q => ⟨h.ex _ _ (e _ _ hl), o.rt v σ' _ _ ρ' r (same_unlock hr e) (hh.unmute (h.unlock (e _ _ hl)) (same_unlock hr e) k) k q⟩
      · exact fun σ' H' Hk' ρ' e h k q => ⟨h.ex _ _ (e _ _ hl), o.bk σ' _ _ ρ' (same_unlock hr e) (hh.unmute (h.unlock (e _ _ hl)) (same_unlock hr e) k) k q⟩
      · exact fun σ' H' Hk' ρ' e h k q => ⟨h.ex _ _ (e _ _ hl), o.ct σ' _ _ ρ' (same_unlock hr e) (hh.unmute (h.unlock (e _ _ hl)) (same_unlock hr e) k) k q⟩
    · exact tSemS_of hp ⟨.ref a, ev, a, od, rfl, .inl ⟨kvs, hh.ex _ _ hr, for_core (T' := []) hg hb (itok_keys hr rr) hh.mute (o.mute hh) I i0 turn fin⟩⟩⟩
/-- [.. for k in d ..], d a name -/
def vLcK (i : Nat) (g : VG) (tt : VT) (te : VE) (vs : List Nat) : VE := fun ρ Q => ∃ kvs, ρ[i]? = some (.sh (.dct kvs)) ∧ (∀ v ∈ vs, ∃ s, ρ[v]? = some s ∧ s.free = true) ∧ ∃ I : Nat → List D → Rho → Prop, I 0 [] (wipeR ρ vs) ∧
  (∀ j acc d ρ', (kvs.map fun kv => dK kv.1)[j]? = some d → I j acc ρ' → g d ρ' fun ρ2 => tt ρ2 fun b ρ3 =>
    (b = true → te ρ3 fun s ρ4 => ∃ dy, slotD s = some dy ∧ acc.length < sizeLine ∧ I (j + 1) (acc ++ [dy]) (wipeR ρ4 vs)) ∧ (b = false → I (j + 1) acc (wipeR ρ3 vs))) ∧
  ∀ acc ρ', I (kvs.map fun kv => dK kv.1).length acc ρ' → Q (.ow false (.lst acc)) ρ'
theorem pwe_lcK {e : Expr} {g' : TG} {tt' : TT} {te' : TE} {vs : List Nat} (i : Nat) (hp : PE X e (tLc (iKeys (tVar i)) g' tt' te' vs)) (hg : RunG X.K Φ.mute g' is g) (ht : RunT X.K Φ.mute tt' tt) (he : RunE X.K Φ.mute te' te) (his : ∀ j ∈ is, j ∈ vs) :
    PWE X Φ e (vLcK i g tt te vs) := ⟨fun ρ Q Hk T σ H P ⟨kds, e0, fr, I, i0, turn, fin⟩ hh p => by
  obtain ⟨v, ev, rv⟩ := hh.get_sh e0
  cases rv with
  | dct hr rr =>
    rename_i a kvs
    rcases hr with hr | ⟨od, hr⟩
    · refine tSem_of (pe_lock hp) ⟨a, .dK kvs, hh.ex _ _ hr, trivial, fun od => ?_⟩
      have h1 := hh.mute.lock hr od
      have hl : upd Hk a (.frz od (.dK kvs)) a = some (.frz od (.dK kvs)) := upd_same
      have s1 : Sw a kvs Hk (upd Hk a (.frz od (.dK kvs))) := .upd (.inl hr) (.inr ⟨od, rfl⟩)
      refine ⟨.ref a, ev, a, od, rfl, .inl ⟨kvs, upd_same, lc_core1 (T' := []) (P := fun v H' => H' a = some (.frz od (.dK kvs)) ∧ P v (upd H' a (.dK kvs))) hg ht he his (itok_keys hl (rr.sw s1)) h1 ?_ fr I i0 turn fin⟩⟩
      exact fun v H' Hk' ρ' r e h k q => ⟨h.ex _ _ (e _ _ hl), p v _ _ ρ' r (same_unlock hr e) (hh.unmute (h.unlock (e _ _ hl)) (same_unlock hr e) k) k q⟩
    · exact tSem_of hp ⟨.ref a, ev, a, od, rfl, .inl ⟨kvs, hh.ex _ _ hr, lc_core1 (T' := []) hg ht he his (itok_keys hr rr) hh.mute (p.mute hh) fr I i0 turn fin⟩⟩⟩
variable {scope : Scope} {own : List (Str × Nat)} {pos : Pos} {iter : Expr}
theorem pe_lcK0 {ti : TI} (hc : X.calm = true) (hN : X.N.Nodup) (hi : PI X tg iter ti) (ok : BlkOk X.N X.env.scope scope own) (hs : ∀ x, foldedSetIterable iter X.env x = pure x := by intro _; rfl) :
    PE X (.ListComp elt [⟨tg, iter, [], 0⟩] scope pos) (tLc ti (gU X scope tg) tYes (eU X scope elt) (own.map (·.2))) :=
  pe_lc hc hN hi ok (fun _ _ _ _ _ => pg_U) (fun _ _ _ _ _ => pts_nil) (fun _ _ _ _ _ => pe_U) hs
theorem pe_lcK1 {ti : TI} (hc : X.calm = true) (hN : X.N.Nodup) (hi : PI X tg iter ti) (ok : BlkOk X.N X.env.scope scope own) (hs : ∀ x, foldedSetIterable iter X.env x = pure x := by intro _; rfl) :
    PE X (.ListComp elt [⟨tg, iter, [c], 0⟩] scope pos) (tLc ti (gU X scope tg) (cU X scope c) (eU X scope elt) (own.map (·.2))) :=
  pe_lc hc hN hi ok (fun _ _ _ _ _ => pg_U) (fun _ _ _ _ _ => pts_one pt_U) (fun _ _ _ _ _ => pe_U) hs
end

/-! ### a, b = a list -/
section
variable {X : Cx} {Φ : Fr}
def gL (is : List Nat) : VG := fun d ρ Q => ∃ ds, seqLD d = some ds ∧ ds.length = is.length ∧ gTs is ds ρ Q
theorem rung_lst {K : PySem.W.Frag} {Φ : Fr} (is : List Nat) : RunG K Φ (gLst K is.length (gNames is)) is (gL is) := ⟨fun d ρ Q Hk T σ H v P ⟨ds, ed, hl, q⟩ r hh p => by
  obtain ⟨a, vs, rfl, hr, rr⟩ := (View.known (H := H) r).seqL hh.ex (seqLD_eq ed)
  exact ⟨a, vs, rfl, hr, rr.length.trans hl, gnames_run q rr hh p⟩⟩
end
end WL

set_option Elab.async false
set_option linter.all false
set_option maxRecDepth 100000
set_option maxHeartbeats 4000000
/-! WA: a def as its callers see it; [..] stored at once. -/
namespace WL
open PySem PySem.Spec PyProof.Rows L2
variable [TBs]

/-- a def of the module, at a level, by its promise over values -/
structure Def (P : Program) (w : World) (K : PySem.W.Frag) (mg : Str → Option Value) (base : Heap) (k : Nat) (x : Str) (ps : List Str) (SS : VSp) : Prop where
  ex : ∃ f fd, FnOk P w K mg base (L2.CX P w) k f fd ps (spV K SS) ∧ mg x = some (.ref f) ∧ PySem.W.keepIn K (.ref f) = true ∧ Binds K fd ps []
theorem Def.mono {P : Program} {w : World} {K : PySem.W.Frag} {mg : Str → Option Value} {base : Heap} {j k : Nat} {x : Str} {ps : List Str} {SS : VSp} (h : Def P w K mg base j x ps SS) (hk : j ≤ k) : Def P w K mg base k x ps SS := by
  obtain ⟨f, fd, F, g, kp, b⟩ := h.ex
  exact ⟨f, fd, F.mono hk, g, kp, b⟩
section
variable {X : Cx} {Φ : Fr} {x : Str} {ps : List Str} {SS : VSp} {k : Nat} {e : Expr} {es : List Expr} {tas : VA} {p pos : Pos}
theorem passN {X : Cx} {σ : L2.St} : PassesAt (L2.CX X.prog X.w) X σ (fun _ _ _ => False) := fun _ _ _ _ _ _ h => by
  obtain ⟨_, _, _, _, _, _, _, _, _, _, _, _, z⟩ := h
  exact z.elim
theorem pwe_callD (D : Def X.prog X.w X.K X.mg X.base k x ps SS) (hr : Room k X.A) (hg : Gl X x) (ha : PWA X Φ (e :: es) tas) (hd : (x == ("__debug__" : Str)) = false := by decide)
    (h1 : starEach (e :: es) X.env = (false, eval e X.env) :: starEach es X.env := by rfl) (h2 : ((backTo pos (starEach es X.env)).any fun x => x.1) = false := by rfl) : PWE X Φ (.Call (.Name x p) (e :: es) [] pos) (vCall SS tas) := by
  obtain ⟨f, fd, F, g, kp, b⟩ := D.ex
  exact pwe_of (pe_callSD F hr hg g kp b .nil (E := fun _ _ _ _ => False) (fun _ => passN) pa_sem hd h1 h2) (run_call ha)
/-- .. that may raise -/
theorem pwe_callX (tk : Tk X Φ) (D : Def X.prog X.w X.K X.mg X.base k x ps SS) (hr : Room k X.A) (hg : Gl X x) (ha : PWA X Φ (e :: es) tas) (hd : (x == ("__debug__" : Str)) = false := by decide)
    (h1 : starEach (e :: es) X.env = (false, eval e X.env) :: starEach es X.env := by rfl) (h2 : ((backTo pos (starEach es X.env)).any fun x => x.1) = false := by rfl) : PWE X Φ (.Call (.Name x p) (e :: es) [] pos) (vCallX Φ.EX SS tas) := by
  obtain ⟨f, fd, F, g, kp, b⟩ := D.ex
  exact pwe_of (pe_callSD F hr hg g kp b .nil (fun σ => passAt tk σ) pa_sem hd h1 h2) (run_callX ha)
variable {elt tg iter c : Expr} {scope : Scope} {own : List (Str × Nat)} {y : Str} {py spos : Pos} {i : Nat}
theorem ps_setLc0 {ti : TI} (hc : X.calm = true) (hN : X.N.Nodup) (hy : X.N[i]? = some y) (hyl : X.env.scope.names.lookup y = some .local) (hsw : swapsWith (.ListComp elt [⟨tg, iter, [], 0⟩] scope pos) (some (.Name y py)) spos.line X.env = pure true) (hi : PI X tg iter ti)
    (ok : BlkOk X.N X.env.scope scope own) (hs : ∀ x, foldedSetIterable iter X.env x = pure x := by intro _; rfl) :
    PS X (.Assign [.Name y py] (.ListComp elt [⟨tg, iter, [], 0⟩] scope pos) spos) (tAsg (tLc ti (gU X scope tg) tYes (eU X scope elt) (own.map (·.2))) (gName i)) :=
  ps_setLc hc hN hy hyl hsw hi ok (fun _ _ _ _ _ => pg_U) (fun _ _ _ _ _ => pts_nil) (fun _ _ _ _ _ => pe_U) hs
theorem ps_setLc1 {ti : TI} (hc : X.calm = true) (hN : X.N.Nodup) (hy : X.N[i]? = some y) (hyl : X.env.scope.names.lookup y = some .local) (hsw : swapsWith (.ListComp elt [⟨tg, iter, [c], 0⟩] scope pos) (some (.Name y py)) spos.line X.env = pure true) (hi : PI X tg iter ti)
    (ok : BlkOk X.N X.env.scope scope own) (hs : ∀ x, foldedSetIterable iter X.env x = pure x := by intro _; rfl) :
    PS X (.Assign [.Name y py] (.ListComp elt [⟨tg, iter, [c], 0⟩] scope pos) spos) (tAsg (tLc ti (gU X scope tg) (cU X scope c) (eU X scope elt) (own.map (·.2))) (gName i)) :=
  ps_setLc hc hN hy hyl hsw hi ok (fun _ _ _ _ _ => pg_U) (fun _ _ _ _ _ => pts_one pt_U) (fun _ _ _ _ _ => pe_U) hs
/-- x = [.. for k in d ..]: the whole statement under the lock -/
theorem pws_setLcK {st : Stmt} {g' : TG} {is : List Nat} {g : VG} {tt' : TT} {tt : VT} {te' : TE} {te : VE} {vs : List Nat} {j : Nat} (i : Nat) (hp : PS X st (tAsg (tLc (iKeys (tVar i)) g' tt' te' vs) (gName j))) (hg : RunG X.K Φ.mute g' is g) (ht : RunT X.K Φ.mute tt' tt) (he : RunE X.K Φ.mute te' te) (his : ∀ j ∈ is, j ∈ vs) :
    PWS X Φ st (vSet j (vLcK i g tt te vs)) := ⟨fun ρ R Hk T σ H D ⟨kds, e0, fr, I, i0, turn, fin⟩ hh o => by
  obtain ⟨v, ev, rv⟩ := hh.get_sh e0
  cases rv with
  | dct hr rr =>
    rename_i a kvs
    have post : ∀ {Φ : Fr} {Hk : Hp} {D : Ends}, OutOk X.K Φ Hk T σ ρ R D → Post X.K Φ Hk T σ ρ (fun s ρ1 => ∃ s0, ρ1[j]? = some s0 ∧ s0.free = true ∧ R.nx (ρ1.set j s)) (fun x H1 => D.nx (σ.set j (some x)) H1) := fun o v H' Hk' ρ' r e h' k' ⟨s0, e0, hf, q'⟩ => o.nx _ H' Hk' _ e (h'.store e0 hf) (k'.trans (kp_store e0 hf)) q'
    rcases hr with hr | ⟨od, hr⟩
    · refine tSemS_of (ps_lock hp) ⟨a, .dK kvs, hh.ex _ _ hr, trivial, fun od => ?_⟩
      have h1 := hh.mute.lock hr od
      have hl : upd Hk a (.frz od (.dK kvs)) a = some (.frz od (.dK kvs)) := upd_same
      have s1 : Sw a kvs Hk (upd Hk a (.frz od (.dK kvs))) := .upd (.inl hr) (.inr ⟨od, rfl⟩)
      refine ⟨.ref a, ev, a, od, rfl, .inl ⟨kvs, upd_same, lc_core1 (T' := []) hg ht he his (itok_keys hl (rr.sw s1)) h1 (Q := fun s ρ1 => ∃ s0, ρ1[j]? = some s0 ∧ s0.free = true ∧ R.nx (ρ1.set j s)) (P := fun x H1 => (H1 a = some (.frz od (.dK kvs)) ∧ D.nx (σ.set j (some x)) (upd H1 a (.dK kvs)))) ?_ fr I i0 turn fin⟩⟩
      refine post (D := ⟨fun σ' H' => H' a = some (.frz od (.dK kvs)) ∧ D.nx σ' (upd H' a (.dK kvs)), fun v H' => H' a = some (.frz od (.dK kvs)) ∧ D.rt v (upd H' a (.dK kvs)), fun σ' H' => H' a = some (.frz od (.dK kvs)) ∧ D.bk σ' (upd H' a (.dK kvs)), fun σ' H' => H' a = some (.frz od (.dK kvs)) ∧ D.ct σ' (upd H' a (.dK kvs))⟩) ⟨?_, ?_, ?_, ?_⟩
      · exact fun σ' H' Hk' ρ' e h k q => ⟨h.ex _ _ (e _ _ hl), o.nx σ' _ _ ρ' (same_unlock hr e) (hh.unmute (h.unlock (e _ _ hl)) (same_unlock hr e) k) k q⟩
      · exact fun v σ' H' Hk' ρ' r e h k q => ⟨h.ex _ _ (e _ _ hl), o.rt v σ' _ _ ρ' r (same_unlock hr e) (hh.unmute (h.unlock (e _ _ hl)) (same_unlock hr e) k) k q⟩
      · exact fun σ' H' Hk' ρ' e h k q => ⟨h.ex _ _ (e _ _ hl), o.bk σ' _ _ ρ' (same_unlock hr e) (hh.unmute (h.unlock (e _ _ hl)) (same_unlock hr e) k) k q⟩
      · exact fun σ' H' Hk' ρ' e h k q => ⟨h.ex _ _ (e _ _ hl), o.ct σ' _ _ ρ' (same_unlock hr e) (hh.unmute (h.unlock (e _ _ hl)) (same_unlock hr e) k) k q⟩
    · exact tSemS_of hp ⟨.ref a, ev, a, od, rfl, .inl ⟨kvs, hh.ex _ _ hr, lc_core1 (T' := []) hg ht he his (itok_keys hr rr) hh.mute (Q := fun s ρ1 => ∃ s0, ρ1[j]? = some s0 ∧ s0.free = true ∧ R.nx (ρ1.set j s)) (post (o.mute hh)) fr I i0 turn fin⟩⟩⟩
end

section
variable {X : Cx} {Φ : Fr} {e : Expr} {te : VE} {st : Stmt} {is : List Nat} {g : VG}
/-- a value that is shared at once -/
def vSh (te : VE) : VE := fun ρ Q => te ρ fun s ρ1 => ∃ d, slotD s = some d ∧ Q (.sh d) ρ1
theorem pwe_sh (h : PWE X Φ e te) : PWE X Φ e (vSh te) := ⟨fun ρ Q Hk T σ H P q hh p => h.run ρ _ Hk T σ H P q hh fun v H' Hk' ρ' r e' h' k' ⟨d, hd, q'⟩ => by
  obtain ⟨Hk2, e2, rd, h2⟩ := h'.know_top hd
  exact p v H' Hk2 ρ' _ (e'.trans e2) (h2.sh rd) k' q'⟩
/-- a target of any form = e -/
def vAsg (g : VG) (te : VE) : VS := fun R ρ => te ρ fun s ρ1 => ∃ d, slotD s = some d ∧ g d ρ1 R.nx
theorem pws_asg {tg : Expr} {tt : TE} (hp : PS X st (tAsg tt (tSemG X tg))) (hg : PWG X Φ tg is g) (h : RunE X.K Φ tt te) : PWS X Φ st (vAsg g te) := ⟨fun ρ R Hk T σ H D q hh o => tSemS_of hp
  (h.run ρ _ Hk T σ H _ q hh fun v H' Hk' ρ' r e h' k' ⟨d, hd, q'⟩ => by
    obtain ⟨Hk2, e2, rd, h2⟩ := h'.know_top hd
    exact hg.run.run d ρ' _ Hk2 T σ H' v _ q' rd h2 fun σ3 H3 Hk3 ρ3 e3 h3 k3 _ q3 => o.nx σ3 H3 Hk3 ρ3 (e.trans (e2.trans e3)) h3 (k'.trans k3) q3)⟩
/-- a def that is never called -/
theorem Def.never {P : Program} {w : World} {K : PySem.W.Frag} {mg : Str → Option Value} {base : Heap} {k : Nat} {x qual : Str} {ps : List Str} {st : Stmt} {f : Addr} {fd : FuncData} (F : Fun K x qual st f fd) (g : mg x = some (.ref f))
    (b : Binds K fd ps []) : Def P w K mg base k x ps (fun _ _ _ => False) :=
  ⟨f, fd, ⟨fun vs H Q E h => by obtain ⟨_, _, _, _, _, _, _, _, z, _⟩ := h; exact z.elim, fun A outer s H args us vs Q E _ _ _ _ h => by obtain ⟨_, _, _, _, _, _, _, _, z, _⟩ := h; exact z.elim⟩, g, F.kp, b⟩
end
end WL

set_option Elab.async false
set_option linter.all false
set_option maxRecDepth 100000
set_option maxHeartbeats 4000000
/-! WB: readings of values run step by step: one rule a head. -/
namespace WL
open PySem PySem.Spec PyProof.Rows L2
variable [TBs]

section
variable {nx bk ct : Rho → Prop} {rt : Slot → Rho → Prop} {t u : VS} {te ta tb : VE} {to tu : VO} {tas : VA} {tt t1 t2 : VT} {ρ ρ' ρ1 : Rho} {i : Nat} {Q : VK0} {QB : Bool → Rho → Prop} {QO : Arg → Rho → Prop} {QA : List Arg → Rho → Prop} {op : Prim}
  {s s0 s1 : Slot} {d : D} {ds es : List D} {b : Bool} {R : Ret → Prop}

/-! ### statements -/
theorem u_next (h : nx ρ) : vNext (.mk nx rt bk ct) ρ := h
theorem u_break (h : bk ρ) : vBreak (.mk nx rt bk ct) ρ := h
theorem u_cont (h : ct ρ) : vCont (.mk nx rt bk ct) ρ := h
theorem u_seq (h : t (.mk (fun ρ' => u (.mk nx rt bk ct) ρ') rt bk ct) ρ) : vSeq t u (.mk nx rt bk ct) ρ := h
def kSet (i : Nat) (nx : Rho → Prop) : VK0 := fun s ρ1 => ∃ s0, ρ1[i]? = some s0 ∧ s0.free = true ∧ nx (ρ1.set i s)
theorem u_set (h : te ρ (kSet i nx)) : vSet i te (.mk nx rt bk ct) ρ := h
theorem k_set (e : ρ[i]? = some s0) (hf : s0.free = true) (k : nx ρ') (hs : ρ.set i s = ρ' := by dsimp only [List.set]) : kSet i nx s ρ := ⟨s0, e, hf, by rw [hs]; exact k⟩
def kExpr (nx : Rho → Prop) : VK0 := fun _ ρ1 => nx ρ1
theorem u_expr (h : te ρ (kExpr nx)) : vExpr te (.mk nx rt bk ct) ρ := h
theorem k_expr (h : nx ρ) : kExpr nx s ρ := h
theorem u_ret (h : te ρ rt) : vRet te (.mk nx rt bk ct) ρ := h
theorem u_retN (h : rt (.sh .non) ρ) : vRetN (.mk nx rt bk ct) ρ := h
def kIf (t u : VS) (R : Out) : Bool → Rho → Prop := fun k ρ1 => (k = true → t R ρ1) ∧ (k = false → u R ρ1)
theorem u_if (h : tt ρ (kIf t u (.mk nx rt bk ct))) : vIf tt t u (.mk nx rt bk ct) ρ := h
theorem k_ifT {R : Out} (h : t R ρ) : kIf t u R true ρ := ⟨fun _ => h, fun z => by cases z⟩
theorem k_ifF {R : Out} (h : u R ρ) : kIf t u R false ρ := ⟨fun z => (by cases z), fun _ => h⟩
theorem k_ifD {R : Out} {p : Prop} [Decidable p] (h : p → t R ρ) (h2 : ¬ p → u R ρ) : kIf t u R (decide p) ρ := ⟨fun z => h (of_decide_eq_true z), fun z => h2 (of_decide_eq_false z)⟩
theorem k_ifN {R : Out} {p : Prop} [Decidable p] (h : ¬ p → t R ρ) (h2 : p → u R ρ) : kIf t u R (!decide p) ρ := by
  by_cases hp : p
  · rw [decide_eq_true hp]; exact k_ifF (h2 hp)
  · rw [decide_eq_false hp]; exact k_ifT (h hp)
theorem k_if {R : Out} (h : b = true → t R ρ) (h2 : b = false → u R ρ) : kIf t u R b ρ := ⟨h, h2⟩
def kAug (i : Nat) (op : Prim) (d : D) (nx : Rho → Prop) : VK0 := fun s ρ1 => ∃ dy, slotD s = some dy ∧ (∃ d1, ρ1[i]? = some (.sh d1)) ∧ op [d, dy] fun ret => nx (ρ1.set i ret.slot)
theorem u_aug (e : ρ[i]? = some (.sh d)) (h : te ρ (kAug i op d nx)) : vAug i op te (.mk nx rt bk ct) ρ := ⟨d, e, h⟩
theorem k_aug {dy d1 : D} (e : slotD s = some dy) (e1 : ρ[i]? = some (.sh d1)) (h : op [d, dy] fun ret => nx (ρ.set i ret.slot)) : kAug i op d nx s ρ := ⟨dy, e, ⟨d1, e1⟩, h⟩
/-- two ints -/
theorem k_augAdd {x y : Int} {d1 : D} (e1 : ρ[i]? = some (.sh d1)) (h : nx ρ') (hs : ρ.set i (.sh (.int (x + y))) = ρ' := by dsimp only [List.set]) : kAug i iaddP (.int x) nx (.sh (.int y)) ρ := ⟨.int y, rfl, ⟨d1, e1⟩, by show nx (ρ.set i (.sh (.int (x + y)))); rw [hs]; exact h⟩
theorem k_augSub {x y : Int} {d1 : D} (e1 : ρ[i]? = some (.sh d1)) (h : nx ρ') (hs : ρ.set i (.sh (.int (x - y))) = ρ' := by dsimp only [List.set]) : kAug i subP (.int x) nx (.sh (.int y)) ρ := ⟨.int y, rfl, ⟨d1, e1⟩, by show nx (ρ.set i (.sh (.int (x - y)))); rw [hs]; exact h⟩
def kAsg (g : VG) (nx : Rho → Prop) : VK0 := fun s ρ1 => ∃ d, slotD s = some d ∧ g d ρ1 nx
theorem u_asg {g : VG} (h : te ρ (kAsg g nx)) : vAsg g te (.mk nx rt bk ct) ρ := h
theorem k_asg {g : VG} (e : slotD s = some d) (h : g d ρ nx) : kAsg g nx s ρ := ⟨d, e, h⟩

/-! ### expressions -/
theorem u_var (e : ρ[i]? = some (.sh d)) (h : Q (.sh d) ρ) : vVar i ρ Q := .inl ⟨d, e, h⟩
theorem u_varL (e : ρ[i]? = some (.ow false (.lst ds))) (h : Q (.sh (.lst ds)) ρ') (hs : ρ.set i (.sh (.lst ds)) = ρ' := by dsimp only [List.set]) : vVar i ρ Q := .inr ⟨.lst ds, e, by subst hs; exact h⟩
theorem u_varD {kvs : List (Key × D)} (e : ρ[i]? = some (.ow false (.dct kvs))) (h : Q (.sh (.dct kvs)) ρ') (hs : ρ.set i (.sh (.dct kvs)) = ρ' := by dsimp only [List.set]) : vVar i ρ Q := .inr ⟨.dct kvs, e, by subst hs; exact h⟩
theorem u_varE {kvs : List (List Key × D)} (e : ρ[i]? = some (.ow false (.dcT kvs))) (h : Q (.sh (.dcT kvs)) ρ') (hs : ρ.set i (.sh (.dcT kvs)) = ρ' := by dsimp only [List.set]) : vVar i ρ Q := .inr ⟨.dcT kvs, e, by subst hs; exact h⟩
theorem u_mv (e : ρ[i]? = some (.sh d)) (h : Q (.sh d) ρ) : vMv i ρ Q := .inl ⟨d, e, h⟩
theorem u_mvO {o : Own} (e : ρ[i]? = some (.ow false o)) (h : Q (.ow false o) ρ') (hs : ρ.set i .un = ρ' := by dsimp only [List.set]) : vMv i ρ Q := .inr ⟨o, e, by subst hs; exact h⟩
theorem u_c (h : Q (.sh d) ρ) : vC d ρ Q := h
def kVal (QO : Arg → Rho → Prop) : VK0 := fun s ρ' => QO (.val s) ρ'
theorem u_val (h : te ρ (kVal QO)) : vVal te ρ QO := h
theorem k_val (h : QO (.val s) ρ) : kVal QO s ρ := h
theorem u_pk (e : ρ[i]? = some s) (ed : slotD s = some d) (h : QO (.pk i) ρ) : vPk i ρ QO := ⟨s, d, e, ed, h⟩
def kSh (Q : VK0) : VK0 := fun s ρ1 => ∃ d, slotD s = some d ∧ Q (.sh d) ρ1
theorem u_sh (h : te ρ (kSh Q)) : vSh te ρ Q := h
theorem k_sh (h : Q (.sh d) ρ) : kSh Q (.sh d) ρ := ⟨d, rfl, h⟩
theorem k_shL (h : Q (.sh (.lst ds)) ρ) : kSh Q (.ow b (.lst ds)) ρ := ⟨.lst ds, rfl, h⟩
theorem k_shD {kvs : List (Key × D)} (h : Q (.sh (.dct kvs)) ρ) : kSh Q (.ow b (.dct kvs)) ρ := ⟨.dct kvs, rfl, h⟩
def kRet (Q : VK0) (ρ : Rho) : Ret → Prop := fun ret => Q ret.slot ρ
theorem k_retV (h : Q (.sh d) ρ) : kRet Q ρ (.val d) := h
theorem k_retL (h : Q (.ow false (.lst ds)) ρ) : kRet Q ρ (.newL ds) := h
theorem k_retT (h : Q (.sh (.tup ds)) ρ) : kRet Q ρ (.newT ds) := h
theorem k_retD {kvs : List (Key × D)} (h : Q (.ow false (.dct kvs)) ρ) : kRet Q ρ (.newD kvs) := h
def kBin2 (op : Prim) (a : Arg) (Q : VK0) : Arg → Rho → Prop := fun b ρ2 => ∃ da db, argD ρ2 a = some da ∧ argD ρ2 b = some db ∧ op [da, db] (kRet Q ρ2)
def kBin1 (op : Prim) (tb : VO) (Q : VK0) : Arg → Rho → Prop := fun a ρ1 => tb ρ1 (kBin2 op a Q)
theorem u_bin (h : to ρ (kBin1 op tu Q)) : vBin op to tu ρ Q := h
theorem k_bin1 {a : Arg} (h : tu ρ (kBin2 op a Q)) : kBin1 op tu Q a ρ := h
theorem k_bin2 {a b : Arg} {da db : D} (ha : argD ρ a = some da) (hb : argD ρ b = some db) (h : op [da, db] (kRet Q ρ)) : kBin2 op a Q b ρ := ⟨da, db, ha, hb, h⟩
def kUn (op : Prim) (Q : VK0) : Arg → Rho → Prop := fun a ρ1 => ∃ da, argD ρ1 a = some da ∧ op [da] (kRet Q ρ1)
theorem u_un (h : to ρ (kUn op Q)) : vUn op to ρ Q := h
theorem k_un {a : Arg} {da : D} (ha : argD ρ a = some da) (h : op [da] (kRet Q ρ)) : kUn op Q a ρ := ⟨da, ha, h⟩
theorem u_nil (h : QA [] ρ) : vNil ρ QA := h
def kCons2 (a : Arg) (QA : List Arg → Rho → Prop) : List Arg → Rho → Prop := fun as ρ2 => QA (a :: as) ρ2
def kCons1 (ta : VA) (QA : List Arg → Rho → Prop) : Arg → Rho → Prop := fun a ρ1 => ta ρ1 (kCons2 a QA)
theorem u_cons (h : to ρ (kCons1 tas QA)) : vCons to tas ρ QA := h
theorem k_cons1 {a : Arg} (h : tas ρ (kCons2 a QA)) : kCons1 tas QA a ρ := h
theorem k_cons2 {a : Arg} {as : List Arg} (h : QA (a :: as) ρ) : kCons2 a QA as ρ := h
def kPrim (op : Prim) (Q : VK0) : List Arg → Rho → Prop := fun as ρ1 => ∃ ds, argDs ρ1 as = some ds ∧ op ds (kRet Q ρ1)
theorem u_prim (h : tas ρ (kPrim op Q)) : vPrim op tas ρ Q := h
theorem k_prim1 {a : Arg} {da : D} (ha : argD ρ a = some da) (h : op [da] (kRet Q ρ)) : kPrim op Q [a] ρ := ⟨[da], by unfold argDs; rw [ha]; rfl, h⟩
theorem k_prim2 {a b : Arg} {da db : D} (ha : argD ρ a = some da) (hb : argD ρ b = some db) (h : op [da, db] (kRet Q ρ)) : kPrim op Q [a, b] ρ := ⟨[da, db], by unfold argDs argDs; rw [ha, hb]; rfl, h⟩
def kT (QB : Bool → Rho → Prop) : VK0 := fun s ρ' => ∃ k, s = .sh (.bl k) ∧ QB k ρ'
theorem u_t (h : te ρ (kT QB)) : vT te ρ QB := h
theorem k_t (h : QB b ρ) : kT QB (.sh (.bl b)) ρ := ⟨b, rfl, h⟩
def kTru (QB : Bool → Rho → Prop) : Arg → Rho → Prop := fun a ρ1 => ∃ d b, argD ρ1 a = some d ∧ truD d = some b ∧ QB b ρ1
theorem u_tru (h : to ρ (kTru QB)) : vTru to ρ QB := h
theorem k_tru {a : Arg} (ha : argD ρ a = some d) (hb : truD d = some b) (h : QB b ρ) : kTru QB a ρ := ⟨d, b, ha, hb, h⟩
def kAnd (t2 : VT) (QB : Bool → Rho → Prop) : Bool → Rho → Prop := fun k ρ1 => (k = true → t2 ρ1 QB) ∧ (k = false → QB false ρ1)
theorem u_and (h : t1 ρ (kAnd t2 QB)) : vAnd t1 t2 ρ QB := h
theorem k_and (h1 : b = true → t2 ρ QB) (h2 : b = false → QB false ρ) : kAnd t2 QB b ρ := ⟨h1, h2⟩
theorem k_andT (h : t2 ρ QB) : kAnd t2 QB true ρ := ⟨fun _ => h, fun z => by cases z⟩
theorem k_andF (h : QB false ρ) : kAnd t2 QB false ρ := ⟨fun z => (by cases z), fun _ => h⟩
def kOr (t2 : VT) (QB : Bool → Rho → Prop) : Bool → Rho → Prop := fun k ρ1 => (k = true → QB true ρ1) ∧ (k = false → t2 ρ1 QB)
theorem u_or (h : t1 ρ (kOr t2 QB)) : vOr t1 t2 ρ QB := h
theorem k_or (h1 : b = true → QB true ρ) (h2 : b = false → t2 ρ QB) : kOr t2 QB b ρ := ⟨h1, h2⟩
theorem k_orT (h : QB true ρ) : kOr t2 QB true ρ := ⟨fun _ => h, fun z => by cases z⟩
theorem k_orF (h : t2 ρ QB) : kOr t2 QB false ρ := ⟨fun z => (by cases z), fun _ => h⟩
def kNot (QB : Bool → Rho → Prop) : Bool → Rho → Prop := fun k ρ1 => QB (!k) ρ1
theorem u_not (h : t1 ρ (kNot QB)) : vNot t1 ρ QB := h
theorem k_not (h : QB (!b) ρ) : kNot QB b ρ := h
def kAndV (tb : VE) (Q : VK0) : VK0 := fun s ρ1 => ∃ k, s = .sh (.bl k) ∧ (k = true → tb ρ1 Q) ∧ (k = false → Q (.sh (.bl false)) ρ1)
theorem u_andV (h : ta ρ (kAndV tb Q)) : vAndV ta tb ρ Q := h
theorem k_andV (h1 : b = true → tb ρ Q) (h2 : b = false → Q (.sh (.bl false)) ρ) : kAndV tb Q (.sh (.bl b)) ρ := ⟨b, rfl, h1, h2⟩
theorem k_andVT (h : tb ρ Q) : kAndV tb Q (.sh (.bl true)) ρ := ⟨true, rfl, fun _ => h, fun z => by cases z⟩
def kOrV (tb : VE) (Q : VK0) : VK0 := fun s ρ1 => ∃ k, s = .sh (.bl k) ∧ (k = true → Q (.sh (.bl true)) ρ1) ∧ (k = false → tb ρ1 Q)
theorem u_orV (h : ta ρ (kOrV tb Q)) : vOrV ta tb ρ Q := h
theorem k_orV (h1 : b = true → Q (.sh (.bl true)) ρ) (h2 : b = false → tb ρ Q) : kOrV tb Q (.sh (.bl b)) ρ := ⟨b, rfl, h1, h2⟩
theorem k_orVT (h : Q (.sh (.bl true)) ρ) : kOrV tb Q (.sh (.bl true)) ρ := ⟨true, rfl, fun _ => h, fun z => by cases z⟩
theorem k_orVF (h : tb ρ Q) : kOrV tb Q (.sh (.bl false)) ρ := ⟨false, rfl, fun z => (by cases z), fun _ => h⟩
theorem k_andVF (h : Q (.sh (.bl false)) ρ) : kAndV tb Q (.sh (.bl false)) ρ := ⟨false, rfl, fun z => (by cases z), fun _ => h⟩
def kNotV (Q : VK0) : VK0 := fun s ρ1 => ∃ k, s = .sh (.bl k) ∧ Q (.sh (.bl (!k))) ρ1
theorem u_notV (h : ta ρ (kNotV Q)) : vNotV ta ρ Q := h
theorem k_notV (h : Q (.sh (.bl (!b))) ρ) : kNotV Q (.sh (.bl b)) ρ := ⟨b, rfl, h⟩
def kIfE (ta tb : VE) (Q : VK0) : Bool → Rho → Prop := fun k ρ1 => (k = true → ta ρ1 Q) ∧ (k = false → tb ρ1 Q)
theorem u_ifE (h : tt ρ (kIfE ta tb Q)) : vIfE tt ta tb ρ Q := h
theorem k_ifE (h1 : b = true → ta ρ Q) (h2 : b = false → tb ρ Q) : kIfE ta tb Q b ρ := ⟨h1, h2⟩
theorem k_ifEd {p : Prop} [Decidable p] (h : p → ta ρ Q) (h2 : ¬ p → tb ρ Q) : kIfE ta tb Q (decide p) ρ := ⟨fun z => h (of_decide_eq_true z), fun z => h2 (of_decide_eq_false z)⟩
theorem k_ifET (h : ta ρ Q) : kIfE ta tb Q true ρ := ⟨fun _ => h, fun z => by cases z⟩
theorem k_ifEF (h : tb ρ Q) : kIfE ta tb Q false ρ := ⟨fun z => (by cases z), fun _ => h⟩
/-- if both ways give an int -/
def kLst (Q : VK0) : List Arg → Rho → Prop := fun as ρ1 => ∃ ds, argVs as = some ds ∧ ds.length ≤ sizeLine ∧ Q (.ow false (.lst ds)) ρ1
theorem u_lst (h : tas ρ (kLst Q)) : vLst tas ρ Q := h
theorem k_lst {as : List Arg} (e : argVs as = some ds) (hz : ds.length ≤ sizeLine) (h : Q (.ow false (.lst ds)) ρ) : kLst Q as ρ := ⟨ds, e, hz, h⟩
def kTup (Q : VK0) : List Arg → Rho → Prop := fun as ρ1 => ∃ ds, argVs as = some ds ∧ ds.length ≤ sizeLine ∧ Q (.sh (.tup ds)) ρ1
theorem u_tup (h : tas ρ (kTup Q)) : vTup tas ρ Q := h
theorem k_tup {as : List Arg} (e : argVs as = some ds) (hz : ds.length ≤ sizeLine) (h : Q (.sh (.tup ds)) ρ) : kTup Q as ρ := ⟨ds, e, hz, h⟩
theorem u_newD (h : Q (.ow false (.dct [])) ρ) : vNewD ρ Q := h
/-! slices -/
def kSl3 (a : Arg) (lo hi : Option Int) (Q : VK0) (ρ3 : Rho) : Prop := ∃ d, argD ρ3 a = some d ∧ slP lo hi [d] (kRet Q ρ3)
def kSl2 (a : Arg) (lo : Option Int) (Q : VK0) : Option Int → Rho → Prop := fun hi ρ3 => kSl3 a lo hi Q ρ3
def kSl1 (a : Arg) (th : VPo) (Q : VK0) : Option Int → Rho → Prop := fun lo ρ2 => th ρ2 (kSl2 a lo Q)
def kSl0 (tl th : VPo) (Q : VK0) : Arg → Rho → Prop := fun a ρ1 => tl ρ1 (kSl1 a th Q)
variable {tl th : VPo} {lo hi : Option Int} {QP : Option Int → Rho → Prop}
theorem u_sl (h : to ρ (kSl0 tl th Q)) : vSl to tl th ρ Q := h
theorem k_sl0 {a : Arg} (h : tl ρ (kSl1 a th Q)) : kSl0 tl th Q a ρ := h
theorem k_sl1 {a : Arg} (h : th ρ (kSl2 a lo Q)) : kSl1 a th Q lo ρ := h
theorem k_sl2 {a : Arg} (e : argD ρ a = some d) (h : slP lo hi [d] (kRet Q ρ)) : kSl2 a lo Q hi ρ := ⟨d, e, h⟩
theorem u_noPart (h : QP none ρ) : vNoPart ρ QP := h
def kPart (QP : Option Int → Rho → Prop) : VK0 := fun s ρ1 => ∃ i, s = .sh (.int i) ∧ QP (some i) ρ1
theorem u_part (h : te ρ (kPart QP)) : vPart te ρ QP := h
theorem k_part {x : Int} (h : QP (some x) ρ) : kPart QP (.sh (.int x)) ρ := ⟨x, rfl, h⟩
/-! methods -/
def kApp (i : Nat) (Q : VK0) : VK0 := fun s ρ1 => ∃ b ds d, ρ1[i]? = some (.ow b (.lst ds)) ∧ slotD s = some d ∧ ds.length < sizeLine ∧ Q (.sh .non) (ρ1.set i (.ow b (.lst (ds ++ [d]))))
theorem u_app (e : ρ[i]? = some (.ow b (.lst ds))) (h : te ρ (kApp i Q)) : vApp i te ρ Q := ⟨⟨b, ds, e⟩, h⟩
theorem k_app (e : ρ[i]? = some (.ow b (.lst ds))) (ed : slotD s = some d) (hz : ds.length < sizeLine) (h : Q (.sh .non) ρ') (hs : ρ.set i (.ow b (.lst (ds ++ [d]))) = ρ' := by dsimp only [List.set]) : kApp i Q s ρ := ⟨b, ds, d, e, ed, hz, by rw [hs]; exact h⟩
theorem u_pop (e : ρ[i]? = some (.ow b (.lst ds))) (ed : ds[ds.length - 1]? = some d) (h : Q (.sh d) ρ') (hs : ρ.set i (.ow b (.lst ds.dropLast)) = ρ' := by dsimp only [List.set]) : vPop i ρ Q := ⟨b, ds, d, e, ed, by rw [hs]; exact h⟩
def kPopAt (i : Nat) (Q : VK0) : VK0 := fun s ρ1 => ∃ (k : Int) (j : Nat) (b : Bool) (ds : List D) (d : D), s = .sh (.int k) ∧ ρ1[i]? = some (.ow b (.lst ds)) ∧ (-(2 ^ 63) ≤ k ∧ k < 2 ^ 63) ∧ seqIndex? k ds.length = some j ∧ ds[j]? = some d ∧ Q (.sh d) (ρ1.set i (.ow b (.lst (ds.eraseIdx j))))
theorem u_popAt (e : ρ[i]? = some (.ow b (.lst ds))) (h : te ρ (kPopAt i Q)) : vPopAt i te ρ Q := ⟨⟨b, ds, e⟩, h⟩
theorem k_popAt {k : Int} (e : ρ[i]? = some (.ow b (.lst ds))) (h0 : 0 ≤ k) (hz : k < ds.length) (hb : ds.length < 2 ^ 62) (h : ∀ d ρ', ds[k.toNat]? = some d → ρ' = ρ.set i (.ow b (.lst (ds.eraseIdx k.toNat))) → Q (.sh d) ρ') : kPopAt i Q (.sh (.int k)) ρ := by
  have hk : k.toNat < ds.length := by omega
  refine ⟨k, k.toNat, b, ds, ds[k.toNat], rfl, e, ⟨by omega, by omega⟩, seqIndex_of h0 hz, List.getElem?_eq_getElem hk, h _ _ (List.getElem?_eq_getElem hk) rfl⟩
def kExt (i : Nat) (Q : VK0) : VK0 := fun s ρ1 => ∃ b ds es, ρ1[i]? = some (.ow b (.lst ds)) ∧ slotD s = some (.lst es) ∧ ds.length + es.length ≤ sizeLine ∧ Q (.sh .non) (ρ1.set i (.ow b (.lst (ds ++ es))))
theorem u_ext (e : ρ[i]? = some (.ow b (.lst ds))) (h : te ρ (kExt i Q)) : vExt i te ρ Q := ⟨⟨b, ds, e⟩, h⟩
theorem k_ext (e : ρ[i]? = some (.ow b (.lst ds))) (ed : slotD s = some (.lst es)) (hz : ds.length + es.length ≤ sizeLine) (h : Q (.sh .non) ρ') (hs : ρ.set i (.ow b (.lst (ds ++ es))) = ρ' := by dsimp only [List.set]) : kExt i Q s ρ := ⟨b, ds, es, e, ed, hz, by rw [hs]; exact h⟩
def kM1b (op : Prim) (a : Arg) (Q : VK0) : Arg → Rho → Prop := fun b ρ2 => ∃ da db, argD ρ2 a = some da ∧ argD ρ2 b = some db ∧ op [da, db] (kRet Q ρ2)
def kM1a (op : Prim) (tu : VO) (Q : VK0) : Arg → Rho → Prop := fun a ρ1 => (∃ z, argD ρ1 a = some (.str z)) ∧ tu ρ1 (kM1b op a Q)
theorem u_m1 (h : to ρ (kM1a op tu Q)) : vM1 op to tu ρ Q := h
theorem k_m1a {a : Arg} {z : Str} (e : argD ρ a = some (.str z)) (h : tu ρ (kM1b op a Q)) : kM1a op tu Q a ρ := ⟨⟨z, e⟩, h⟩
theorem k_m1b {a b : Arg} {da db : D} (ha : argD ρ a = some da) (hb : argD ρ b = some db) (h : op [da, db] (kRet Q ρ)) : kM1b op a Q b ρ := ⟨da, db, ha, hb, h⟩
def kGet3 (a : Arg) (sk : Slot) (Q : VK0) : VK0 := fun s ρ3 => ∃ kd key kvs, sk = .sh kd ∧ keyD kd = some key ∧ argD ρ3 a = some (.dct kvs) ∧ (∀ d, lookK kvs key = some d → Q (.sh d) ρ3) ∧ (lookK kvs key = none → Q s ρ3)
def kGet2 (a : Arg) (tx : VE) (Q : VK0) : VK0 := fun sk ρ2 => tx ρ2 (kGet3 a sk Q)
def kGet1 (tk tx : VE) (Q : VK0) : Arg → Rho → Prop := fun a ρ1 => (∃ kvs, argD ρ1 a = some (.dct kvs)) ∧ tk ρ1 (kGet2 a tx Q)
theorem u_get2 {tk tx : VE} (h : to ρ (kGet1 tk tx Q)) : vGet2 to tk tx ρ Q := h
theorem k_get1 {tk tx : VE} {a : Arg} {kvs : List (Key × D)} (e : argD ρ a = some (.dct kvs)) (h : tk ρ (kGet2 a tx Q)) : kGet1 tk tx Q a ρ := ⟨⟨kvs, e⟩, h⟩
theorem k_get2 {tx : VE} {a : Arg} (h : tx ρ (kGet3 a s Q)) : kGet2 a tx Q s ρ := h
theorem k_get3 {a : Arg} {kd : D} {key : Key} {kvs : List (Key × D)} (ek : keyD kd = some key) (e : argD ρ a = some (.dct kvs)) (h1 : ∀ d, lookK kvs key = some d → Q (.sh d) ρ) (h2 : lookK kvs key = none → Q s ρ) : kGet3 a (.sh kd) Q s ρ := ⟨kd, key, kvs, rfl, ek, e, h1, h2⟩
/-! stores into own lists, dicts -/
def kSetL2 (i : Nat) (s : Slot) (nx : Rho → Prop) : VK0 := fun sk ρ2 => ∃ (k : Int) (j : Nat) (b : Bool) (ds : List D) (d : D), sk = .sh (.int k) ∧ ρ2[i]? = some (.ow b (.lst ds)) ∧ ixN ds.length k = some j ∧ slotD s = some d ∧ nx (ρ2.set i (.ow b (.lst (ds.set j d))))
def kSetL1 (i : Nat) (tk : VE) (nx : Rho → Prop) : VK0 := fun s ρ1 => (∃ b ds, ρ1[i]? = some (.ow b (.lst ds))) ∧ tk ρ1 (kSetL2 i s nx)
theorem u_setL {tk : VE} (h : te ρ (kSetL1 i tk nx)) : vSetL i tk te (.mk nx rt bk ct) ρ := h
theorem k_setL1 {tk : VE} (e : ρ[i]? = some (.ow b (.lst ds))) (h : tk ρ (kSetL2 i s nx)) : kSetL1 i tk nx s ρ := ⟨⟨b, ds, e⟩, h⟩
theorem k_setL2 {k : Int} {j : Nat} (e : ρ[i]? = some (.ow b (.lst ds))) (hj : ixN ds.length k = some j) (ed : slotD s = some d) (h : nx ρ') (hs : ρ.set i (.ow b (.lst (ds.set j d))) = ρ' := by dsimp only [List.set]) : kSetL2 i s nx (.sh (.int k)) ρ := ⟨k, j, b, ds, d, rfl, e, hj, ed, by rw [hs]; exact h⟩
def kPutD2 (i : Nat) (s : Slot) (nx : Rho → Prop) : VK0 := fun sk ρ2 => ∃ (kd : D) (key : Key) (b : Bool) (ds : List (Key × D)) (d : D), sk = .sh kd ∧ keyD kd = some key ∧ ρ2[i]? = some (.ow b (.dct ds)) ∧ ds.length < sizeLine ∧ slotD s = some d ∧ nx (ρ2.set i (.ow b (.dct (putD ds key d))))
def kPutD1 (i : Nat) (tk : VE) (nx : Rho → Prop) : VK0 := fun s ρ1 => (∃ b ds, ρ1[i]? = some (.ow b (.dct ds))) ∧ tk ρ1 (kPutD2 i s nx)
theorem u_putD {tk : VE} (h : te ρ (kPutD1 i tk nx)) : vPutD i tk te (.mk nx rt bk ct) ρ := h
theorem k_putD1 {tk : VE} {kvs : List (Key × D)} (e : ρ[i]? = some (.ow b (.dct kvs))) (h : tk ρ (kPutD2 i s nx)) : kPutD1 i tk nx s ρ := ⟨⟨b, kvs, e⟩, h⟩
theorem k_putD2 {kd : D} {key : Key} {kvs : List (Key × D)} (e : ρ[i]? = some (.ow b (.dct kvs))) (ek : keyD kd = some key) (hz : kvs.length < sizeLine) (ed : slotD s = some d) (h : nx ρ') (hs : ρ.set i (.ow b (.dct (putD kvs key d))) = ρ' := by dsimp only [List.set]) : kPutD2 i s nx (.sh kd) ρ := ⟨kd, key, b, kvs, d, rfl, ek, e, hz, ed, by rw [hs]; exact h⟩
def kAugL2 (i : Nat) (op : Prim) (k : Int) (d : D) (nx : Rho → Prop) : VK0 := fun s ρ2 => ∃ (b' : Bool) (ds' : List D) (dy : D), slotD s = some dy ∧ ρ2[i]? = some (.ow b' (.lst ds')) ∧ k < ds'.length ∧ op [d, dy] fun ret => ∃ z, ret = .val z ∧ nx (ρ2.set i (.ow b' (.lst (ds'.set k.toNat z))))
def kAugL1 (i : Nat) (op : Prim) (te : VE) (nx : Rho → Prop) : VK0 := fun sk ρ1 => ∃ (k : Int) (b : Bool) (ds : List D) (d : D), sk = .sh (.int k) ∧ ρ1[i]? = some (.ow b (.lst ds)) ∧ 0 ≤ k ∧ ds[k.toNat]? = some d ∧ te ρ1 (kAugL2 i op k d nx)
theorem u_augL {tk : VE} (e : ρ[i]? = some (.ow b (.lst ds))) (h : tk ρ (kAugL1 i op te nx)) : vAugL i op tk te (.mk nx rt bk ct) ρ := ⟨⟨b, ds, e⟩, h⟩
theorem k_augL1 {k : Int} (e : ρ[i]? = some (.ow b (.lst ds))) (h0 : 0 ≤ k) (ed : ds[k.toNat]? = some d) (h : te ρ (kAugL2 i op k d nx)) : kAugL1 i op te nx (.sh (.int k)) ρ := ⟨k, b, ds, d, rfl, e, h0, ed, h⟩
theorem k_augL2 {k x y : Int} (e : ρ[i]? = some (.ow b (.lst ds))) (hk : k < ds.length) (h : nx ρ') (hs : ρ.set i (.ow b (.lst (ds.set k.toNat (.int (x + y))))) = ρ' := by dsimp only [List.set]) : kAugL2 i iaddP k (.int x) nx (.sh (.int y)) ρ := ⟨b, ds, .int y, rfl, e, hk, .int (x + y), rfl, by rw [hs]; exact h⟩
/-! calls -/
def kBack (ρ1 : Rho) (as : List Arg) (Q : VK0) : Slot → List Slot → Prop := fun r ss => Q r (takeBack ρ1 as ss)
def kCall (SS : VSp) (Q : VK0) : List Arg → Rho → Prop := fun as ρ1 => ∃ ρs, lendS ρ1 as = some ρs ∧ SS ρs (kBack ρ1 as Q) fun _ _ _ => False
theorem u_call {SS : VSp} (h : tas ρ (kCall SS Q)) : vCall SS tas ρ Q := h
theorem k_call {SS : VSp} {as : List Arg} {ρs : List Slot} (e : lendS ρ as = some ρs) (h : SS ρs (kBack ρ as Q) fun _ _ _ => False) : kCall SS Q as ρ := ⟨ρs, e, h⟩
abbrev XP := Value → List (Str × D) → Rho → Prop
def kBackX (ρ1 : Rho) (as : List Arg) (EX : XP) : Value → List (Str × D) → List Slot → Prop := fun cls fs ss => EX cls fs (takeBack ρ1 as ss)
def kCallX (EX : XP) (SS : VSp) (Q : VK0) : List Arg → Rho → Prop := fun as ρ1 => ∃ ρs, lendS ρ1 as = some ρs ∧ SS ρs (kBack ρ1 as Q) (kBackX ρ1 as EX)
theorem u_callX {EX : XP} {SS : VSp} (h : tas ρ (kCallX EX SS Q)) : vCallX EX SS tas ρ Q := h
theorem k_callX {EX : XP} {SS : VSp} {as : List Arg} {ρs : List Slot} (e : lendS ρ as = some ρs) (h : SS ρs (kBack ρ as Q) (kBackX ρ as EX)) : kCallX EX SS Q as ρ := ⟨ρs, e, h⟩
theorem k_backX {EX : XP} {as : List Arg} {ss : List Slot} {cls : Value} {fs : List (Str × D)} (h : EX cls fs ρ') (e : takeBack ρ as ss = ρ') : kBackX ρ as EX cls fs ss := by show EX cls fs (takeBack ρ as ss); rw [e]; exact h
theorem k_back {as : List Arg} {ss : List Slot} (h : Q s ρ') (e : takeBack ρ as ss = ρ') : kBack ρ as Q s ss := by show Q s (takeBack ρ as ss); rw [e]; exact h
/-! targets -/
theorem u_gN {P : Rho → Prop} (e : ρ[i]? = some s) (hf : s.free = true) (h : P ρ') (hs : ρ.set i (.sh d) = ρ' := by dsimp only [List.set]) : gN i d ρ P := ⟨s, e, hf, by rw [hs]; exact h⟩
theorem u_gT {P : Rho → Prop} {is : List Nat} (hl : ds.length = is.length) (h : gTs is ds ρ P) : gT is (.tup ds) ρ P := ⟨ds, rfl, hl, h⟩
theorem u_gL {P : Rho → Prop} {is : List Nat} (hd : seqLD d = some ds) (hl : ds.length = is.length) (h : gTs is ds ρ P) : gL is d ρ P := ⟨ds, hd, hl, h⟩
theorem u_gTs0 {P : Rho → Prop} (h : P ρ) : gTs [] [] ρ P := h
theorem u_gTs {P : Rho → Prop} {is : List Nat} (h : gN i d ρ fun ρ' => gTs is ds ρ' P) : gTs (i :: is) (d :: ds) ρ P := h
/-! walks -/
variable {QI : List D → Rho → Prop}
def kItL (QI : List D → Rho → Prop) : VK0 := fun s ρ1 => ∃ d ds, slotD s = some d ∧ seqLD d = some ds ∧ QI ds ρ1
theorem u_itL (h : te ρ (kItL QI)) : vItL te ρ QI := h
theorem k_itL (e : slotD s = some d) (e2 : seqLD d = some ds) (h : QI ds ρ) : kItL QI s ρ := ⟨d, ds, e, e2, h⟩
def kItT (QI : List D → Rho → Prop) : VK0 := fun s ρ1 => ∃ d ds, slotD s = some d ∧ seqTD d = some ds ∧ QI ds ρ1
theorem u_itT (h : te ρ (kItT QI)) : vItT te ρ QI := h
theorem k_itT (e : slotD s = some d) (e2 : seqTD d = some ds) (h : QI ds ρ) : kItT QI s ρ := ⟨d, ds, e, e2, h⟩
def kItR1 (QI : List D → Rho → Prop) : List Arg → Rho → Prop := fun as ρ1 => ∃ n, argDs ρ1 as = some [.int n] ∧ (-(2 ^ 62) ≤ n ∧ n < 2 ^ 62) ∧ QI (rangeD 0 n.toNat) ρ1
theorem u_itR1 (h : tas ρ (kItR1 QI)) : vItR1 tas ρ QI := h
theorem k_itR1 {a : Arg} {n : Int} (ha : argD ρ a = some (.int n)) (hb : -(2 ^ 62) ≤ n ∧ n < 2 ^ 62) (h : QI (rangeD 0 n.toNat) ρ) : kItR1 QI [a] ρ := ⟨n, by unfold argDs; rw [ha]; rfl, hb, h⟩
def kItR2 (QI : List D → Rho → Prop) : List Arg → Rho → Prop := fun as ρ1 => ∃ m n, argDs ρ1 as = some [.int m, .int n] ∧ (-(2 ^ 62) ≤ m ∧ m < 2 ^ 62 ∧ -(2 ^ 62) ≤ n ∧ n < 2 ^ 62) ∧ QI (rangeD m (n - m).toNat) ρ1
theorem u_itR2 (h : tas ρ (kItR2 QI)) : vItR2 tas ρ QI := h
theorem k_itR2 {a b : Arg} {m n : Int} (ha : argD ρ a = some (.int m)) (hb : argD ρ b = some (.int n)) (hbd : -(2 ^ 62) ≤ m ∧ m < 2 ^ 62 ∧ -(2 ^ 62) ≤ n ∧ n < 2 ^ 62) (h : QI (rangeD m (n - m).toNat) ρ) : kItR2 QI [a, b] ρ := ⟨m, n, by unfold argDs argDs; rw [ha, hb]; rfl, hbd, h⟩
/-! loops -/
def kFor (g : VG) (tb : VS) (R : Out) : List D → Rho → Prop := fun ds ρ1 => ∃ I : Nat → Rho → Prop, I 0 ρ1 ∧ (∀ j d ρ', ds[j]? = some d → I j ρ' → g d ρ' fun ρ2 => tb { R with nx := I (j + 1), ct := I (j + 1), bk := R.nx } ρ2) ∧ ∀ ρ', I ds.length ρ' → R.nx ρ'
theorem u_for {it : VI} {g : VG} (h : it ρ (kFor g t (.mk nx rt bk ct))) : vFor it g t (.mk nx rt bk ct) ρ := h
theorem k_for {g : VG} (I : Nat → Rho → Prop) (h0 : I 0 ρ) (hs : ∀ j d ρ', ds[j]? = some d → I j ρ' → g d ρ' fun ρ2 => t (.mk (I (j + 1)) rt nx (I (j + 1))) ρ2) (hd : ∀ ρ', I ds.length ρ' → nx ρ') : kFor g t (.mk nx rt bk ct) ds ρ := ⟨I, h0, hs, hd⟩
theorem u_forK {g : VG} {kvs : List (Key × D)} (e : ρ[i]? = some (.sh (.dct kvs))) (I : Nat → Rho → Prop) (h0 : I 0 ρ) (hs : ∀ j k v ρ', kvs[j]? = some (k, v) → I j ρ' → g (dK k) ρ' fun ρ2 => t (.mk (I (j + 1)) rt nx (I (j + 1))) ρ2) (hd : ∀ ρ', I kvs.length ρ' → nx ρ') : vForK i g t (.mk nx rt bk ct) ρ := by
  refine ⟨kvs, e, I, h0, fun j d ρ' hj hI => ?_, fun ρ' hI => hd ρ' (by simpa using hI)⟩
  rw [List.getElem?_map] at hj
  obtain ⟨⟨k, v⟩, h1, h2⟩ := Option.map_eq_some_iff.mp hj
  subst h2
  exact hs j k v ρ' h1 hI
def kWhile (t : VS) (m : Nat) (I : Nat → Rho → Prop) (nx : Rho → Prop) (rt : Slot → Rho → Prop) : Bool → Rho → Prop := fun k ρ1 => (k = true → t (.mk (fun ρ2 => ∃ m', m' < m ∧ I m' ρ2) rt nx (fun ρ2 => ∃ m', m' < m ∧ I m' ρ2)) ρ1) ∧ (k = false → nx ρ1)
theorem u_while1 (I : Nat → Rho → Prop) (m : Nat) (h0 : I m ρ) (hs : ∀ m ρ', I m ρ' → tt ρ' (kWhile t m I nx rt)) : vWhile tt t (.mk nx rt bk ct) ρ := ⟨I, ⟨m, h0⟩, fun m ρ' h => hs m ρ' h⟩
theorem k_while {m : Nat} {I : Nat → Rho → Prop} (h1 : b = true → t (.mk (fun ρ2 => ∃ m', m' < m ∧ I m' ρ2) rt nx (fun ρ2 => ∃ m', m' < m ∧ I m' ρ2)) ρ) (h2 : b = false → nx ρ) : kWhile t m I nx rt b ρ := ⟨h1, h2⟩
/-! comprehensions -/
def kLcE (vs : List Nat) (acc : List D) (I : List D → Rho → Prop) : VK0 := fun s ρ4 => ∃ dy, slotD s = some dy ∧ acc.length < sizeLine ∧ I (acc ++ [dy]) (wipeR ρ4 vs)
def kLcT (te : VE) (vs : List Nat) (acc : List D) (I : List D → Rho → Prop) : Bool → Rho → Prop := fun b ρ3 => (b = true → te ρ3 (kLcE vs acc I)) ∧ (b = false → I acc (wipeR ρ3 vs))
def kLc (g : VG) (tt : VT) (te : VE) (vs : List Nat) (Q : VK0) : List D → Rho → Prop := fun ds ρ1 => (∀ v ∈ vs, ∃ s, ρ1[v]? = some s ∧ s.free = true) ∧ ∃ I : Nat → List D → Rho → Prop, I 0 [] (wipeR ρ1 vs) ∧
  (∀ j acc d ρ', ds[j]? = some d → I j acc ρ' → g d ρ' fun ρ2 => tt ρ2 (kLcT te vs acc (I (j + 1)))) ∧ ∀ acc ρ', I ds.length acc ρ' → Q (.ow false (.lst acc)) ρ'
theorem u_lc {it : VI} {g : VG} {vs : List Nat} (h : it ρ (kLc g tt te vs Q)) : vLc it g tt te vs ρ Q := h
/-- the general word -/
theorem k_lc {g : VG} {vs : List Nat} (hf : ∀ v ∈ vs, ∃ s, ρ[v]? = some s ∧ s.free = true) (I : Nat → List D → Rho → Prop) (h0 : I 0 [] (wipeR ρ vs)) (hs : ∀ j acc d ρ', ds[j]? = some d → I j acc ρ' → g d ρ' fun ρ2 => tt ρ2 (kLcT te vs acc (I (j + 1)))) (hd : ∀ acc ρ', I ds.length acc ρ' → Q (.ow false (.lst acc)) ρ') :
    kLc g tt te vs Q ds ρ := ⟨hf, I, h0, hs, hd⟩
theorem k_lcT {vs : List Nat} {acc : List D} {I : List D → Rho → Prop} (h1 : b = true → te ρ (kLcE vs acc I)) (h2 : b = false → I acc (wipeR ρ vs)) : kLcT te vs acc I b ρ := ⟨h1, h2⟩
theorem k_lcTT {vs : List Nat} {acc : List D} {I : List D → Rho → Prop} (h1 : te ρ (kLcE vs acc I)) : kLcT te vs acc I true ρ := ⟨fun _ => h1, fun z => by cases z⟩
theorem k_lcE {vs : List Nat} {acc : List D} {I : List D → Rho → Prop} (e : slotD s = some d) (hz : acc.length < sizeLine) (h : I (acc ++ [d]) ρ') (hs : wipeR ρ vs = ρ' := by dsimp only [wipeR, List.set]) : kLcE vs acc I s ρ := ⟨d, e, hz, by rw [hs]; exact h⟩
theorem u_yes (h : QB true ρ) : vYes ρ QB := h
/-- a pure one, over a list of encoded things -/
theorem k_lcM {α : Type} {g : VG} {vs : List Nat} (xs : List α) (f : α → D) (p : α → Bool) (y : α → D) (ρw : Rho) (hx : ds = xs.map f) (hz : xs.length < sizeLine) (hf : ∀ v ∈ vs, ∃ s, ρ[v]? = some s ∧ s.free = true)
    (hw : wipeR ρ vs = ρw) (hs : ∀ x acc (I : List D → Rho → Prop), x ∈ xs → acc.length < sizeLine → (p x = true → I (acc ++ [y x]) ρw) → (p x = false → I acc ρw) → g (f x) ρw fun ρ2 => tt ρ2 (kLcT te vs acc I))
    (h : Q (.ow false (.lst ((xs.filter p).map y))) ρw) : kLc g tt te vs Q ds ρ := by
  subst hx
  refine ⟨hf, fun j acc ρ' => ρ' = ρw ∧ acc = ((xs.take j).filter p).map y, ⟨hw, by simp⟩, fun j acc d ρ' hj ⟨e1, e2⟩ => ?_, fun acc ρ' ⟨e1, e2⟩ => ?_⟩
  · subst e1
    rw [List.getElem?_map] at hj
    obtain ⟨x, hx, ex⟩ := Option.map_eq_some_iff.mp hj
    subst ex
    have hl : j < xs.length := (List.getElem?_eq_some_iff.mp hx).1
    have hm : x ∈ xs := List.mem_of_getElem? hx
    have ht : xs.take (j + 1) = xs.take j ++ [x] := by rw [List.take_add_one, hx]; rfl
    refine hs x acc _ hm ?_ (fun hp => ⟨rfl, ?_⟩) (fun hp => ⟨rfl, ?_⟩)
    · subst e2
      have h1 := List.length_filter_le p (xs.take j)
      have h2 : (xs.take j).length ≤ xs.length := by rw [List.length_take]; omega
      rw [List.length_map]; omega
    · rw [ht, e2, List.filter_append, List.map_append]
      simp [hp]
    · rw [ht, e2, List.filter_append, List.map_append]
      simp [hp]
  · subst e1; subst e2
    rw [List.length_map, List.take_length]
    exact h
theorem u_lcK {g : VG} {vs : List Nat} {kvs : List (Key × D)} (e : ρ[i]? = some (.sh (.dct kvs))) (h : kLc g tt te vs Q (kvs.map fun kv => dK kv.1) ρ) : vLcK i g tt te vs ρ Q := ⟨kvs, e, h⟩

/-! ### primitives -/
variable {x y : Int} {a z : Str}
theorem p_addI (h : R (.val (.int (x + y)))) : addP [.int x, .int y] R := h
theorem p_addS (hz : a.length + z.length ≤ sizeLine) (h : R (.val (.str (a ++ z)))) : addP [.str a, .str z] R := ⟨hz, h⟩
theorem p_addL (hz : ds.length + es.length ≤ sizeLine) (h : R (.newL (ds ++ es))) : addP [.lst ds, .lst es] R := ⟨hz, h⟩
theorem p_addT (hz : ds.length + es.length ≤ sizeLine) (h : R (.newT (ds ++ es))) (h2 : R (.val (.tup (ds ++ es)))) : addP [.tup ds, .tup es] R := ⟨hz, h, h2⟩
theorem p_subI (h : R (.val (.int (x - y)))) : subP [.int x, .int y] R := h
theorem p_mulI (hc : CMul x y ∨ CMulW x y) (h : R (.val (.int (x * y)))) : mulP [.int x, .int y] R := ⟨hc, h⟩
theorem p_modI (hc : 0 < y) (h : R (.val (.int (x % y)))) : modP [.int x, .int y] R := ⟨hc, h⟩
theorem p_divI (hc : CDiv x y ∨ CDivW x y) (h : R (.val (.int (x / y)))) : divP [.int x, .int y] R := ⟨hc, h⟩
theorem p_powI (hc : CPow x y) (h : R (.val (.int (x ^ y.toNat)))) : powP [.int x, .int y] R := ⟨hc, h⟩
theorem p_negI (h : R (.val (.int (-x)))) : negP [.int x] R := h
theorem p_ltI (h : R (.val (.bl (decide (x < y))))) : ltP [.int x, .int y] R := h
theorem p_leI (h : R (.val (.bl (decide (x ≤ y))))) : leP [.int x, .int y] R := h
theorem p_gtI (h : R (.val (.bl (decide (y < x))))) : gtP [.int x, .int y] R := h
theorem p_geI (h : R (.val (.bl (decide (y ≤ x))))) : geP [.int x, .int y] R := h
theorem p_eqI (h : R (.val (.bl (decide (x = y))))) : eqP [.int x, .int y] R := h
theorem p_eqS (h : R (.val (.bl (decide (a = z))))) : eqP [.str a, .str z] R := h
theorem p_neI (h : R (.val (.bl (!decide (x = y))))) : neP [.int x, .int y] R := h
theorem p_neS (h : R (.val (.bl (!decide (a = z))))) : neP [.str a, .str z] R := h
theorem p_eqB {x y : Bool} (h : R (.val (.bl (decide (x = y))))) : eqP [.bl x, .bl y] R := h
theorem p_eqN (h : R (.val (.bl true))) : eqP [.non, .non] R := h
theorem p_neB {x y : Bool} (h : R (.val (.bl (!decide (x = y))))) : neP [.bl x, .bl y] R := h
theorem p_isNn (h : R (.val (.bl true))) : isNP [.non, .non] R := h
theorem p_isNi (h : R (.val (.bl false))) : isNP [.int x, .non] R := h
theorem p_isNs (h : R (.val (.bl false))) : isNP [.str a, .non] R := h
theorem p_isNb {x : Bool} (h : R (.val (.bl false))) : isNP [.bl x, .non] R := h
theorem p_isNl (h : R (.val (.bl false))) : isNP [.lst ds, .non] R := h
theorem p_isNt (h : R (.val (.bl false))) : isNP [.tup ds, .non] R := h
theorem p_isNd {kvs : List (Key × D)} (h : R (.val (.bl false))) : isNP [.dct kvs, .non] R := h
theorem p_notNn (h : R (.val (.bl false))) : notNP [.non, .non] R := h
theorem p_notNi (h : R (.val (.bl true))) : notNP [.int x, .non] R := h
theorem p_notNs (h : R (.val (.bl true))) : notNP [.str a, .non] R := h
theorem p_notNb {x : Bool} (h : R (.val (.bl true))) : notNP [.bl x, .non] R := h
theorem p_notNl (h : R (.val (.bl true))) : notNP [.lst ds, .non] R := h
theorem p_notNt (h : R (.val (.bl true))) : notNP [.tup ds, .non] R := h
theorem p_notNd {kvs : List (Key × D)} (h : R (.val (.bl true))) : notNP [.dct kvs, .non] R := h
theorem p_isi {T t : String} {b' : Bool} (ht : tyD d = some t) (hk : kitB t T = some b') (h : R (.val (.bl b'))) : isiP [d, .opq (.ty T)] R := ⟨d, T, t, b', rfl, ht, hk, h⟩
theorem p_isiT {T1 T2 t : String} {b' : Bool} (ht : tyD d = some t) (hk : kitAnyB t [T1, T2] = some b') (h : R (.val (.bl b'))) : isiTP [d, .tup [.opq (.ty T1), .opq (.ty T2)]] R := ⟨d, [T1, T2], t, b', rfl, ht, hk, h⟩
theorem p_reprI (hz : x.natAbs.log2 < 1920) (h : R (.val (.str (toString x)))) : reprP [.int x] R := ⟨hz, h⟩
theorem p_reprS (hz : (reprText a).length ≤ sizeLine) (h : R (.val (.str (reprText a)))) : reprP [.str a] R := ⟨hz, h⟩
theorem p_reprB {x : Bool} (h : R (.val (.str (if x then "True" else "False")))) : reprP [.bl x] R := h
theorem p_reprN (h : R (.val (.str "None"))) : reprP [.non] R := h
theorem p_lenL (h : R (.val (.int ds.length))) : lenP [.lst ds] R := h
theorem p_lenF (h : R (.val (.int ds.length))) : lenP [.fls ds] R := h
theorem p_lenT (h : R (.val (.int ds.length))) : lenP [.tup ds] R := h
theorem p_lenD {kvs : List (Key × D)} (h : R (.val (.int kvs.length))) : lenP [.dct kvs] R := h
theorem p_lenS (hz : a.length ≤ sizeLine) (h : R (.val (.int a.length))) : lenP [.str a] R := ⟨hz, h⟩
theorem p_absI (h : R (.val (.int (if x < 0 then -x else x)))) : absP [.int x] R := h
theorem p_intI (h : R (.val (.int x))) : intP [.int x] R := h
theorem p_strI (hz : x.natAbs.log2 < 1920) (h : R (.val (.str (toString x)))) : strP [.int x] R := ⟨hz, h⟩
theorem p_listL (h : R (.newL ds)) : listP [.lst ds] R := ⟨ds, .inl rfl, h⟩
theorem p_listF (h : R (.newL ds)) : listP [.fls ds] R := ⟨ds, .inl rfl, h⟩
theorem p_listD {kvs : List (Key × D)} (h : R (.newL (kvs.map fun kv => dK kv.1))) : listP [.dct kvs] R := h
theorem p_ixL (e : L2.atI ds x = some d) (h : R (.val d)) : ixP [.lst ds, .int x] R := ⟨ds, d, .inl rfl, e, h⟩
theorem p_ixF (e : L2.atI ds x = some d) (h : R (.val d)) : ixP [.fls ds, .int x] R := ⟨ds, d, .inl rfl, e, h⟩
theorem p_ixT (e : L2.atI ds x = some d) (h : R (.val d)) : ixP [.tup ds, .int x] R := ⟨ds, d, .inr rfl, e, h⟩
theorem p_ixLj (j : Nat) (hj : x = (j : Int)) (e : ds[j]? = some d) (h : R (.val d)) : ixP [.lst ds, .int x] R := p_ixL (by rw [hj]; exact atI_nat e) h
theorem p_ixTj (j : Nat) (hj : x = (j : Int)) (e : ds[j]? = some d) (h : R (.val d)) : ixP [.tup ds, .int x] R := p_ixT (by rw [hj]; exact atI_nat e) h
theorem p_ixFj (j : Nat) (hj : x = (j : Int)) (e : ds[j]? = some d) (h : R (.val d)) : ixP [.fls ds, .int x] R := p_ixF (by rw [hj]; exact atI_nat e) h
theorem p_ixLn (h0 : 0 ≤ x) (e : ds[x.toNat]? = some d) (h : R (.val d)) : ixP [.lst ds, .int x] R := p_ixLj x.toNat (by omega) e h
theorem p_ixFn (h0 : 0 ≤ x) (e : ds[x.toNat]? = some d) (h : R (.val d)) : ixP [.fls ds, .int x] R := p_ixFj x.toNat (by omega) e h
theorem p_ixTn (h0 : 0 ≤ x) (e : ds[x.toNat]? = some d) (h : R (.val d)) : ixP [.tup ds, .int x] R := p_ixTj x.toNat (by omega) e h
theorem k_setL2j (j : Nat) {k : Int} (hk : k = (j : Int)) (e : ρ[i]? = some (.ow b (.lst ds))) (hj : j < ds.length) (ed : slotD s = some d) (h : nx ρ') (hs : ρ.set i (.ow b (.lst (ds.set j d))) = ρ' := by dsimp only [List.set]) : kSetL2 i s nx (.sh (.int k)) ρ :=
  k_setL2 e (by subst hk; unfold ixN; rw [if_pos (by omega), if_pos (by omega)]; simp) ed h hs
theorem k_augL1j (j : Nat) {k : Int} (hk : k = (j : Int)) (e : ρ[i]? = some (.ow b (.lst ds))) (ed : ds[j]? = some d) (h : te ρ (kAugL2 i op (j : Int) d nx)) : kAugL1 i op te nx (.sh (.int k)) ρ := by
  subst hk
  exact k_augL1 e (by omega) (by simpa using ed) h
theorem k_augL2j {j : Nat} (e : ρ[i]? = some (.ow b (.lst ds))) (hk : j < ds.length) (h : nx ρ') (hs : ρ.set i (.ow b (.lst (ds.set j (.int (x + y))))) = ρ' := by dsimp only [List.set]) : kAugL2 i iaddP (j : Int) (.int x) nx (.sh (.int y)) ρ :=
  k_augL2 e (by omega) h (by simpa using hs)
theorem p_ixD {kvs : List (Key × D)} {kd : D} {key : Key} (ek : keyD kd = some key) (e : lookK kvs key = some d) (h : R (.val d)) : ixP [.dct kvs, kd] R := by
  cases kd <;> first | exact ⟨key, d, ek, e, h⟩ | cases ek
theorem p_ixS {c : Nat} (hz : a.length ≤ sizeLine) (e : L2.atI a.cps.toList x = some c) (h : R (.val (.str ⟨#[c]⟩))) : ixP [.str a, .int x] R := ⟨hz, c, e, h⟩
theorem p_ixSn {c : Nat} (hz : a.length ≤ sizeLine) (h0 : 0 ≤ x) (e : a.cps.toList[x.toNat]? = some c) (h : R (.val (.str ⟨#[c]⟩))) : ixP [.str a, .int x] R := p_ixS hz (by
  have hx : x = (x.toNat : Int) := by omega
  rw [hx]; exact atI_nat e) h
theorem p_inD {kvs : List (Key × D)} {kd : D} {key : Key} (ek : keyD kd = some key) (h : R (.val (.bl (ifN b (lookK kvs key).isSome)))) : inP b [kd, .dct kvs] R := ⟨key, ek, h⟩
theorem flatL_ints : ∀ ns : List Int, flatL (ns.map D.int) = some (ns.map V.int)
  | [] => rfl
  | n :: r => by rw [List.map_cons]; unfold flatL; rw [flatL_ints r]; rfl
theorem flatL_strs : ∀ ns : List Str, flatL (ns.map D.str) = some (ns.map V.str)
  | [] => rfl
  | n :: r => by rw [List.map_cons]; unfold flatL; rw [flatL_strs r]; rfl
theorem inV_str (x : Str) : ∀ ss : List Str, inV (.str x) (ss.map V.str) = decide (x ∈ ss)
  | [] => rfl
  | s :: r => by
    have ih := inV_str x r
    unfold inV at ih ⊢
    rw [List.map_cons, List.any_cons, ih]
    show ((s == x) || decide (x ∈ r)) = decide (x ∈ s :: r)
    by_cases e : x = s
    · subst e; simp
    · have e2 : ¬ s = x := fun z => e z.symm
      simp [e, e2]
theorem inV_int (x : Int) : ∀ ss : List Int, inV (.int x) (ss.map V.int) = decide (x ∈ ss)
  | [] => rfl
  | s :: r => by
    have ih := inV_int x r
    unfold inV at ih ⊢
    rw [List.map_cons, List.any_cons, ih]
    show ((s == x) || decide (x ∈ r)) = decide (x ∈ s :: r)
    by_cases e : x = s
    · subst e; simp
    · have e2 : ¬ s = x := fun z => e z.symm
      simp [e, e2]
theorem p_inS {ss : List Str} (h : R (.val (.bl (ifN b (decide (a ∈ ss)))))) : inP b [.str a, .lst (ss.map D.str)] R := ⟨_, _, _, .inl rfl, rfl, flatL_strs ss, by rw [inV_str]; exact h⟩
theorem p_inI {ss : List Int} (h : R (.val (.bl (ifN b (decide (x ∈ ss)))))) : inP b [.int x, .lst (ss.map D.int)] R := ⟨_, _, _, .inl rfl, rfl, flatL_ints ss, by rw [inV_int]; exact h⟩
theorem p_inS0 {ss : List Str} (h : R (.val (.bl (decide (a ∈ ss))))) : inP false [.str a, .lst (ss.map D.str)] R := p_inS h
theorem p_inS1 {ss : List Str} (h : R (.val (.bl (!decide (a ∈ ss))))) : inP true [.str a, .lst (ss.map D.str)] R := p_inS h
theorem p_inI0 {ss : List Int} (h : R (.val (.bl (decide (x ∈ ss))))) : inP false [.int x, .lst (ss.map D.int)] R := p_inI h
theorem p_inI1 {ss : List Int} (h : R (.val (.bl (!decide (x ∈ ss))))) : inP true [.int x, .lst (ss.map D.int)] R := p_inI h
theorem p_inD0 {kvs : List (Key × D)} {kd : D} {key : Key} (ek : keyD kd = some key) (h : R (.val (.bl (lookK kvs key).isSome))) : inP false [kd, .dct kvs] R := p_inD ek h
theorem p_inD1 {kvs : List (Key × D)} {kd : D} {key : Key} (ek : keyD kd = some key) (h : R (.val (.bl (!(lookK kvs key).isSome)))) : inP true [kd, .dct kvs] R := p_inD ek h
theorem p_slL {lo hi : Option Int} (h : R (.newL (cutL ds lo hi))) : slP lo hi [.lst ds] R := h
theorem p_slF {lo hi : Option Int} (h : R (.newL (cutL ds lo hi))) : slP lo hi [.fls ds] R := h
theorem p_slS {lo hi : Option Int} (hz : a.length ≤ sizeLine) (h : R (.val (.str (cutS a lo hi)))) : slP lo hi [.str a] R := ⟨hz, h⟩
theorem p_sum {ns : List Int} (h : R (.val (.int ns.sum))) : sumP [.lst (ns.map D.int)] R := ⟨_, _, ns, rfl, rfl, rfl, h⟩
theorem p_join {ys : List Str} (hz : (ys.map (·.length)).sum + ys.length * a.length ≤ 16777216) (h : R (.val (.str (Txt.join a ys)))) : joinP [.str a, .lst (ys.map D.str)] R := ⟨a, _, _, ys, rfl, rfl, rfl, hz, h⟩
theorem p_max2 (h : R (.val (.int (if y > x then y else x)))) : maxP [.int x, .int y] R := h
theorem p_min2 (h : R (.val (.int (if y < x then y else x)))) : minP [.int x, .int y] R := h
theorem p_maxL {ns : List Int} (hn : ns ≠ []) (h : ∀ m, m ∈ ns → (∀ y ∈ ns, y ≤ m) → R (.val (.int m))) : maxP [.lst (ns.map D.int)] R := ⟨_, ns, rfl, rfl, hn, h⟩
theorem p_minL {ns : List Int} (hn : ns ≠ []) (h : ∀ m, m ∈ ns → (∀ y ∈ ns, m ≤ y) → R (.val (.int m))) : minP [.lst (ns.map D.int)] R := ⟨_, ns, rfl, rfl, hn, h⟩
theorem p_all {bs : List Bool} (h : R (.val (.bl (bs.all id)))) : allP [.lst (bs.map D.bl)] R := ⟨_, _, bs, rfl, rfl, rfl, h⟩
theorem p_any {bs : List Bool} (h : R (.val (.bl (bs.any id)))) : anyP [.lst (bs.map D.bl)] R := ⟨_, _, bs, rfl, rfl, rfl, h⟩
theorem p_sortS {xs : List Str} (hz : xs.length < 64) (h : ∀ ys : List Str, ys.Perm xs → sortedS ys = true → R (.newL (ys.map D.str))) : sortedP [.lst (xs.map D.str)] R := ⟨_, _, rfl, rfl, .inr ⟨xs, rfl, hz, h⟩⟩
theorem p_sortI {xs : List Int} (h : ∀ ys : List Int, ys.Perm xs → ys.Pairwise (· ≤ ·) → R (.newL (ys.map D.int))) : sortedP [.lst (xs.map D.int)] R := ⟨_, _, rfl, rfl, .inl ⟨xs, rfl, h⟩⟩
theorem p_dict {kvs : List (Key × D)} (e : pairsD ds = some kvs) (h : R (.newD (mergeD [] kvs))) : dictP [.lst ds] R := ⟨_, ds, kvs, rfl, rfl, e, h⟩
end
end WL

set_option Elab.async false
set_option linter.all false
set_option maxRecDepth 100000
set_option maxHeartbeats 4000000
/-! WX: exceptions of the program's own classes: made, raised, caught. -/
namespace WL
open PySem PySem.Spec PyProof.Rows L2
variable [TBs]

/-- what __init__ of such a class does: its arguments become fields -/
def spI (K : PySem.W.Frag) (fl : List Str) : Sp := fun vs H Q _ => ∃ (a C : Addr) (ys : List V), vs = .ref a :: ys ∧ ys.length = fl.length ∧ OexC K C ∧ (∀ f ∈ fl, PySem.W.findIn K (.ref C) f = some none) ∧ H a = some (exo a C none) ∧
  ∀ dx, H dx = none → dx ≠ a → Q .non (upd (upd H dx (exd dx (fl.zip ys).reverse)) a (exo a C (some dx)))
/-- the field list as it stands -/
def mkF (fl : List Str) (ds : List D) : List (Str × D) := (fl.zip ds).reverse
theorem RepX.append {K : PySem.W.Frag} {H : Hp} : ∀ {vs ws : List (Str × V)} {ds es : List (Str × D)}, RepX K H vs ds → RepX K H ws es → RepX K H (vs ++ ws) (ds ++ es)
  | _, _, _, _, .nil, s => s
  | _, _, _, _, .cons r t, s => .cons r (RepX.append t s)
theorem repX_mk {K : PySem.W.Frag} {H : Hp} : ∀ {fl : List Str} {vs : List V} {ds : List D}, Reps K H vs ds → RepX K H (fl.zip vs).reverse (mkF fl ds)
  | [], _, _, _ => by unfold mkF; simp; exact .nil
  | f :: fl, _, _, .nil => by unfold mkF; simp; exact .nil
  | f :: fl, _, _, .cons r t => by
    unfold mkF
    simp only [List.zip_cons_cons, List.reverse_cons]
    exact RepX.append (repX_mk t) (.cons r .nil)
/-- an own exception class, as raises want it -/
structure XCls (P : Program) (w : World) (K : PySem.W.Frag) (mg : Str → Option Value) (base : Heap) (x : Str) (C : Addr) (fl : List Str) (k : Nat) : Prop where
  oex : OexC K C
  ini : ∃ fI fd ps, PySem.W.findIn K (.ref C) "__init__" = some (some (.ref fI)) ∧ PySem.W.typeIn K (.ref fI) = some (.type "function") ∧ FnOk P w K mg base (L2.CX P w) k fI fd ps (spI K fl) ∧ Binds K fd ps []
  fld : ∀ f ∈ fl, PySem.W.findIn K (.ref C) f = some none
  mg : mg x = some (.ref C)
section
variable {X : Cx} {Φ : Fr} {x : Str} {C : Addr} {fl : List Str} {k : Nat} {e : Expr} {es : List Expr} {tas : VA} {p pos pos' : Pos}
/-- raise C(e, ..) -/
def vRaise (EX : XP) (C : Addr) (fl : List Str) (ta : VA) : VS := fun _ ρ => ta ρ fun as ρ1 => ∃ ds, argVs as = some ds ∧ ds.length = fl.length ∧ ds.length ≤ 1000 ∧ EX (.ref C) (mkF fl ds) ρ1
theorem pws_raise (hc : X.calm = true) (tk : Tk X Φ) (T : XCls X.prog X.w X.K X.mg X.base x C fl k) (hr : Room (k + 1) X.A) (hg : Gl X x) (ha : PWA X Φ (e :: es) tas) (hd : (x == ("__debug__" : Str)) = false := by decide)
    (h1 : starEach (e :: es) X.env = (false, eval e X.env) :: starEach es X.env := by rfl) (h2 : (backTo pos (starEach es X.env)).any (·.1) = false := by rfl) :
    PWS X Φ (.Raise (some (.Call (.Name x p) (e :: es) [] pos)) none pos') (vRaise Φ.EX C fl tas) := by
  obtain ⟨fI, fd, ps, iC, tI, F1, hb⟩ := T.ini
  refine ⟨fun ρ R Hk T' σ H Dn q hh o => tSemS_of (ps_raise hc tk (pmk_oex T.oex iC tI F1 hr hb .nil passL hg T.mg pa_sem hd h1 h2)) ?_⟩
  refine ha.run ρ _ Hk T' σ H _ q hh fun vs H1 Hk1 ρ1 as ts e1 has h1 k1 ⟨ds, ed, hl, hz, q1⟩ => ?_
  obtain ⟨Hk2, e2, rs, h2⟩ := has.known ed h1
  refine ⟨by rw [rs.length]; exact hz, fun a ha' => ?_⟩
  refine ⟨a, C, vs ++ [], rfl, by rw [List.append_nil, rs.length]; exact hl, T.oex, T.fld, upd_same, fun dx hdx hne => ⟨rfl, dx, _, upd_same, by rw [upd_ne hne, upd_same], by rw [upd_ne hne] at hdx; exact hdx, ?_⟩⟩
  have hdx1 : H1 dx = none := by rw [upd_ne hne] at hdx; exact hdx
  have eH : upd (del (upd (upd (upd H1 a (exo a C none)) dx (exd dx (fl.zip (vs ++ [])).reverse)) a (exo a C (some dx))) a) dx (.xd (fl.zip (vs ++ [])).reverse) = upd H1 dx (.xd (fl.zip (vs ++ [])).reverse) := by
    funext b
    by_cases hb1 : b = dx
    · subst hb1; rw [upd_same, upd_same]
    · rw [upd_ne hb1, upd_ne hb1]
      by_cases hb2 : b = a
      · subst hb2; rw [del_same, ha']
      · rw [del_ne hb2, upd_ne hb2, upd_ne hb1, upd_ne hb2]
  rw [eH]
  have h3 := h2.know (u := .xd (fl.zip (vs ++ [])).reverse) hdx1
  refine ⟨_, ρ1, mkF fl ds, Holds.drop (ts := T') (T := []) (by rw [List.append_nil]; exact h3), .inr ⟨dx, _, rfl, upd_same, ?_⟩, q1⟩
  rw [List.append_nil]
  exact repX_mk (rs.mono (h2.know_same hdx1))
end

/-! ### try .. except C as e -/
/-- a run inside a run: its frame -/
def Fr.sub (Φ : Fr) (T : List Cell) (Hk : Hp) (σ : L2.St) (ρ : Rho) (EX : XP) : Fr := ⟨T ++ Φ.T0, Hk, σ, ρ, EX⟩
section
variable {K : PySem.W.Frag} {Φ : Fr} {Hk Hk' H H' : Hp} {ρ ρ' : Rho} {T T' : List Cell} {σ σ' : L2.St} {EX : XP}
theorem Holds.into (h : Holds K Φ Hk ρ T σ H) : Holds K (Φ.sub T Hk σ ρ EX) Hk ρ [] σ H := ⟨h.len, by simpa [Fr.sub] using h.hl, .refl _, .refl _ _⟩
theorem Holds.out (hh : Holds K Φ Hk ρ T σ H) (h : Holds K (Φ.sub T Hk σ ρ EX) Hk' ρ' T' σ' H') : Holds K Φ Hk' ρ' (T' ++ T) σ' H' := ⟨h.len, by have := h.hl; simpa [Fr.sub, List.append_assoc] using this, hh.ex0.trans h.ex0, hh.kp0.trans h.kp0⟩
theorem Holds.sub_of {ρ2 : Rho} {σ2 : L2.St} {Hk2 : Hp} {EX2 : XP} (h : Holds K (Φ.sub T Hk2 σ2 ρ2 EX2) Hk' ρ' T' σ' H') (e : Same Hk Hk') (k : Kp σ ρ σ' ρ') : Holds K (Φ.sub T Hk σ ρ EX) Hk' ρ' T' σ' H' := ⟨h.len, h.hl, e, k⟩
theorem OutOk.into {R : Out} {D : Ends} (hh : Holds K Φ Hk ρ T σ H) (o : OutOk K Φ Hk T σ ρ R D) : OutOk K (Φ.sub T Hk σ ρ EX) Hk [] σ ρ R D :=
  ⟨fun σ' H' Hk' ρ' e h k q => o.nx σ' H' Hk' ρ' e (hh.out h) k q, fun v σ' H' Hk' ρ' r e h k q => o.rt v σ' H' Hk' ρ' r e (hh.out h) k q,
    fun σ' H' Hk' ρ' e h k q => o.bk σ' H' Hk' ρ' e (hh.out h) k q, fun σ' H' Hk' ρ' e h k q => o.ct σ' H' Hk' ρ' e (hh.out h) k q⟩
end
/-- what the clause makes of an exception -/
def kTry (M : Value → Value → Option Bool) (EX : XP) (c : Value) (i : Nat) (u : Addr → Value → List (Str × D) → VS) (R : Out) : XP := fun cls fs ρ' => ∃ s b, ρ'[i]? = some s ∧ s.free = true ∧ M cls c = some b ∧
  (b = true → ∀ a, u a cls fs { nx := fun ρ2 => R.nx (ρ2.set i .un), rt := R.rt, bk := fun ρ2 => R.bk (ρ2.set i .un), ct := fun ρ2 => R.ct (ρ2.set i .un) } (ρ'.set i (.sh (.opq (.ref a))))) ∧ (b = false → EX cls fs ρ')
def vTryAs (M : Value → Value → Option Bool) (EX : XP) (c : Value) (i : Nat) (t : XP → VS) (u : Addr → Value → List (Str × D) → VS) : VS := fun R ρ => (∃ s, ρ[i]? = some s ∧ s.free = true) ∧ t (kTry M EX c i u R) R ρ
section
variable {X : Cx} {Φ : Fr} {x n : Str} {c : Value} {i : Nat} {body suite : List Stmt} {b₀ : Stmt} {np pos pos' : Pos} {t : XP → VS} {u : Addr → Value → List (Str × D) → VS}
theorem pws_tryAs (hs : X.stack = X.env :: X.outer) (hf : X.env.frame = some X.env.locals) (hN : X.N.Nodup) (hi : X.N[i]? = some n) (hln : X.env.kindOf n = some .local) (hc : Names X x c) (tk : Tk X Φ)
    (hb : ∀ (Φ' : Fr) (pn : List (Addr × Obj)) (xe : Value → Shared → Prop), Same Φ.Hk0 Φ'.Hk0 → Tk (X.tr pn xe) Φ' → PassesOwn (model X.prog X.w) X.A X.env xe → PWSs (X.tr pn xe) Φ' body (t Φ'.EX))
    (hsu : ∀ (Φ' : Fr) (a : Addr) (oe : Obj) (cls : Value) (d : Option Addr) (fs : List (Str × D)) (pn : List (Addr × Obj)), Zc cls d oe → (∃ vs, oe.data = .fields vs) → ExAt X.K Φ'.Hk0 d fs → PWSs (X.suite a ((a, oe) :: pn)) Φ' (b₀ :: suite) (u a cls fs)) :
    PWS X Φ (.Try body [.ExceptHandler (some (.Name x np)) (some n) (b₀ :: suite) pos'] [] [] pos) (vTryAs (PySem.W.exmOne X.K) Φ.EX c i t u) := ⟨fun ρ R Hk T σ H D ⟨⟨s0, e0, f0⟩, q⟩ hh o => by
  refine tSemS_of (ps_try_as (tb := fun W => fun D σ H => ∀ pn xe, Takes (X.tr pn xe) W → PassesOwn (model X.prog X.w) X.A X.env xe → tSemSs (X.tr pn xe) body D σ H)
    (ts := fun a cls d => fun D σ H => ∀ oe pn, Zc cls d oe → (∃ vs, oe.data = .fields vs) → tSemSs (X.suite a ((a, oe) :: pn)) (b₀ :: suite) D σ H) (Wout := WΦ X.K Φ) hs hf hN hi hln hc tk
    (fun W pn xe tkW po => ⟨fun pins s σ H D I h => (h pn xe tkW po) pins s I⟩) (fun a oe cls d pn hz hfl => ⟨fun pins s σ H D I h => (h oe pn hz hfl) pins s I⟩)) ?_
  intro pn xe tkW po
  refine (hb (Φ.sub T Hk σ ρ (kTry (PySem.W.exmOne X.K) Φ.EX c i u R)) pn xe hh.ex0 (tkW.imp ?_) po).run ρ R Hk [] σ H D q hh.into (o.into hh)
  rintro cls d σ' H' ⟨Hk', ρ', fs, h2, xa, s, b, es, fr, hm, hT, hF⟩
  refine ⟨b, hm, fun hb1 a ha oe pn' hz hfl => ?_, fun hb1 => ⟨Hk', ρ', fs, Holds.drop (ts := T) (T := []) (by rw [List.append_nil]; exact hh.out h2), xa, hF hb1⟩⟩
  have h3 : Holds X.K (Φ.sub T Hk' σ' ρ' fun _ _ _ => False) Hk' (ρ'.set i (.sh (.opq (.ref a)))) [] (σ'.set i (some (.ref a))) H' :=
    (Holds.store (Holds.sh (h2.sub_of (.refl _) (.refl _ _)) (.opq (v := .ref a))) es fr)
  have off : Off (Φ.sub T Hk σ ρ fun _ _ _ => False) [i] := Off.of (K := X.K) (Hk := Hk) (T := []) (H := H) hh.into fun v hv => by rw [List.mem_singleton.mp hv]; exact ⟨s0, e0, f0⟩
  have fin : ∀ {σ'' : L2.St} {H'' Hk'' : Hp} {ρ'' : Rho}, Same Hk' Hk'' → Holds X.K (Φ.sub T Hk' σ' ρ' fun _ _ _ => False) Hk'' ρ'' [] σ'' H'' → Kp (σ'.set i (some (.ref a))) (ρ'.set i (.sh (.opq (.ref a)))) σ'' ρ'' →
      Holds X.K (Φ.sub T Hk σ ρ fun _ _ _ => False) Hk'' (ρ''.set i .un) [] (σ''.set i none) H'' := fun e h k => Holds.set_un (h.sub_of (h2.ex0.trans e) (h2.kp0.trans ((kp_store es fr).trans k))) off
  refine (hsu (Φ.sub T Hk' σ' ρ' fun _ _ _ => False) a oe cls d fs pn' hz hfl xa).run _ _ Hk' [] _ H' _ (hT hb1 a) h3 ⟨fun σ'' H'' Hk'' ρ'' e h k q' => ?_, fun v σ'' H'' Hk'' ρ'' r e h k q' => ?_, fun σ'' H'' Hk'' ρ'' e h k q' => ?_, fun σ'' H'' Hk'' ρ'' e h k q' => ?_⟩
  · have h4 := fin e h k
    exact o.nx _ H'' Hk'' _ h4.ex0 (hh.out h4) h4.kp0 q'
  · have h4 : Holds X.K (Φ.sub T Hk σ ρ fun _ _ _ => False) Hk'' ρ'' [(some v, r)] σ'' H'' := h.sub_of (h2.ex0.trans e) (h2.kp0.trans ((kp_store es fr).trans k))
    exact o.rt v _ H'' Hk'' ρ'' r h4.ex0 (hh.out h4) h4.kp0 q'
  · have h4 := fin e h k
    exact o.bk _ H'' Hk'' _ h4.ex0 (hh.out h4) h4.kp0 q'
  · have h4 := fin e h k
    exact o.ct _ H'' Hk'' _ h4.ex0 (hh.out h4) h4.kp0 q'⟩
end
/-! ### a caught exception's field -/
def vXf (Xf : Value → Str → Prop) (i : Nat) (a : Addr) (cls : Value) (fs : List (Str × D)) (f : Str) : VE := fun ρ Q => ρ[i]? = some (.sh (.opq (.ref a))) ∧ Xf cls f ∧ ∃ d, fs.lookup f = some d ∧ Q (.sh d) ρ
def XfOk (K : PySem.W.Frag) (cls : Value) (f : Str) : Prop := ∃ C, cls = .ref C ∧ XfC K C ∧ PySem.W.findIn K (.ref C) f = some none
theorem RepX.look {K : PySem.W.Frag} {H : Hp} {f : Str} {d : D} : ∀ {vs : List (Str × V)} {fs : List (Str × D)}, RepX K H vs fs → fs.lookup f = some d → ∃ v, vs.lookup f = some v ∧ Rep K H v d
  | _, _, .nil, e => by cases e
  | _, _, .cons (k := k) (v := v) (d := d') r t, e => by
    rw [List.lookup_cons] at e ⊢
    cases h : (f == k) with
    | true => rw [h] at e; cases e; exact ⟨v, rfl, r⟩
    | false => rw [h] at e; exact RepX.look t e
theorem pwe_xf {X : Cx} {Φ : Fr} {a : Addr} {oe : Obj} {cls : Value} {d : Option Addr} {fs : List (Str × D)} {pn : List (Addr × Obj)} {x f : Str} {p pos : Pos} (i : Nat) (hz : Zc cls d oe) (hf : ∃ vs, oe.data = .fields vs) (xa : ExAt X.K Φ.Hk0 d fs)
    (hp : PE (X.suite a ((a, oe) :: pn)) (.Name x p) (tVar i)) (hb : attributeBase (.Name x p) f X.env (eval (.Name x p) X.env) = eval (.Name x p) X.env := by rfl) :
    PWE (X.suite a ((a, oe) :: pn)) Φ (.Attribute (.Name x p) f pos) (vXf (XfOk X.K) i a cls fs f) := ⟨fun ρ Q Hk T σ H P ⟨er, ⟨C, ec, T1, hno⟩, dv, el, q⟩ hh po => by
  obtain ⟨v, ev, r⟩ := hh.get_sh er
  have evr : v = .ref a := by cases r; rfl
  subst evr
  rcases xa.mono hh.ex0 with z | ⟨dd, vs, ed, hd, rx⟩
  · subst z; cases el
  · obtain ⟨y, ly, ry⟩ := rx.look el
    exact tSem_of (pe_xf T1 hno hz hf hp hb) ⟨.ref a, ev, rfl, ec, dd, vs, y, ed, hh.ex _ _ hd, ly, po y H Hk ρ _ (.refl _) (hh.sh ry) (.refl _ _) q⟩⟩
/-- __init__ with one field -/
theorem init1 {K : PySem.W.Frag} {f : Str} {vs : List V} {H : Hp} {Q : VK} {E : XK} {D : Ends} (h : spI K [f] vs H Q E) (hD : ∀ σ H, Q .non H → D.nx σ H) : ∃ a y, vs = [.ref a, y] ∧ tOst K f (tVar 0) (tVar 1) D [some (.ref a), some y] H := by
  obtain ⟨a, C, ys, rfl, hl, ox, hf, hH, q⟩ := h
  match ys, hl with
  | [y], _ => exact ⟨a, y, rfl, y, rfl, .ref a, rfl, a, C, rfl, ox, hf f (by simp), .inl ⟨hH, fun dx h1 h2 => hD _ _ (q dx h1 h2)⟩⟩
/-! ### try .. except C -/
def kTryO (M : Value → Value → Option Bool) (EX : XP) (c : Value) (u : VS) (R : Out) : XP := fun cls fs ρ' => ∃ b, M cls c = some b ∧ (b = true → u R ρ') ∧ (b = false → EX cls fs ρ')
def vTryO (M : Value → Value → Option Bool) (EX : XP) (c : Value) (t : XP → VS) (u : VS) : VS := fun R ρ => t (kTryO M EX c u R) R ρ
section
variable {X : Cx} {Φ : Fr} {x : Str} {c : Value} {body suite : List Stmt} {b₀ : Stmt} {np pos pos' : Pos} {t : XP → VS} {u : VS}
theorem pws_tryO (hs : X.stack = X.env :: X.outer) (hf : X.env.frame = some X.env.locals) (hc : Names X x c) (tk : Tk X Φ)
    (hb : ∀ (Φ' : Fr) (pn : List (Addr × Obj)) (xe : Value → Shared → Prop), Tk (X.tr pn xe) Φ' → PassesOwn (model X.prog X.w) X.A X.env xe → PWSs (X.tr pn xe) Φ' body (t Φ'.EX))
    (hsu : ∀ (Φ' : Fr) (a : Addr) (oe : Obj) (cls : Value) (d : Option Addr) (pn : List (Addr × Obj)), Zc cls d oe → (∃ vs, oe.data = .fields vs) → PWSs (X.suite a ((a, oe) :: pn)) Φ' (b₀ :: suite) u) :
    PWS X Φ (.Try body [.ExceptHandler (some (.Name x np)) none (b₀ :: suite) pos'] [] [] pos) (vTryO (PySem.W.exmOne X.K) Φ.EX c t u) := ⟨fun ρ R Hk T σ H D q hh o => by
  refine tSemS_of (ps_try_only (tb := fun W => fun D σ H => ∀ pn xe, Takes (X.tr pn xe) W → PassesOwn (model X.prog X.w) X.A X.env xe → tSemSs (X.tr pn xe) body D σ H)
    (ts := fun a cls d => fun D σ H => ∀ oe pn, Zc cls d oe → (∃ vs, oe.data = .fields vs) → tSemSs (X.suite a ((a, oe) :: pn)) (b₀ :: suite) D σ H) (Wout := WΦ X.K Φ) hs hf hc tk
    (fun W pn xe tkW po => ⟨fun pins s σ H D I h => (h pn xe tkW po) pins s I⟩) (fun a oe cls d pn hz hfl => ⟨fun pins s σ H D I h => (h oe pn hz hfl) pins s I⟩)) ?_
  intro pn xe tkW po
  refine (hb (Φ.sub T Hk σ ρ (kTryO (PySem.W.exmOne X.K) Φ.EX c u R)) pn xe (tkW.imp ?_) po).run ρ R Hk [] σ H D q hh.into (o.into hh)
  rintro cls d σ' H' ⟨Hk', ρ', fs, h2, xa, b, hm, hT, hF⟩
  refine ⟨b, hm, fun hb1 a ha oe pn' hz hfl => ?_, fun hb1 => ⟨Hk', ρ', fs, Holds.drop (ts := T) (T := []) (by rw [List.append_nil]; exact hh.out h2), xa, hF hb1⟩⟩
  have h3 : Holds X.K (Φ.sub T Hk σ ρ fun _ _ _ => False) Hk' ρ' [] σ' H' := h2.sub_of h2.ex0 h2.kp0
  exact (hsu (Φ.sub T Hk σ ρ fun _ _ _ => False) a oe cls d pn' hz hfl).run _ _ Hk' [] _ H' _ (hT hb1) h3
    ((OutOk.into (EX := fun _ _ _ => False) hh o).step h2.ex0 h2.kp0)⟩
end
end WL

set_option Elab.async false
set_option linter.all false
set_option maxRecDepth 100000
set_option maxHeartbeats 4000000
/-! WY: lambdas handed to defs of the text. -/
namespace WL
open PySem PySem.Spec PyProof.Rows L2
variable [TBs]

/-! ### the tables grow -/
/-- not a table, not a code object in a heap where it is true -/
def Solid (q : Addr) (u : HO) : Prop := (∀ ps, u ≠ .tbl ps) ∧ ∀ (n : Str) (h : Heap), (∀ φ, u = .ext φ → φ h) → u ≠ LamX.CodeO q n
section
variable {K : PySem.W.Frag} {Hk Hk' H H1 : Hp} {L : List Cell}
theorem solid_lst {q : Addr} {vs : List V} : Solid q (.lst vs) := ⟨(fun _ z => by cases z), (fun _ _ _ z => by cases z)⟩
theorem solid_dK {q : Addr} {vs : List (Key × V)} : Solid q (.dK vs) := ⟨(fun _ z => by cases z), (fun _ _ _ z => by cases z)⟩
theorem solid_dT {q : Addr} {vs : List (List Key × V)} : Solid q (.dT vs) := ⟨(fun _ z => by cases z), (fun _ _ _ z => by cases z)⟩
theorem solid_KS {q : Addr} {qs : List Addr} {ds : List D} : Solid q (KS q qs ds) := ⟨(fun _ z => by cases z), fun n h hp z => by
  obtain ⟨ep, e1⟩ := hp (KSat q qs ds) rfl
  obtain ⟨oc, vs, t, e2, e3, _⟩ := hp _ z
  rw [e1] at e2
  cases e2
  cases e3⟩
theorem OwnAt.solid {o : Own} {p : Addr} {fp : List Addr} (h : OwnAt K Hk H o p fp) : ∀ q ∈ fp, ∃ u, H q = some u ∧ Solid q u := fun q hq => by
  cases h with
  | lst h r => rw [List.mem_singleton.mp hq]; exact ⟨_, h, solid_lst⟩
  | dct h r => rw [List.mem_singleton.mp hq]; exact ⟨_, h, solid_dK⟩
  | dcT h r => rw [List.mem_singleton.mp hq]; exact ⟨_, h, solid_dT⟩
theorem Rows.solid : ∀ {qs : List Addr} {rows : List (List D)}, Rows K Hk H qs rows → ∀ q ∈ qs, ∃ u, H q = some u ∧ Solid q u
  | _, _, .nil => by simp
  | _, _, .cons h _ t => fun q hq => (List.mem_cons.mp hq).elim (fun e => e ▸ ⟨_, h, solid_lst⟩) (Rows.solid t q)
theorem CellOk.solid {x : Option V} {sl : Slot} {fp : List Addr} (h : CellOk K Hk H x sl fp) : ∀ q ∈ fp, ∃ u, H q = some u ∧ Solid q u := by
  cases h with
  | rw h hk r => exact fun q hq => (List.mem_cons.mp hq).elim (fun e => e ▸ ⟨_, h, by
      rename_i k _ _ _
      cases k
      · exact solid_lst
      · exact solid_dK⟩) (r.solid q)
  | ks h => exact fun q hq => by rw [List.mem_singleton.mp hq]; exact ⟨_, h, solid_KS⟩
  | un => simp
  | sh r => simp
  | ow r => exact r.solid
theorem Cells.solid : ∀ {L : List Cell} {F : List Addr}, Cells K Hk H L F → ∀ q ∈ F, ∃ u, H q = some u ∧ Solid q u
  | _, _, .nil => by simp
  | _, _, .cons h t => fun q hq => (List.mem_append.mp hq).elim (h.solid q) (Cells.solid t q)
theorem HL.tabs (h : HL K Hk H L) : LamX.Tabs TBs.tb H := fun p hp => by
  obtain ⟨ps, h1, h2, h3⟩ := h.tb.tb p hp
  refine ⟨ps, h1, h2, fun pos cv hc => ?_⟩
  obtain ⟨c, e1, e2⟩ := h3 pos cv hc
  exact ⟨c, e1, h.ex _ _ e2⟩
open Classical in
/-- the code objects of H1 are known from now on -/
noncomputable def withCodes (Hk H1 : Hp) : Hp := fun b => if ∃ q, H1 b = some (LamX.CodeO b q) then H1 b else Hk b
theorem HL.lam {P : Program} {w : World} {hp : Heap} (h : HL K Hk H L) (e : LamX.ExtN H H1) (t : LamX.Tabs TBs.tb H1) (ok : HOk P w H1 hp) : Same Hk (withCodes Hk H1) ∧ HL K (withCodes Hk H1) H1 L ∧ ∀ c q, H1 c = some (LamX.CodeO c q) → withCodes Hk H1 c = some (LamX.CodeO c q) := by
  have up : ∀ b o, Hk b = some o → H1 b = some o := fun b o q => e b o (h.ex b o q) fun ps z => h.tb.nt b ps (by rw [q, z])
  have s1 : Same Hk (withCodes Hk H1) := fun b o q => by
    unfold withCodes
    by_cases c : ∃ q, H1 b = some (LamX.CodeO b q)
    · rw [if_pos c]; exact up b o q
    · rw [if_neg c]; exact q
  have cd : ∀ c q, H1 c = some (LamX.CodeO c q) → withCodes Hk H1 c = some (LamX.CodeO c q) := fun c q z => by
    unfold withCodes
    rw [if_pos ⟨q, z⟩]; exact z
  obtain ⟨F, hc, hn, hk⟩ := h.cells
  refine ⟨s1, ⟨fun b o q => ?_, ⟨fun b ps z => ?_, fun p hp => ?_⟩, F, hc.mono s1 fun q hq => ?_, hn, fun q hq => ?_⟩, cd⟩
  · unfold withCodes at q
    by_cases c : ∃ q, H1 b = some (LamX.CodeO b q)
    · rw [if_pos c] at q; exact q
    · rw [if_neg c] at q; exact up b o q
  · unfold withCodes at z
    by_cases c : ∃ q, H1 b = some (LamX.CodeO b q)
    · rw [if_pos c] at z
      obtain ⟨q, hq⟩ := c
      rw [hq] at z; cases z
    · rw [if_neg c] at z; exact h.tb.nt b ps z
  · obtain ⟨ps, h1, h2, h3⟩ := t p hp
    refine ⟨ps, h1, h2, fun pos cv hcv => ?_⟩
    obtain ⟨c, e1, e2⟩ := h3 pos cv hcv
    exact ⟨c, e1, cd _ _ e2⟩
  · obtain ⟨u, hu, su⟩ := hc.solid q hq
    rw [hu]; exact e q u hu su.1
  · obtain ⟨u, hu, su⟩ := hc.solid q hq
    unfold withCodes
    have eu := e q u hu su.1
    rw [if_neg (fun ⟨c, hc⟩ => su.2 c hp (fun φ z => by
      have := ok q u eu
      rw [z] at this
      exact this.1) (Option.some.inj (eu.symm.trans hc)))]
    exact hk q hq
end

/-! ### a lambda's context -/
structure LamP (sc scope : Scope) (caps ps : List Str) : Prop where
  kind : scope.kind = .function
  co : scope.isCoroutine = false
  gen : scope.isGenerator = false
  own : ∀ y ∈ scope.names, y.2 ≠ .cell
  loc : ∀ y ∈ ps, scope.names.lookup y = some .local
  cap : ∀ y ∈ caps, scope.names.lookup y = some .free
  free : ∀ y ∈ scope.names, y.2 = .free → sc.names.lookup y.1 = some .cell ∨ sc.names.lookup y.1 = some .free
  nd : (caps ++ ps).Nodup
def lamW (X : Cx) (N : List Str) (A : Around) (outer : List Env) (s : Shared) (H : Hp) (E : XK) (scope : Scope) (f c' : Addr) : Cx := { LamX.lamCx X A outer s H E scope f c' with N := N }
structure CapAt (X : Cx) (σ : L2.St) (caps : List Str) (cap : List V) : Prop where
  len : cap.length = caps.length
  at_ : ∀ (i : Nat) (y : Str) (v : V), caps[i]? = some y → cap[i]? = some v → ∃ j : Nat, X.N[j]? = some y ∧ σ[j]? = some (some v)
theorem zip_look {ps : List Str} {us : List Value} {i : Nat} {y : Str} {u : Value} (nd : ps.Nodup) (h1 : ps[i]? = some y) (h2 : us[i]? = some u) : (ps.zip us).reverse.lookup y = some u := by
  have a := bindL_get (kindOf := fun _ => some NameKind.local) (m := fun _ => none) nd h1 h2 rfl
  rw [bindL_loc _ _ (fun _ _ => rfl)] at a
  cases h : (ps.zip us).reverse.lookup y with
  | none => rw [h] at a; cases a
  | some w => rw [h] at a; exact a
section
variable {X : Cx} {pins : List (Addr × Obj)} {σ : L2.St} {H HZ : Hp} {s s1 : Shared} {caps ps : List Str} {cap vs : List V} {us : List Value}
theorem lam_inv {A : Around} {outer : List Env} {E : XK} {scope : Scope} {f c' : Addr} {h₁ : Heap} {tk : Nat} (I : Inv X pins σ H s) (L : LamP X.env.scope scope caps ps) (e0 : Env0 X.prog X.w X.K X.mg X.base A outer s1 HZ) (hd : A.handled = none)
    (un : Un (frs X.stack) [] H HZ s.heap s1.heap) (hns : h₁.Ns s1.heap.objs.size fun y => (ps.zip us).reverse.lookup y) (kp : ∀ b o, s1.heap.get? b = some o → h₁.get? b = some o) (C : CapAt X σ caps cap) (r : Vals vs us) (hl : vs.length = ps.length) :
    Inv (lamW X (caps ++ ps) A outer s1 HZ E scope f c') [] ((cap ++ vs).map some) HZ { s1 with heap := h₁, toks := tk } := by
  have hfree : ∀ y ∈ scope.names, y.2 = .free → ∃ c, X.env.cells.lookup y.1 = some c := fun y hy e => (L.free y hy e).elim (fun k => I.ok.has _ (.inl k)) fun k => I.ok.has _ (.inr k)
  have back : ∀ {y c}, (cloFrom X.env.cells scope.names []).lookup y = some c → X.env.cells.lookup y = some c := fun {y c} e => by
    rcases cloFrom_mem (PySem.mem_of_lookup e) with hm | ⟨h1, h2⟩
    · exact absurd hm (by simp)
    · obtain ⟨c1, hc⟩ := hfree _ h1 rfl
      have hc : X.env.cells.lookup y = some c1 := hc
      have e2 : c = c1 := by rw [h2, hc]; rfl
      rw [e2]; exact hc
  have has : ∀ {y}, scope.names.lookup y = some .free → ∃ c, (cloFrom X.env.cells scope.names []).lookup y = some c := fun {y} q =>
    mem_lookup (cloFrom_has (cells := X.env.cells) (acc := []) (PySem.mem_of_lookup q : (y, NameKind.free) ∈ scope.names))
  have stays : ∀ {c : Addr} {v : Option Value}, H c = none → s.heap.IsCell c v → h₁.IsCell c v := fun {c v} n ⟨o, ho, hd⟩ => by
    obtain ⟨sl, q⟩ := un.any ho n (by simp)
    exact ⟨_, kp _ _ q, hd⟩
  have nex : ∀ b : Addr, b ∉ (lamW X (caps ++ ps) A outer s1 HZ E scope f c').ex := fun b z => absurd (show b ∈ ([] : List Addr) from z) (by simp)
  refine ⟨⟨e0.mod, L.kind, rfl, rfl, Nat.le_refl _, fun y z c e1 e2 => I.ok.inj y z c (back e1) (back e2), fun y hy => ?_, fun y c z _ => ?_, fun _ => hd, Around.frames_deeper e0.frames, .inr ⟨rfl, rfl⟩, fun b z => absurd z (nex b), e0.bs, e0.bsz, fun b _ _ => nex b,
      fun b z => absurd z (nex b), e0.funs, e0.frf⟩,
    rfl, e0.bare, Un.kept kp, ⟨_, hns, fun i y v e1 e2 e3 => ?_⟩, fun y c e => ?_, e0.hok.fresh (Nat.le_refl _), fun y c e => ?_, fun q hq => absurd (show q ∈ ([] : List (Addr × Obj)) ++ [] from hq) (by simp), e0.hok.kept kp, ?_⟩
  · have hy : scope.names.lookup y = some .cell ∨ scope.names.lookup y = some .free := hy
    rcases hy with hy | hy
    · exact absurd rfl (L.own _ (PySem.mem_of_lookup hy))
    · exact has hy
  · exact absurd (show false = true from z) (by decide)
  · have e1 : (caps ++ ps)[i]? = some y := e1
    rw [List.getElem?_map] at e2
    obtain ⟨v', e2', e2''⟩ := Option.map_eq_some_iff.mp e2
    cases e2''
    by_cases hi : i < caps.length
    · rw [List.getElem?_append_left hi] at e1
      rw [List.getElem?_append_left (by rw [C.len]; exact hi)] at e2'
      obtain ⟨j, j1, j2⟩ := C.at_ i y _ e1 e2'
      have kf : scope.names.lookup y = some .free := L.cap y (List.mem_of_getElem? e1)
      have mf : (y, NameKind.free) ∈ scope.names := PySem.mem_of_lookup kf
      obtain ⟨m, hn, hlk⟩ := I.loc
      have hvis : Vis X.env.scope y := (L.free _ mf rfl).elim (fun k => .inr (.inl k)) (fun k => .inr (.inr k))
      obtain ⟨w', rw', q⟩ := hlk j y _ j1 j2 hvis
      obtain ⟨c2, h2⟩ := has kf
      refine ⟨w', rw', .inr ⟨.inr kf, c2, h2, ?_⟩⟩
      have c1 := back h2
      rcases q with ⟨k', _⟩ | ⟨_, c3, e', z⟩
      · have k' : X.env.scope.names.lookup y = some .local := k'
        rcases L.free _ mf rfl with k2 | k2 <;> rw [show X.env.scope.names.lookup y = _ from k2] at k' <;> cases k'
      · rw [c1] at e'
        cases e'
        exact stays (I.freeC y _ c1) z
    · have hi' : caps.length ≤ i := Nat.le_of_not_lt hi
      rw [List.getElem?_append_right hi'] at e1
      rw [List.getElem?_append_right (by rw [C.len]; exact hi'), C.len] at e2'
      obtain ⟨u, hu, ru⟩ := r.get e2'
      exact ⟨u, ru, .inl ⟨L.loc y (List.mem_of_getElem? e1), zip_look (List.nodup_append.mp L.nd).2.1 e1 hu⟩⟩
  · obtain ⟨w', z⟩ := I.cell y c (back e)
    exact ⟨w', stays (I.freeC y c (back e)) z⟩
  · obtain ⟨v, o, ho, hd⟩ := I.cell y c (back e)
    exact un.free c o ho (I.freeC y c (back e)) (by simp)
  · show _ = (caps ++ ps).length
    rw [List.length_map, List.length_append, List.length_append, C.len, hl]
/-- the lambda runs -/
theorem lam_runs {A : Around} {outer : List Env} {k : Nat} {params : Arguments} {body : Expr} {scope : Scope} {f c' : Addr} {pm ctv : Value} {Q : VK} {E : XK} (I : Inv X pins σ H s) (L : LamP X.env.scope scope caps ps)
    (hf : s.heap.get? f = some (PySem.W.kla_obj "<lambda>" (X.env.qual ++ "<lambda>") params body scope (cloFrom X.env.cells scope.names []) pm c' ctv)) (hfn : H f = none) (hfr : f ∉ frs X.stack) (C : CapAt X σ caps cap)
    (hbind : ∀ us : List Value, us.length = ps.length → bindArgs (PySem.W.kla_fn "<lambda>" (X.env.qual ++ "<lambda>") params body scope (cloFrom X.env.cells scope.names []) pm (.ref c') ctv) ⟨us, []⟩ = pure (ps.zip us))
    (hr : Room (k + 1) A) (e0 : Env0 X.prog X.w X.K X.mg X.base A outer s1 HZ) (un : Un (frs X.stack) [] H HZ s.heap s1.heap) (hc : HZ c' = some (LamX.CodeO c' (X.env.qual ++ "<lambda>"))) (r : Vals vs us) (hl : vs.length = ps.length)
    (ht : tSem (lamW X (caps ++ ps) A outer s1 HZ E scope f c') body ((cap ++ vs).map some) HZ Q) :
    codeAny (model X.prog X.w) A (.call (.ref f) ⟨us, []⟩) (CR (L2.CX X.prog X.w) outer X.prog X.w HZ s1 Q E) s1 := by
  have of1 : s1.heap.get? f = some (PySem.W.kla_obj "<lambda>" (X.env.qual ++ "<lambda>") params body scope (cloFrom X.env.cells scope.names []) pm c' ctv) := un.keep f _ hf hfn hfr (by simp)
  obtain ⟨⟨oc, vs', t, hoc, hdc, hvc⟩, _, _⟩ := e0.hok c' _ hc
  have lim : s1.heap.NoLimit := e0.mod.nolimit.keeps fun b o e => (e0.bs b o e).1
  have hul : us.length = ps.length := by rw [← r.length, hl]
  have hloc : ∀ y ∈ ps.zip us, scope.names.lookup y.1 = some .local := fun ⟨n, v⟩ hy => L.loc n (List.of_mem_zip hy).1
  refine PySem.W.kla_callFunE hr.depth of1 rfl L.co L.gen rfl ⟨c', oc, vs', t, rfl, hoc, hdc, hvc⟩ ?_
  rw [hbind us hul]
  refine wpAny_pure (wpAny_newFunctionEnv L.own hloc (fun h₁ hns hsb => ⟨lim.fresh _ hsb, ?_⟩) L.kind)
  show codeAny _ _ (.expr body (LamX.lamEnv X scope s1.heap.objs.size f c')) _ _
  have kp : ∀ b o, s1.heap.get? b = some o → h₁.get? b = some o := fun b o e => hsb.extBut b o (Nat.ne_of_lt (Heap.lt_size e)) (Heap.get?_push_of_some _ e)
  have J : Inv (lamW X (caps ++ ps) A outer s1 HZ E scope f c') [] ((cap ++ vs).map some) HZ { s1 with heap := h₁, toks := s1.toks + (ps.zip us).length } := lam_inv I L e0 hr.hd un hns kp C r hl
  refine PySem.W.kla_codeExpr (wpAny_mono (ht _ _ J) (fun v s' hq => ?_) fun e s' hq => hq)
  obtain ⟨w', H', J', rv, q⟩ := hq
  exact ⟨w', H', J'.os, J'.bare, J'.base, J'.hok, rv, q⟩
end
end WL

set_option Elab.async false
set_option linter.all false
set_option maxRecDepth 100000
set_option maxHeartbeats 4000000
/-! WZ: a call of a parameter that holds a lambda; a call that hands a lambda over. -/
namespace WL
open PySem PySem.Spec PyProof.Rows L2
variable [TBs]

/-- what stands at f keeps this promise (of captured values and arguments), wherever C holds -/
structure LamAt (P : Program) (w : World) (K : PySem.W.Frag) (mg : Str → Option Value) (base : Heap) (C : Hp → Heap → Prop) (k : Nat) (f : Addr) (cap : List V) (SS : VSp) : Prop where
  here : ∀ H h, C H h → PySem.W.FnAt f h
  run : ∀ (A : Around) (outer : List Env) (s1 : Shared) (HZ : Hp) (us : List Value) (vs : List V) (Q : VK) (E : XK), Room k A → Env0 P w K mg base A outer s1 HZ → C HZ s1.heap → Vals vs us → spV K SS (cap ++ vs) HZ Q E → codeAny (model P w) A (.call (.ref f) ⟨us, []⟩) (CR (L2.CX P w) outer P w HZ s1 Q E) s1
/-- the lambda of the maker X at s -/
def lamC (X : Cx) (H : Hp) (s : Shared) (c' : Addr) : Hp → Heap → Prop := fun HZ h => Un (frs X.stack) [] H HZ s.heap h ∧ HZ c' = some (LamX.CodeO c' (X.env.qual ++ "<lambda>"))
section
variable {X : Cx} {pins : List (Addr × Obj)} {σ : L2.St} {H : Hp} {s : Shared} {caps ps : List Str} {cap : List V}
theorem lam_at {k : Nat} {params : Arguments} {body : Expr} {scope : Scope} {f c' : Addr} {pm ctv : Value} {SS : VSp} {t : XP → VE} (I : Inv X pins σ H s) (L : LamP X.env.scope scope caps ps)
    (hf : s.heap.get? f = some (PySem.W.kla_obj "<lambda>" (X.env.qual ++ "<lambda>") params body scope (cloFrom X.env.cells scope.names []) pm c' ctv)) (hfn : H f = none) (hfr : f ∉ frs X.stack) (C : CapAt X σ caps cap)
    (hbind : ∀ us : List Value, us.length = ps.length → bindArgs (PySem.W.kla_fn "<lambda>" (X.env.qual ++ "<lambda>") params body scope (cloFrom X.env.cells scope.names []) pm (.ref c') ctv) ⟨us, []⟩ = pure (ps.zip us))
    (len : ∀ ρs R RX, SS ρs R RX → ρs.length = (caps ++ ps).length)
    (syn : ∀ (A : Around) (outer : List Env) (s1 : Shared) (HZ : Hp) (E : XK) (Φ : Fr), Room k (A.deeper (LamX.lamEnv X scope s1.heap.objs.size f c')) → Tk (lamW X (caps ++ ps) A outer s1 HZ E scope f c') Φ → PWE (lamW X (caps ++ ps) A outer s1 HZ E scope f c') Φ body (t Φ.EX))
    (rd : ∀ ρs R RX, SS ρs R RX → t (fun cls fs ρ' => RX cls fs (fin ρs ρ')) (ρs ++ uns 0) (fun r ρ' => R r (fin ρs ρ'))) :
    LamAt X.prog X.w X.K X.mg X.base (lamC X H s c') (k + 1) f cap SS := by
  refine ⟨fun HZ h c => ?_, fun A outer s1 HZ us vs Q E hr e0 c r h => ?_⟩
  · have := c.1.keep f _ hf hfn hfr (by simp)
    exact ⟨_, _, _, _, this⟩
  · obtain ⟨Hk, ρs, T, R, RX, hl, hk, hh, hs, fin', finX⟩ := h
    have hv : vs.length = ps.length := by
      have := len _ _ _ hs
      rw [hl, List.length_append, List.length_append, C.len] at this
      omega
    refine lam_runs I L hf hfn hfr C hbind hr e0 c.1 c.2 r hv ?_
    obtain ⟨h0, ends, wx⟩ := start_w (Q := Q) (E := E) 0 hl hk hh fin' finX
    have tk : Tk (lamW X (caps ++ ps) A outer s1 HZ E scope f c') (frW Hk T (cap ++ vs) ρs RX 0) := (takes_of rfl rfl rfl rfl : Takes (lamW X (caps ++ ps) A outer s1 HZ E scope f c') (fun cls d _ H' => E cls d H')).imp fun cls d σ' H' h => wx cls d σ' H' h
    have e0' : (cap ++ vs).map some ++ List.replicate 0 (none : Option V) = (cap ++ vs).map some := by simp
    have h0' := h0
    rw [e0'] at h0'
    refine (syn A outer s1 HZ E _ (hr.deeper _) tk).run _ _ Hk [] _ HZ _ (rd ρs R RX hs) h0' fun v H' Hk' ρ' r e h1 k1 q1 => ?_
    exact ends v ((cap ++ vs).map some) H' Hk' ρ' r e h1 (by rw [e0']; exact k1) q1
end

/-- f(..) of the parameter i, which holds what stands at f; dcap: what it captured -/
def vCallF (EX : XP) (i : Nat) (f : Addr) (dcap : List D) (SS : VSp) (ta : VA) : VE := fun ρ Q => ρ[i]? = some (.sh (.opq (.ref f))) ∧ ta ρ fun as ρ1 => ∃ ρs, lendS ρ1 as = some ρs ∧
  SS (dcap.map Slot.sh ++ ρs) (fun r ss => Q r (takeBack ρ1 as (ss.drop dcap.length))) fun cls fs ss => EX cls fs (takeBack ρ1 as (ss.drop dcap.length))
theorem Reps.cells {K : PySem.W.Frag} {Hk H : Hp} {L : List Cell} : ∀ {vs : List V} {ds : List D}, Reps K Hk vs ds → HL K Hk H L → HL K Hk H ((vs.map some).zip (ds.map Slot.sh) ++ L)
  | _, _, .nil, h => h
  | _, _, .cons r t, h => (Reps.cells t h).sh r
theorem KpA.shs : ∀ (ds : List D) {ρs ρs' : List Slot}, KpA ρs ρs' → KpA (ds.map Slot.sh ++ ρs) (ds.map Slot.sh ++ ρs')
  | [], _, _, k => k
  | _ :: ds, _, _, k => .sh (KpA.shs ds k)
theorem KpA.unshs : ∀ (ds : List D) {ρs ss : List Slot}, KpA (ds.map Slot.sh ++ ρs) ss → ∃ ρs', ss = ds.map Slot.sh ++ ρs' ∧ KpA ρs ρs'
  | [], _, _, k => ⟨_, rfl, k⟩
  | _ :: ds, _, _, k => by
    cases k with
    | sh k =>
      obtain ⟨r, e, k'⟩ := KpA.unshs ds k
      exact ⟨r, by rw [e]; rfl, k'⟩
section
variable {Z : Cx} {Φ : Fr} {C : Hp → Heap → Prop} {k i : Nat} {f : Addr} {cap : List V} {dcap : List D} {SS : VSp} {a : Str} {p1 p2 : Pos} {e : Expr} {es : List Expr} {tas : VA}
theorem callF_core {pins : List (Addr × Obj)} {σ : L2.St} {ρ1 : Rho} {Q : VK0} {P : VK} {Hk Hk1 H1 : Hp} {T ts : List Cell} {s1 : Shared} {vs : List V} {us : List Value} {as : List Arg} (F : LamAt Z.prog Z.w Z.K Z.mg Z.base C k f cap SS) (hr : Room k Z.A) (tk : Tk Z Φ)
    (hZ : ∀ pins σ H s, Inv Z pins σ H s → Same Φ.Hk0 H → C H s.heap) (hcap : Reps Z.K Φ.Hk0 cap dcap) {ρ : Rho} (p : Post Z.K Φ Hk T σ ρ Q P) (e1 : Same Hk Hk1) (has : ArgsAt σ as vs ts) (h1 : Holds Z.K Φ Hk1 ρ1 (ts ++ T) σ H1) (k1 : Kp σ ρ σ ρ1)
    (q : ∃ ρs, lendS ρ1 as = some ρs ∧ SS (dcap.map Slot.sh ++ ρs) (fun r ss => Q r (takeBack ρ1 as (ss.drop dcap.length))) fun cls fs ss => Φ.EX cls fs (takeBack ρ1 as (ss.drop dcap.length)))
    (I1 : Inv Z pins σ H1 s1) (r : Vals vs us) : wpAny (model Z.prog Z.w) Z.A (call (.ref f) us) (EP Z pins σ P) Z.xe s1 := by
  obtain ⟨ρs, hl, q1⟩ := q
  obtain ⟨g1, g2, g3⟩ := argsAt_ok (T := T ++ Φ.T0) (C := []) has h1.len (by have := h1.hl; rw [List.append_assoc] at this; simpa using this) hl
  have hcap1 : Reps Z.K Hk1 cap dcap := hcap.mono h1.ex0
  have lc : cap.length = dcap.length := hcap.length
  have kb : ∀ {ρs'}, KpA ρs ρs' → Kp σ ρ1 σ (takeBack ρ1 as ρs') := fun k2 j o x ej ex => ⟨ex, takeBack_kp as ρ1 ρs _ ej hl k2⟩
  have zipE : ∀ (l : List Slot), ((cap ++ vs).map some).zip (dcap.map Slot.sh ++ l) = (cap.map some).zip (dcap.map Slot.sh) ++ (vs.map some).zip l := fun l => by
    rw [List.map_append, List.zip_append (by simp [lc])]
  have sp : spV Z.K SS (cap ++ vs) H1 P (WE (WΦ Z.K Φ) σ) := by
    refine ⟨Hk1, dcap.map Slot.sh ++ ρs, σ.zip (lendR ρ1 as) ++ (T ++ Φ.T0), _, _, by simp [g2, lc], KpA.shs dcap g3, ?_, q1, fun v H' Hk' ss r e2 k2 h2 q2 => ?_, fun cls d fs H' Hk' ss e2 k2 h2 xa q2 => ?_⟩
    · rw [zipE, List.append_assoc]
      exact hcap1.cells (by simpa using g1)
    · obtain ⟨ρs', es, k3⟩ := KpA.unshs dcap k2
      rw [es] at h2 q2
      rw [List.drop_left' (by simp)] at q2
      rw [zipE] at h2
      have h3 : HL Z.K Hk' H' ([(some v, r)] ++ ((vs.map some).zip ρs' ++ (σ.zip (lendR ρ1 as) ++ (T ++ Φ.T0)))) := by
        have h4 : HL Z.K Hk' H' ((cap.map some).zip (dcap.map Slot.sh) ++ ((some v, r) :: ((vs.map some).zip ρs' ++ (σ.zip (lendR ρ1 as) ++ (T ++ Φ.T0))))) := HL.unmid (by simpa [List.append_assoc] using h2)
        exact h4.drop
      refine p v H' Hk' (takeBack ρ1 as ρs') r (e1.trans e2) ?_ (k1.trans (kb k3)) q2
      have b := argsAt_back (C := [(some v, r)]) has h1.len hl k3 h3
      exact ⟨by rw [takeBack_len]; exact h1.len, HL.unmid (C := σ.zip (takeBack ρ1 as ρs')) (by simpa using b), h1.ex0.trans e2, h1.kp0.trans (kb k3)⟩
    · obtain ⟨ρs', es, k3⟩ := KpA.unshs dcap k2
      rw [es] at h2 q2
      rw [List.drop_left' (by simp)] at q2
      rw [zipE, List.append_assoc] at h2
      have b := argsAt_back (C := []) has h1.len hl k3 (by simpa using h2.drop)
      have hX : Holds Z.K Φ Hk' (takeBack ρ1 as ρs') T σ H' := ⟨by rw [takeBack_len]; exact h1.len, by simpa using b, h1.ex0.trans e2, h1.kp0.trans (kb k3)⟩
      exact ⟨Hk', _, fs, (Holds.drop (ts := T) (T := []) (by rw [List.append_nil]; exact hX)), xa, q2⟩
  refine wpAny_call (codeAny_mono (F.run Z.A Z.stack s1 H1 us vs P (WE (WΦ Z.K Φ) σ) hr I1.env0 (hZ _ _ _ _ I1 (h1.ex0.trans h1.ex)) r sp) fun rr s' hq => ?_)
  cases rr with
  | error e => exact passAt tk σ pins H1 s1 e s' I1 hq
  | ok fl =>
    cases fl with
    | ret u => exact I1.after hq
    | next => exact False.elim hq
    | brk => exact False.elim hq
    | cont => exact False.elim hq
theorem pwe_callF1 (F : LamAt Z.prog Z.w Z.K Z.mg Z.base C k f cap SS) (hr : Room k Z.A) (tk : Tk Z Φ) (hZ : ∀ pins σ H s, Inv Z pins σ H s → Same Φ.Hk0 H → C H s.heap) (hcap : Reps Z.K Φ.Hk0 cap dcap) (hN : Z.N[i]? = some a) (hv : Vis Z.env.scope a) (ha : PWA Z Φ (e :: es) tas)
    (hdb : (a == ("__debug__" : Str)) = false := by decide) (hcd : (a == ("__classdict__" : Str)) = false := by decide)
    (h1 : starEach (e :: es) Z.env = (false, eval e Z.env) :: starEach es Z.env := by rfl) (h2 : (backTo p2 (starEach es Z.env)).any (·.1) = false := by rfl) : PWE Z Φ (.Call (.Name a p1) (e :: es) [] p2) (vCallF Φ.EX i f dcap SS tas) := ⟨fun ρ Q Hk T σ H P q hh p => by
  obtain ⟨q0, q1⟩ := q
  obtain ⟨v, ev, rv⟩ := hh.get_sh q0
  cases rv
  intro pins s I
  refine wpAny_Call_Name_kw (raw_name hN hv I ev (fun u ru => ?_) hdb hcd)
  cases ru
  refine PySem.W.callWith_F (F.here _ _ (hZ _ _ _ _ I (hh.ex0.trans hh.ex))) (thn (ha.run ρ _ Hk T σ H _ q1 hh (fun vs H1 Hk1 ρ1 as ts e1 has h1 k1 q2 => (⟨Hk1, ρ1, as, ts, e1, has, h1, k1, q2⟩ : ∃ Hk1 ρ1 as ts, Same Hk Hk1 ∧ ArgsAt σ as vs ts ∧ Holds Z.K Φ Hk1 ρ1 (ts ++ T) σ H1 ∧ Kp σ ρ σ ρ1 ∧ ∃ ρs, lendS ρ1 as = some ρs ∧ SS (dcap.map Slot.sh ++ ρs) (fun r ss => Q r (takeBack ρ1 as (ss.drop dcap.length))) fun cls fs ss => Φ.EX cls fs (takeBack ρ1 as (ss.drop dcap.length)))) p2 pins s I) fun us s1 ⟨vs, H1, I1, r, q2⟩ => ?_) h1 h2
  obtain ⟨Hk1, ρ1, as, ts, e1, has, g1, k1, q3⟩ := q2
  exact ⟨F.here _ _ (hZ _ _ _ _ I1 (g1.ex0.trans g1.ex)), callF_core F hr tk hZ hcap p e1 has g1 k1 q3 I1 r⟩⟩
theorem pwe_callF0 (F : LamAt Z.prog Z.w Z.K Z.mg Z.base C k f cap SS) (hr : Room k Z.A) (tk : Tk Z Φ) (hZ : ∀ pins σ H s, Inv Z pins σ H s → Same Φ.Hk0 H → C H s.heap) (hcap : Reps Z.K Φ.Hk0 cap dcap) (hN : Z.N[i]? = some a) (hv : Vis Z.env.scope a)
    (hdb : (a == ("__debug__" : Str)) = false := by decide) (hcd : (a == ("__classdict__" : Str)) = false := by decide) : PWE Z Φ (.Call (.Name a p1) [] [] p2) (vCallF Φ.EX i f dcap SS vNil) := ⟨fun ρ Q Hk T σ H P q hh p => by
  obtain ⟨q0, q1⟩ := q
  obtain ⟨v, ev, rv⟩ := hh.get_sh q0
  cases rv
  intro pins s I
  refine wpAny_Call_Name_kw (raw_name hN hv I ev (fun u ru => ?_) hdb hcd)
  cases ru
  exact PySem.W.callWith_F0 (F.here _ _ (hZ _ _ _ _ I (hh.ex0.trans hh.ex))) (callF_core (as := []) (ts := []) (vs := []) (us := []) F hr tk hZ hcap p (.refl _) .nil hh (.refl _ _) q1 I .nil)⟩
end
end WL

set_option Elab.async false
set_option linter.all false
set_option maxRecDepth 100000
set_option maxHeartbeats 4000000
/-! WL1: a def of the text called with a lambda. -/
namespace WL
open PySem PySem.Spec PyProof.Rows L2
variable [TBs]

def capD (ρ : Rho) : List Nat → Option (List D)
  | [] => some []
  | j :: r => match ρ[j]? with
    | some (.sh d) => (capD ρ r).map (d :: ·)
    | _ => none
def lamArgs (ρ : Rho) (f : Addr) : List (Option Nat) → Option (List Slot)
  | [] => some []
  | some i :: r => match ρ[i]? with
    | some (.sh d) => (lamArgs ρ f r).map (Slot.sh d :: ·)
    | _ => none
  | none :: r => (lamArgs ρ f r).map (Slot.sh (.opq (.ref f)) :: ·)
/-- g(.., lambda .., ..): js: what the lambda captures; as: the arguments, none where the lambda stands; SG: g's promise when it gets this lambda -/
def vLamC (js : List Nat) (as : List (Option Nat)) (SG : Addr → List D → VSp) : VE := fun ρ Q => ∃ dcap, capD ρ js = some dcap ∧ ∀ f, ∃ ρs, lamArgs ρ f as = some ρs ∧ SG f dcap ρs (fun r _ => Q r ρ) (fun _ _ _ => False)

section
variable {K : PySem.W.Frag} {Φ : Fr} {Hk H : Hp} {ρ : Rho} {T : List Cell} {σ : L2.St}
theorem capD_ok (h : Holds K Φ Hk ρ T σ H) : ∀ {js : List Nat} {ds : List D}, capD ρ js = some ds → ∃ cap, Reps K Hk cap ds ∧ cap.length = js.length ∧ ∀ (i j : Nat) (v : V), js[i]? = some j → cap[i]? = some v → σ[j]? = some (some v)
  | [], ds, e => by cases e; exact ⟨[], .nil, rfl, fun i j v z _ => by simp at z⟩
  | j :: r, ds, e => by
    unfold capD at e
    split at e
    · rename_i d hd
      obtain ⟨ds', e1, e2⟩ := Option.map_eq_some_iff.mp e
      cases e2
      obtain ⟨cap, c1, c2, c3⟩ := capD_ok h e1
      obtain ⟨v, ev, rv⟩ := h.get_sh hd
      refine ⟨v :: cap, .cons rv c1, by simp [c2], fun i j' v' z1 z2 => ?_⟩
      cases i with
      | zero => simp at z1 z2; rw [← z1, ← z2]; exact ev
      | succ i => exact c3 i j' v' (by simpa using z1) (by simpa using z2)
    · cases e
theorem lamArgs_ok (h : Holds K Φ Hk ρ T σ H) {f : Addr} : ∀ {as : List (Option Nat)} {ρs : List Slot}, lamArgs ρ f as = some ρs → ∃ ds : List D, ρs = ds.map Slot.sh ∧ ds.length = as.length ∧ ∃ vs : List V, Reps K Hk vs ds ∧ ∀ (i : Nat) (v : V), vs[i]? = some v → (∀ j, as[i]? = some (some j) → σ[j]? = some (some v)) ∧ (as[i]? = some none → v = .ref f)
  | [], ρs, e => by cases e; exact ⟨[], rfl, rfl, [], .nil, fun i v z => by simp at z⟩
  | some j :: r, ρs, e => by
    unfold lamArgs at e
    split at e
    · rename_i d hd
      obtain ⟨ρs', e1, e2⟩ := Option.map_eq_some_iff.mp e
      cases e2
      obtain ⟨ds, d1, d2, vs, r1, r2⟩ := lamArgs_ok h e1
      obtain ⟨v, ev, rv⟩ := h.get_sh hd
      refine ⟨d :: ds, by rw [d1]; rfl, by simp [d2], v :: vs, .cons rv r1, fun i v' z => ?_⟩
      cases i with
      | zero => simp at z; subst z; exact ⟨fun j' z' => by simp at z'; rw [← z']; exact ev, fun z' => by simp at z'⟩
      | succ i => simpa using r2 i v' (by simpa using z)
    · cases e
  | none :: r, ρs, e => by
    unfold lamArgs at e
    obtain ⟨ρs', e1, e2⟩ := Option.map_eq_some_iff.mp e
    cases e2
    obtain ⟨ds, d1, d2, vs, r1, r2⟩ := lamArgs_ok h e1
    refine ⟨.opq (.ref f) :: ds, by rw [d1]; rfl, by simp [d2], .ref f :: vs, .cons .opq r1, fun i v' z => ?_⟩
    cases i with
    | zero => simp at z; subst z; exact ⟨fun j' z' => by simp at z', fun _ => rfl⟩
    | succ i => simpa using r2 i v' (by simpa using z)
end
/-- a def whose lambdas' tables are known: its code object stands at c -/
structure FunL (K : PySem.W.Frag) (x qual : Str) (st : Stmt) (f : Addr) (fd : FuncData) (c : Addr) : Prop where
  ex : ∃ (oc : Value) (od : Option Addr) (kV doc pm : Value) (an : Option Addr) (ct : Value) (osl : Array (Option Value)),
    fd = PySem.W.fnOf x qual (defArgs st) (defBody st) (defScope st) .none kV doc pm an (.ref c) ct ∧ K.lookup f = some ⟨oc, od, .func fd, osl⟩ ∧ PySem.W.codeIn K (.ref c) qual = true
  kp : PySem.W.keepIn K (.ref f) = true
theorem FunL.fn {K : PySem.W.Frag} {x qual : Str} {st : Stmt} {f c : Addr} {fd : FuncData} (F : FunL K x qual st f fd c) : Fun K x qual st f fd := by
  obtain ⟨oc, od, kV, doc, pm, an, ct, osl, e1, e2, e3⟩ := F.ex
  exact ⟨⟨oc, od, kV, doc, pm, an, .ref c, ct, osl, e1, e2, e3⟩, F.kp⟩
/-- a lambda's promise is its reading -/
def lamS (n : Nat) (t : XP → VE) : VSp := fun ρs R RX => ρs.length = n ∧ t (fun cls fs ρ' => RX cls fs (fin ρs ρ')) (ρs ++ uns 0) (fun r ρ' => R r (fin ρs ρ'))
theorem fn_wL {P : Program} {w : World} {K : PySem.W.Frag} {mg : Str → Option Value} {base : Heap} {x qual : Str} {st : Stmt} {f c : Addr} {fd : FuncData} {N ps : List Str} {k : Nat} {SS : VSp} {t : (Value → List (Str × D) → Rho → Prop) → VS} (F : FunL K x qual st f fd c) (S : FnScope N ps (defScope st)) (len : ∀ ρs R RX, SS ρs R RX → ρs.length = ps.length)
    (syn : ∀ (Φ : Fr) (A : Around) (outer : List Env) (s : Shared) (H : Hp) (E : XK), Room k (A.deeper (envOfC qual (defScope st) s.heap.objs.size f (.ref c))) → Tk (cxOf (L2.CX P w) P w K mg base N qual (defScope st) f (.ref c) A outer s H E) Φ → PWSs (cxOf (L2.CX P w) P w K mg base N qual (defScope st) f (.ref c) A outer s H E) Φ (defBody st) (t Φ.EX))
    (rd : ∀ ρs R RX, SS ρs R RX → t (fun cls fs ρ' => RX cls fs (fin ρs ρ')) { nx := fun ρ' => R (.sh .non) (fin ρs ρ'), rt := fun r ρ' => R r (fin ρs ρ') } (ρs ++ uns (N.length - ps.length))) : FnOk P w K mg base (L2.CX P w) (k + 1) f fd ps (spV K SS) := by
  obtain ⟨oc, od, kV, doc, pm, an, ct, osl, rfl, lk, hcd⟩ := F.ex
  refine fn_of lk hcd S (fun vs H Q E h => ?_) fun A outer s H vs Q E hr h => ?_
  · obtain ⟨Hk, ρs, T, R, RX, hl, _, _, hs, _⟩ := h
    rw [← hl]; exact len ρs R RX hs
  · obtain ⟨Hk, ρs, T, R, RX, hl, hk, hh, hs, fin', finX⟩ := h
    exact ⟨_, pss_sem, body_w hl (len ρs R RX hs) hk hh fin' finX (fun Φ _ tk => syn Φ A outer s H E hr tk) (rd ρs R RX hs)⟩
/-- the callee, which calls its parameter -/
structure TakesLam (X : Cx) (x : Str) (st : Stmt) (g : Addr) (Ng psg : List Str) (kg kl : Nat) (n : Nat) (SSl : VSp) (SG : Addr → List D → VSp) : Prop where
  ex : ∃ fd, Fun X.K x x st g fd ∧ L2.Binds X.K fd psg []
  mg : X.mg x = some (.ref g)
  sc : FnScope Ng psg (defScope st)
  len : ∀ f dcap ρs R RX, SG f dcap ρs R RX → ρs.length = psg.length
  go : ∀ (f c' : Addr) (cap : List V) (dcap : List D) (s : Shared) (H : Hp) (E : XK) (cdv : Value), cap.length = n → LamAt X.prog X.w X.K X.mg X.base (lamC X H s c') kl f cap SSl → Room kg (X.A.deeper (envOfC x (defScope st) s.heap.objs.size g cdv)) →
    ∃ t : XP → VS, (∀ Φ : Fr, Φ.Hk0 c' = some (LamX.CodeO c' (X.env.qual ++ "<lambda>")) → Reps X.K Φ.Hk0 cap dcap → Tk (cxOf (L2.CX X.prog X.w) X.prog X.w X.K X.mg X.base Ng x (defScope st) g cdv X.A X.stack s H E) Φ →
      PWSs (cxOf (L2.CX X.prog X.w) X.prog X.w X.K X.mg X.base Ng x (defScope st) g cdv X.A X.stack s H E) Φ (defBody st) (t Φ.EX)) ∧
    ∀ ρs R RX, SG f dcap ρs R RX → t (fun cls fs ρ' => RX cls fs (fin ρs ρ')) { nx := fun ρ' => R (.sh .non) (fin ρs ρ'), rt := fun r ρ' => R r (fin ρs ρ') } (ρs ++ uns (Ng.length - psg.length))
section
variable {X : Cx} {Φ : Fr} {x : Str} {st : Stmt} {g c P : Addr} {Ng psg caps ps : List Str} {kg kl k : Nat} {SSl : VSp} {SG : Addr → List D → VSp} {js : List Nat} {params : Arguments} {body : Expr} {scope : Scope} {p lpos pos p1 p3 : Pos} {t : XP → VE}
/-- what a lambda asks -/
structure LamOk (X : Cx) (c P : Addr) (caps ps : List Str) (js : List Nat) (params : Arguments) (body : Expr) (scope : Scope) (k : Nat) (SSl : VSp) : Prop where
  TB : LamX.TabB X.base X.mg c P
  code : X.env.code = .ref c
  tm : (P, X.env.qual ++ "<lambda>") ∈ TBs.tb
  tu : ∀ p ∈ TBs.tb, p.1 = P → p.2 = X.env.qual ++ "<lambda>"
  L : LamP X.env.scope scope caps ps
  df : defaultsOf params X.env = ([], [])
  bind : ∀ (f c' : Addr) (pm ctv : Value) (us : List Value), us.length = ps.length → bindArgs (PySem.W.kla_fn "<lambda>" (X.env.qual ++ "<lambda>") params body scope (cloFrom X.env.cells scope.names []) pm (.ref c') ctv) ⟨us, []⟩ = pure (ps.zip us)
  cjs : js.map (fun j => X.N[j]?) = caps.map some
  len : ∀ ρs R RX, SSl ρs R RX → ρs.length = (caps ++ ps).length
  go : ∃ t : XP → VE, (∀ (f c' : Addr) (A : Around) (outer : List Env) (s1 : Shared) (HZ : Hp) (E : XK) (Φ : Fr), Room k (A.deeper (LamX.lamEnv X scope s1.heap.objs.size f c')) → Tk (lamW X (caps ++ ps) A outer s1 HZ E scope f c') Φ → PWE (lamW X (caps ++ ps) A outer s1 HZ E scope f c') Φ body (t Φ.EX)) ∧
    ∀ ρs R RX, SSl ρs R RX → t (fun cls fs ρ' => RX cls fs (fin ρs ρ')) (ρs ++ uns 0) (fun r ρ' => R r (fin ρs ρ'))
theorem lamcall_core (G : TakesLam X x st g Ng psg kg (k + 1) js.length SSl SG) (hr : Room (kg + 1) X.A) (O : LamOk X c P caps ps js params body scope k SSl) {pins : List (Addr × Obj)} {ρ : Rho} {Q : VK0} {Pq : VK} {Hk H H1 : Hp} {T : List Cell} {σ : L2.St} {s' : Shared} {as : List (Option Nat)} {f c' : Addr} {pm ctv : Value} {us : List Value} {dcap : List D} {ρs : List Slot}
    (hh : Holds X.K Φ Hk ρ T σ H) (po : Post X.K Φ Hk T σ ρ Q Pq) (I1 : Inv X pins σ H1 s') (eN : LamX.ExtN H H1) (T1 : LamX.Tabs TBs.tb H1)
    (hf : s'.heap.get? f = some (PySem.W.kla_obj "<lambda>" (X.env.qual ++ "<lambda>") params body scope (cloFrom X.env.cells scope.names []) pm c' ctv)) (hfn : H1 f = none) (hfr : f ∉ frs X.stack) (hco : H1 c' = some (LamX.CodeO c' (X.env.qual ++ "<lambda>")))
    (hcap : capD ρ js = some dcap) (ha : lamArgs ρ f as = some ρs) (hs : SG f dcap ρs (fun r _ => Q r ρ) (fun _ _ _ => False)) (hus : ∀ vs : List V, vs.length = as.length → (∀ (i : Nat) (v : V), vs[i]? = some v → (∀ j, as[i]? = some (some j) → σ[j]? = some (some v)) ∧ (as[i]? = some none → v = .ref f)) → Vals vs us) :
    wpAny (model X.prog X.w) X.A (call (.ref g) us) (EP X pins σ Pq) X.xe s' := by
  obtain ⟨e1, hl1, cd1⟩ := hh.hl.lam eN T1 I1.hok
  have h1 : Holds X.K Φ (withCodes Hk H1) ρ T σ H1 := ⟨hh.len, hl1, hh.ex0.trans e1, hh.kp0⟩
  obtain ⟨cap, c1, c2, c3⟩ := capD_ok h1 hcap
  obtain ⟨ds, d1, d2, vs, v1, v2⟩ := lamArgs_ok h1 ha
  have r : Vals vs us := hus vs (by rw [v1.length, d2]) v2
  have lv : ρs.length = vs.length := by rw [d1, List.length_map, v1.length]
  have CA : CapAt X σ caps cap := by
    have hlj : js.length = caps.length := by simpa using congrArg List.length O.cjs
    refine ⟨by rw [c2, hlj], fun i y v q1 q2 => ?_⟩
    have hi : i < js.length := by rw [hlj]; exact (List.getElem?_eq_some_iff.mp q1).1
    have q3 : js[i]? = some js[i] := List.getElem?_eq_getElem hi
    refine ⟨js[i], ?_, c3 i js[i] v q3 q2⟩
    have q4 := congrArg (fun l => l[i]?) O.cjs
    simp only [List.getElem?_map, q1, q3, Option.map_some, Option.some.injEq] at q4
    exact q4
  obtain ⟨tl, tsyn, trd⟩ := O.go
  have LA : LamAt X.prog X.w X.K X.mg X.base (lamC X H1 s' c') (k + 1) f cap SSl := lam_at I1 O.L hf hfn hfr CA (O.bind f c' pm ctv) O.len (tsyn f c') trd
  obtain ⟨fd, Fg, hb⟩ := G.ex
  obtain ⟨oc, od, kV, doc, pmg, an, cdv, ct, osl, efd, lk, hcd⟩ := Fg.ex
  subst efd
  have hn : ρs.length = psg.length := G.len _ _ _ _ _ hs
  have hlp : us.length = psg.length := by rw [← r.length, ← lv, hn]
  have rc : codeAny (model X.prog X.w) X.A (.call (.ref g) ⟨us, []⟩) (CR (L2.CX X.prog X.w) X.stack X.prog X.w H1 s' Pq (fun _ _ _ => False)) s' := by
    have hb' := hb s' us I1.kIn (by rw [List.append_nil]; exact hlp)
    rw [List.append_nil] at hb'
    refine LamX.run_ofS (N := Ng) (ps := psg) (us := us) (vs := vs) lk hcd G.sc hr I1.env0 hb' r (by rw [← lv, hn]) fun hr' => ?_
    obtain ⟨t, gs, gr⟩ := G.go f c' cap dcap s' H1 (fun _ _ _ => False) cdv c2 LA hr'
    have hhl : HL X.K (withCodes Hk H1) H1 ((vs.map some).zip ρs ++ (σ.zip ρ ++ (T ++ Φ.T0))) := by rw [d1]; exact v1.cells h1.hl
    refine ⟨_, pss_sem, body_w (E := fun _ _ _ => False) (R := fun r _ => Q r ρ) (RX := fun _ _ _ => False) lv hn (by rw [d1]; have := KpA.shs ds .nil; simpa using this) hhl (fun v H' Hk' ρs' r e2 k2 h2 q2 => ?_) (fun _ _ _ _ _ _ _ _ _ _ z => z) (fun Φ' e0 tk => ?_) (gr _ _ _ hs)⟩
    · have h3 : HL X.K Hk' H' ((some v, r) :: (σ.zip ρ ++ (T ++ Φ.T0))) := by
        have h4 : HL X.K Hk' H' ((vs.map some).zip ρs' ++ ((some v, r) :: (σ.zip ρ ++ (T ++ Φ.T0)))) := HL.unmid h2
        exact h4.drop
      refine po v H' Hk' ρ r (e1.trans e2) ⟨hh.len, HL.unmid (C := σ.zip ρ) (by simpa using h3), h1.ex0.trans e2, h1.kp0⟩ (.refl _ _) q2
    · exact gs Φ' (by rw [e0]; exact cd1 _ _ hco) (by rw [e0]; exact c1) tk
  refine wpAny_call (codeAny_mono rc fun rr s2 hq => ?_)
  cases rr with
  | error e =>
    obtain ⟨_, _, _, _, _, _, _, _, _, _, _, _, z⟩ := hq
    exact z.elim
  | ok fl =>
    cases fl with
    | ret u => exact I1.after hq
    | next => exact False.elim hq
    | brk => exact False.elim hq
    | cont => exact False.elim hq
theorem LamOk.free (O : LamOk X c P caps ps js params body scope k SSl) (ok : X.Ok) : ∀ y ∈ scope.names, y.2 = .free → ∃ c, X.env.cells.lookup y.1 = some c := fun y hy e => (O.L.free y hy e).elim (fun k => ok.has _ (.inl k)) fun k => ok.has _ (.inr k)
/-- g(lambda) -/
theorem pwe_lam1 (G : TakesLam X x st g Ng psg kg (k + 1) js.length SSl SG) (hr : Room (kg + 1) X.A) (hg : Gl X x) (O : LamOk X c P caps ps js params body scope k SSl) (hdb : (x == ("__debug__" : Str)) = false := by decide) :
    PWE X Φ (.Call (.Name x p) [.Lambda params body scope lpos] [] pos) (vLamC js [none] SG) := ⟨fun ρ Q Hk T σ H Pq ⟨dcap, hc, q⟩ hh po => by
  intro pins s I
  obtain ⟨fd, Fg, hb⟩ := G.ex
  refine wpAny_Call_Name_kw (ld_glob I hg G.mg ?_ hdb)
  refine PySem.W.callWith_K (h₀ := X.base) I.ok.mod.kin Fg.kp ?_ (by rfl) (by rfl)
  show wpAny _ _ (spliced ((false, eval (.Lambda params body scope lpos) X.env) :: backTo pos (starEach [] X.env))) _ _ s
  refine Calls.spliced_cons (LamX.lam_make2 I O.TB O.code O.tm O.tu hh.hl.tabs O.df (O.free I.ok) fun f c' pm ctv H1 s' I1 eN T1 hf hfn hfr hco => ?_)
  obtain ⟨ρs, ha, hs⟩ := q f
  refine Calls.spliced_nil ⟨I1.kIn, lamcall_core G hr O hh po I1 eN T1 hf hfn hfr hco hc ha hs fun vs hl hv => ?_⟩
  match vs, hl with
  | [v], _ =>
    rw [(hv 0 v rfl).2 rfl]
    exact .cons rfl .nil⟩
/-- g(i, lambda, j) -/
theorem pwe_lam3 {i j : Nat} {y z : Str} (G : TakesLam X x st g Ng psg kg (k + 1) js.length SSl SG) (hr : Room (kg + 1) X.A) (hg : Gl X x) (O : LamOk X c P caps ps js params body scope k SSl) (hNi : X.N[i]? = some y) (hvi : Vis X.env.scope y) (hNj : X.N[j]? = some z) (hvj : Vis X.env.scope z) (hdb : (x == ("__debug__" : Str)) = false := by decide)
    (d1 : (y == ("__debug__" : Str)) = false := by decide) (d2 : (y == ("__classdict__" : Str)) = false := by decide) (d3 : (z == ("__debug__" : Str)) = false := by decide) (d4 : (z == ("__classdict__" : Str)) = false := by decide) :
    PWE X Φ (.Call (.Name x p) [.Name y p1, .Lambda params body scope lpos, .Name z p3] [] pos) (vLamC js [some i, none, some j] SG) := ⟨fun ρ Q Hk T σ H Pq ⟨dcap, hc, q⟩ hh po => by
  intro pins s I
  obtain ⟨fd, Fg, hb⟩ := G.ex
  have gets : ∀ f, ∃ di dj, ρ[i]? = some (.sh di) ∧ ρ[j]? = some (.sh dj) := fun f => by
    obtain ⟨ρs, ha, _⟩ := q f
    unfold lamArgs at ha
    split at ha
    · rename_i d hd
      obtain ⟨l1, e1, _⟩ := Option.map_eq_some_iff.mp ha
      unfold lamArgs at e1
      obtain ⟨l2, e2, _⟩ := Option.map_eq_some_iff.mp e1
      unfold lamArgs at e2
      split at e2
      · rename_i d2 hd2
        exact ⟨d, d2, hd, hd2⟩
      · cases e2
    · cases ha
  obtain ⟨di, dj, gi, gj⟩ := gets 0
  obtain ⟨vi, ei, _⟩ := hh.get_sh gi
  obtain ⟨vj, ej, _⟩ := hh.get_sh gj
  refine wpAny_Call_Name_kw (ld_glob I hg G.mg ?_ hdb)
  refine PySem.W.callWith_K (h₀ := X.base) I.ok.mod.kin Fg.kp ?_ (by rfl) (by rfl)
  show wpAny _ _ (spliced ((false, eval (.Name y p1) X.env) :: (false, eval (.Lambda params body scope lpos) X.env) :: (false, eval (.Name z p3) X.env) :: backTo pos (starEach [] X.env))) _ _ s
  refine Calls.spliced_cons (raw_name hNi hvi I ei (fun ui ri => ?_) d1 d2)
  refine Calls.spliced_cons (LamX.lam_make2 I O.TB O.code O.tm O.tu hh.hl.tabs O.df (O.free I.ok) fun f c' pm ctv H1 s' I1 eN T1 hf hfn hfr hco => ?_)
  refine Calls.spliced_cons (raw_name hNj hvj I1 ej (fun uj rj => ?_) d3 d4)
  obtain ⟨ρs, ha, hs⟩ := q f
  refine Calls.spliced_nil ⟨I1.kIn, lamcall_core G hr O hh po I1 eN T1 hf hfn hfr hco hc ha hs fun vs hl hv => ?_⟩
  match vs, hl with
  | [a, b, e], _ =>
    have ea := (hv 0 a rfl).1 i rfl
    have ee := (hv 2 e rfl).1 j rfl
    rw [ei] at ea; rw [ej] at ee
    cases ea; cases ee
    rw [(hv 1 b rfl).2 rfl]
    exact .cons ri (.cons rfl (.cons rj .nil))⟩
end
/-! ### known from here on -/
section
variable {X : Cx} {Φ : Fr} {st : Stmt} {sts : List Stmt} {t : VS}
/-- what i holds is shared, then the rest runs -/
def vKnows (i : Nat) (t : VS) : VS := fun R ρ => (∃ d, ρ[i]? = some (.sh d) ∧ t R ρ) ∨ ∃ o, ρ[i]? = some (.ow false o) ∧ t R (ρ.set i (.sh o.d))
theorem pwss_knows (i : Nat) (h : PWSs X Φ sts t) : PWSs X Φ sts (vKnows i t) := ⟨fun ρ R Hk T σ H D q hh o => by
  rcases q with ⟨d, e, q⟩ | ⟨o1, e, q⟩
  · exact h.run ρ R Hk T σ H D q hh o
  · obtain ⟨v, R1, ev, h1, back⟩ := hh.at' e
    obtain ⟨Hk', v', rfl, e1, r, h2⟩ := h1.share
    have kp : Kp σ ρ σ (ρ.set i (.sh o1.d)) := kp_set e fun _ z => by cases z
    exact h.run _ R Hk' T σ H D q (back Hk' H _ h2 e1 kp) (o.step e1 kp)⟩
end
end WL

set_option Elab.async false
set_option linter.all false
set_option maxRecDepth 100000
set_option maxHeartbeats 4000000
/-! HV: the helpers that the laws share: what they promise, and that they keep it. -/
namespace WL
open PySem PySem.Spec PyProof.Rows L2
variable [TBs]
local macro_rules | `(tactic| walk_at "s") => `(tactic| first
  | ((with_reducible show vSeq _ _ _ _); refine u_seq ?_)
  | ((with_reducible show vSet _ _ _ _); refine u_set ?_)
  | ((with_reducible show kSet _ _ _ _); refine k_set rfl rfl ?_)
  | ((with_reducible show vRet _ _ _); refine u_ret ?_)
  | ((with_reducible show vIf _ _ _ _ _); refine u_if ?_)
  | ((with_reducible show vExpr _ _ _); refine u_expr ?_)
  | ((with_reducible show kExpr _ _ _); refine k_expr ?_)
  | ((with_reducible show vRetN _ _); refine u_retN ?_)
  | ((with_reducible show vAsg _ _ _ _); refine u_asg ?_)
  | ((with_reducible show kAsg _ _ _ _); refine k_asg rfl ?_)
  | ((with_reducible show vNext _ _); refine u_next ?_)
  | ((with_reducible show vBreak _ _); refine u_break ?_)
  | ((with_reducible show vCont _ _); refine u_cont ?_)
  | ((with_reducible show kIf _ _ _ _ _); (first | refine k_ifT ?_ | refine k_ifF ?_))
  | ((with_reducible show vVal _ _ _); refine u_val ?_)
  | ((with_reducible show kVal _ _ _); refine k_val ?_)
  | ((with_reducible show vPk _ _ _); refine u_pk rfl rfl ?_)
  | ((with_reducible show vC _ _ _); refine u_c ?_)
  | ((with_reducible show vVar _ _ _); (first | refine u_var rfl ?_ | refine u_varL rfl ?_ | refine u_varD rfl ?_ | refine u_varE rfl ?_))
  | ((with_reducible show vMv _ _ _); (first | refine u_mv rfl ?_ | refine u_mvO rfl ?_))
  | ((with_reducible show vBin _ _ _ _ _); refine u_bin ?_)
  | ((with_reducible show kBin1 _ _ _ _ _); refine k_bin1 ?_)
  | ((with_reducible show kBin2 _ _ _ _ _); refine k_bin2 rfl rfl ?_)
  | ((with_reducible show vUn _ _ _ _); refine u_un ?_)
  | ((with_reducible show kUn _ _ _ _); refine k_un rfl ?_)
  | ((with_reducible show vCons _ _ _ _); refine u_cons ?_)
  | ((with_reducible show kCons1 _ _ _ _); refine k_cons1 ?_)
  | ((with_reducible show vNil _ _); refine u_nil ?_)
  | ((with_reducible show kCons2 _ _ _ _); refine k_cons2 ?_)
  | ((with_reducible show vPrim _ _ _ _); refine u_prim ?_)
  | ((with_reducible show kPrim _ _ _ _); (first | refine k_prim1 rfl ?_ | refine k_prim2 rfl rfl ?_))
  | ((with_reducible show kRet _ _ _); (first | refine k_retV ?_ | refine k_retL ?_ | refine k_retT ?_ | refine k_retD ?_))
  | ((with_reducible show vSh _ _ _); refine u_sh ?_)
  | ((with_reducible show kSh _ _ _); (first | refine k_sh ?_ | refine k_shL ?_ | refine k_shD ?_))
  | ((with_reducible show vT _ _ _); refine u_t ?_)
  | ((with_reducible show kT _ _ _); refine k_t ?_)
  | ((with_reducible show vTru _ _ _); refine u_tru ?_)
  | ((with_reducible show kTru _ _ _); refine k_tru rfl rfl ?_)
  | ((with_reducible show vAnd _ _ _ _); refine u_and ?_)
  | ((with_reducible show kAnd _ _ _ _); (first | refine k_andT ?_ | refine k_andF ?_))
  | ((with_reducible show vOr _ _ _ _); refine u_or ?_)
  | ((with_reducible show kOr _ _ _ _); (first | refine k_orT ?_ | refine k_orF ?_))
  | ((with_reducible show vNot _ _ _); refine u_not ?_)
  | ((with_reducible show kNot _ _ _); refine k_not ?_)
  | ((with_reducible show vAndV _ _ _ _); refine u_andV ?_)
  | ((with_reducible show kAndV _ _ _ _); (first | refine k_andVT ?_ | refine k_andVF ?_))
  | ((with_reducible show kOrV _ _ _ _); (first | refine k_orVT ?_ | refine k_orVF ?_))
  | ((with_reducible show vOrV _ _ _ _); refine u_orV ?_)
  | ((with_reducible show vNotV _ _ _); refine u_notV ?_)
  | ((with_reducible show kNotV _ _ _); refine k_notV ?_)
  | ((with_reducible show vIfE _ _ _ _ _); refine u_ifE ?_)
  | ((with_reducible show kIfE _ _ _ _ _); (first | refine k_ifET ?_ | refine k_ifEF ?_))
  | ((with_reducible show vLst _ _ _); refine u_lst ?_)
  | ((with_reducible show kLst _ _ _); refine k_lst rfl (by simp only [List.length_cons, List.length_nil]; decide) ?_)
  | ((with_reducible show vTup _ _ _); refine u_tup ?_)
  | ((with_reducible show kTup _ _ _); refine k_tup rfl (by simp only [List.length_cons, List.length_nil]; decide) ?_)
  | ((with_reducible show vNewD _ _); refine u_newD ?_)
  | ((with_reducible show vSl _ _ _ _ _); refine u_sl ?_)
  | ((with_reducible show kSl0 _ _ _ _ _); refine k_sl0 ?_)
  | ((with_reducible show kSl1 _ _ _ _ _); refine k_sl1 ?_)
  | ((with_reducible show kSl2 _ _ _ _ _); refine k_sl2 rfl ?_)
  | ((with_reducible show vNoPart _ _); refine u_noPart ?_)
  | ((with_reducible show vPart _ _ _); refine u_part ?_)
  | ((with_reducible show kPart _ _ _); refine k_part ?_)
  | ((with_reducible show vApp _ _ _ _); refine u_app rfl ?_)
  | ((with_reducible show vPopAt _ _ _ _); refine u_popAt rfl ?_)
  | ((with_reducible show vExt _ _ _ _); refine u_ext rfl ?_)
  | ((with_reducible show vM1 _ _ _ _ _); refine u_m1 ?_)
  | ((with_reducible show kM1a _ _ _ _ _); refine k_m1a rfl ?_)
  | ((with_reducible show kM1b _ _ _ _ _); refine k_m1b rfl rfl ?_)
  | ((with_reducible show vGet2 _ _ _ _ _); refine u_get2 ?_)
  | ((with_reducible show kGet1 _ _ _ _ _); refine k_get1 rfl ?_)
  | ((with_reducible show kGet2 _ _ _ _ _); refine k_get2 ?_)
  | ((with_reducible show vSetL _ _ _ _ _); refine u_setL ?_)
  | ((with_reducible show kSetL1 _ _ _ _ _); refine k_setL1 rfl ?_)
  | ((with_reducible show kSetL2 _ _ _ _ _); (first | refine k_setL2j 0 rfl rfl (by simp) rfl ?_ | refine k_setL2j 1 rfl rfl (by simp) rfl ?_ | refine k_setL2j 2 rfl rfl (by simp) rfl ?_))
  | ((with_reducible show vPutD _ _ _ _ _); refine u_putD ?_)
  | ((with_reducible show kPutD1 _ _ _ _ _); refine k_putD1 rfl ?_)
  | ((with_reducible show vAugL _ _ _ _ _ _); refine u_augL rfl ?_)
  | ((with_reducible show kAugL1 _ _ _ _ _ _); (first | refine k_augL1j 0 rfl rfl rfl ?_ | refine k_augL1j 1 rfl rfl rfl ?_ | refine k_augL1j 2 rfl rfl rfl ?_))
  | ((with_reducible show kAugL2 _ _ _ _ _ _ _); refine k_augL2j rfl (by simp) ?_)
  | ((with_reducible show vAug _ _ _ _ _); refine u_aug rfl ?_)
  | ((with_reducible show kAug _ _ _ _ _ _); (first | refine k_augAdd rfl ?_ | refine k_augSub rfl ?_))
  | ((with_reducible show vCall _ _ _ _); refine u_call ?_)
  | ((with_reducible show gN _ _ _ _); refine u_gN rfl rfl ?_)
  | ((with_reducible show gT _ _ _ _); refine u_gT rfl ?_)
  | ((with_reducible show gL _ _ _ _); refine u_gL rfl rfl ?_)
  | ((with_reducible show gTs _ _ _ _); (first | refine u_gTs0 ?_ | refine u_gTs ?_))
  | ((with_reducible show vItL _ _ _); refine u_itL ?_)
  | ((with_reducible show kItL _ _ _); refine k_itL rfl rfl ?_)
  | ((with_reducible show vItT _ _ _); refine u_itT ?_)
  | ((with_reducible show kItT _ _ _); refine k_itT rfl rfl ?_)
  | ((with_reducible show vItR1 _ _ _); refine u_itR1 ?_)
  | ((with_reducible show vItR2 _ _ _); refine u_itR2 ?_)
  | ((with_reducible show vFor _ _ _ _ _); refine u_for ?_)
  | ((with_reducible show vLc _ _ _ _ _ _ _); refine u_lc ?_)
  | ((with_reducible show vLcK _ _ _ _ _ _ _); refine u_lcK rfl ?_)
  | ((with_reducible show vYes _ _); refine u_yes ?_)
  | ((with_reducible show kLcT _ _ _ _ _ _); refine k_lcTT ?_)
  | ((with_reducible show addP _ _); refine p_addI ?_)
  | ((with_reducible show subP _ _); refine p_subI ?_)
  | ((with_reducible show mulP _ _); (first | refine p_mulI (.inl (.inl (by omega))) ?_ | refine p_mulI (.inl (.inr (by omega))) ?_))
  | ((with_reducible show modP _ _); refine p_modI (by omega) ?_)
  | ((with_reducible show divP _ _); refine p_divI (.inl (by constructor <;> omega)) ?_)
  | ((with_reducible show negP _ _); refine p_negI ?_)
  | ((with_reducible show ltP _ _); refine p_ltI ?_)
  | ((with_reducible show leP _ _); refine p_leI ?_)
  | ((with_reducible show gtP _ _); refine p_gtI ?_)
  | ((with_reducible show geP _ _); refine p_geI ?_)
  | ((with_reducible show eqP _ _); (first | refine p_eqI ?_ | refine p_eqS ?_ | refine p_eqB ?_ | refine p_eqN ?_))
  | ((with_reducible show neP _ _); (first | refine p_neI ?_ | refine p_neS ?_ | refine p_neB ?_))
  | ((with_reducible show isNP _ _); (first | refine p_isNn ?_ | refine p_isNi ?_ | refine p_isNs ?_ | refine p_isNb ?_ | refine p_isNl ?_ | refine p_isNt ?_ | refine p_isNd ?_))
  | ((with_reducible show notNP _ _); (first | refine p_notNn ?_ | refine p_notNi ?_ | refine p_notNs ?_ | refine p_notNb ?_ | refine p_notNl ?_ | refine p_notNt ?_ | refine p_notNd ?_))
  | ((with_reducible show isiP _ _); refine p_isi rfl rfl ?_)
  | ((with_reducible show isiTP _ _); refine p_isiT rfl rfl ?_)
  | ((with_reducible show reprP _ _); (first | refine p_reprB ?_ | refine p_reprN ?_))
  | ((with_reducible show lenP _ _); (first | refine p_lenL ?_ | refine p_lenF ?_ | refine p_lenT ?_ | refine p_lenD ?_))
  | ((with_reducible show absP _ _); refine p_absI ?_)
  | ((with_reducible show intP _ _); refine p_intI ?_)
  | ((with_reducible show listP _ _); (first | refine p_listL ?_ | refine p_listF ?_ | refine p_listD ?_))
  | ((with_reducible show ixP _ _); (first | refine p_ixLj 0 rfl rfl ?_ | refine p_ixLj 1 rfl rfl ?_ | refine p_ixLj 2 rfl rfl ?_ | refine p_ixLj 3 rfl rfl ?_ | refine p_ixTj 0 rfl rfl ?_ | refine p_ixTj 1 rfl rfl ?_ | refine p_ixTj 2 rfl rfl ?_ | refine p_ixTj 3 rfl rfl ?_))
  | ((with_reducible show inP _ _ _); (first | refine p_inS0 ?_ | refine p_inS1 ?_ | refine p_inI0 ?_ | refine p_inI1 ?_ | refine p_inD0 rfl ?_ | refine p_inD1 rfl ?_))
  | ((with_reducible show slP _ _ _ _); (first | refine p_slL ?_ | refine p_slF ?_))
  | ((with_reducible show sumP _ _); refine p_sum ?_)
  | ((with_reducible show maxP _ _); refine p_max2 ?_)
  | ((with_reducible show minP _ _); refine p_min2 ?_)
  | ((with_reducible show allP _ _); refine p_all ?_)
  | ((with_reducible show anyP _ _); refine p_any ?_))
local macro_rules | `(tactic| walk_at "ss") => `(tactic| repeat walk_at "s")
/-! joins: what is behind a choice is read once -/
theorem cutE {te : VE} {ρ : Rho} {Q : VK0} (P : Slot → Rho → Prop) (h : ∀ K : VK0, (∀ s ρ', P s ρ' → K s ρ') → te ρ K) (h2 : ∀ s ρ', P s ρ' → Q s ρ') : te ρ Q := h Q h2
theorem cutT {tt : VT} {ρ : Rho} {Q : Bool → Rho → Prop} (P : Bool → Rho → Prop) (h : ∀ K : Bool → Rho → Prop, (∀ s ρ', P s ρ' → K s ρ') → tt ρ K) (h2 : ∀ s ρ', P s ρ' → Q s ρ') : tt ρ Q := h Q h2
theorem cutS' {t : VS} {ρ : Rho} {nx bk ct : Rho → Prop} {rt : Slot → Rho → Prop} (P : Rho → Prop) (h : ∀ K : Rho → Prop, (∀ ρ', P ρ' → K ρ') → t (.mk K rt bk ct) ρ) (h2 : ∀ ρ', P ρ' → nx ρ') : t (.mk nx rt bk ct) ρ := h nx h2
theorem k_ifEJ {ta tb : VE} {ρ : Rho} {Q : VK0} {p : Prop} [Decidable p] (P : Slot → Rho → Prop) (h1 : p → ∀ K : VK0, (∀ s ρ', P s ρ' → K s ρ') → ta ρ K) (h2 : ¬ p → ∀ K : VK0, (∀ s ρ', P s ρ' → K s ρ') → tb ρ K) (h : ∀ s ρ', P s ρ' → Q s ρ') : kIfE ta tb Q (decide p) ρ :=
  k_ifEd (fun z => h1 z Q h) (fun z => h2 z Q h)
theorem k_ifEI {ta tb : VE} {ρ : Rho} {Q : VK0} {p : Prop} [Decidable p] (P : Slot → Prop) (h1 : p → ∀ K : VK0, (∀ s, P s → K s ρ) → ta ρ K) (h2 : ¬ p → ∀ K : VK0, (∀ s, P s → K s ρ) → tb ρ K) (h : ∀ s, P s → Q s ρ) : kIfE ta tb Q (decide p) ρ :=
  k_ifEd (fun z => h1 z Q h) (fun z => h2 z Q h)
local macro_rules | `(tactic| walk_at "back") => `(tactic| refine k_back ?_ (by dsimp only [takeBack, backS, List.set, List.getElem?_cons_zero, List.getElem?_cons_succ]))
theorem perm_eraseIdx {α : Type} {d : α} : ∀ {l : List α} {i : Nat}, l[i]? = some d → (d :: l.eraseIdx i).Perm l
  | [], i, h => by simp at h
  | x :: l, 0, h => by simp at h; subst h; exact .refl _
  | x :: l, i + 1, h => by
    have h' : l[i]? = some d := by simpa using h
    exact (List.Perm.swap x d _).trans ((perm_eraseIdx h').cons x)
abbrev srcD (a b c : Int) : Slot := .ow true (.lst [.int a, .int b, .int c])
/-- the promise of a def, read in its text -/
abbrev Reads (SS : VSp) (v : XP → VS) (n : Nat) : Prop := ∀ ρs R RX, SS ρs R RX → v (fun cls fs ρ' => RX cls fs (fin ρs ρ')) { nx := fun ρ' => R (.sh .non) (fin ρs ρ'), rt := fun r ρ' => R r (fin ρs ρ') } (ρs ++ uns n)
def S_pick : VSp := fun ρs R _ => ∃ a b c many, ρs = [srcD a b c, .sh (.int many)] ∧ 0 < many ∧ many < 1073741824 ∧ ∀ a' b' c' r, 0 ≤ r → r < many → R (.sh (.int r)) [srcD a' b' c', .sh (.int many)]
def v_pick : VS :=
  vSeq (vIf (vT (vBin gtP (vVal (vBin ixP (vPk 0) (vVal (vC (.int 0))))) (vVal (vC (.int 0))))) (vSeq (vSet 2 (vBin modP (vVal (vPrim intP (vCons (vVal (vBin ixP (vPk 0) (vVal (vC (.int 0))))) (vNil)))) (vPk 1)))
    (vSeq (vSetL 0 (vC (.int 0)) (vBin divP (vVal (vBin ixP (vPk 0) (vVal (vC (.int 0))))) (vPk 1)))
    (vRet (vMv 2)))) (vNext))
    (vSeq (vAugL 0 iaddP (vC (.int 2)) (vC (.int 1)))
    (vSeq (vSetL 0 (vC (.int 1)) (vBin modP (vVal (vPrim intP (vCons (vVal (vBin addP (vVal (vBin mulP (vVal (vBin ixP (vPk 0) (vVal (vC (.int 1))))) (vVal (vC (.int 48271))))) (vVal (vBin mulP (vVal (vBin ixP (vPk 0) (vVal (vC (.int 2))))) (vVal (vC (.int 60013))))))) (vNil)))) (vVal (vC (.int 2147483647)))))
    (vRet (vBin modP (vVal (vBin divP (vVal (vBin modP (vVal (vPrim intP (vCons (vVal (vBin addP (vVal (vBin mulP (vVal (vBin ixP (vPk 0) (vVal (vC (.int 1))))) (vVal (vC (.int 16807))))) (vVal (vBin mulP (vVal (vBin ixP (vPk 0) (vVal (vC (.int 2))))) (vVal (vC (.int 7411))))))) (vNil)))) (vVal (vC (.int 2147483629))))) (vVal (vC (.int 8))))) (vPk 1)))))
theorem rd_pick : Reads S_pick (fun _ => v_pick) 1 := fun ρs R _ h => by
  obtain ⟨a, b, c, many, rfl, h0, h1, q⟩ := h
  unfold v_pick
  show vSeq _ _ _ [srcD a b c, .sh (.int many), .un]
  walk_at "ss"
  refine k_ifD (fun h => ?_) (fun h => ?_)
  · walk_at "ss"
    exact q _ _ _ _ (Int.emod_nonneg _ (by omega)) (Int.emod_lt_of_pos _ h0)
  · walk_at "ss"
    exact q _ _ _ _ (Int.emod_nonneg _ (by omega)) (Int.emod_lt_of_pos _ h0)
def S_choice : VSp := fun ρs R _ => ∃ a b c ds, ρs = [srcD a b c, .sh (.lst ds)] ∧ ds ≠ [] ∧ ds.length < 1073741824 ∧ ∀ a' b' c' d, d ∈ ds → R (.sh d) [srcD a' b' c', .sh (.lst ds)]
def v_choice : VS :=
  vRet (vBin ixP (vPk 1) (vVal (vCall S_pick (vCons (vPk 0) (vCons (vVal (vSh (vPrim lenP (vCons (vPk 1) (vNil))))) (vNil))))))
theorem rd_choice : Reads S_choice (fun _ => v_choice) 0 := fun ρs R _ h => by
  obtain ⟨a, b, c, ds, rfl, h0, h1, q⟩ := h
  unfold v_choice
  have hl : 0 < ds.length := List.length_pos_iff.mpr h0
  show vRet _ _ [srcD a b c, .sh (.lst ds)]
  walk_at "ss"
  refine k_call rfl ⟨a, b, c, (ds.length : Int), rfl, by omega, by omega, fun a' b' c' r r0 r1 => ?_⟩
  walk_at "back"
  walk_at "ss"
  have hr : r.toNat < ds.length := by omega
  refine p_ixLn r0 (List.getElem?_eq_getElem hr) ?_
  walk_at "ss"
  exact q _ _ _ _ (List.getElem_mem hr)
def S_shuffled : VSp := fun ρs R _ => ∃ a b c ds, ρs = [srcD a b c, .sh (.lst ds)] ∧ ds.length < 1000000 ∧ ∀ a' b' c' es, es.Perm ds → R (.ow false (.lst es)) [srcD a' b' c', .sh (.lst ds)]
def v_shuffled : VS :=
  vSeq (vSet 2 (vPrim listP (vCons (vPk 1) (vNil))))
    (vSeq (vSet 3 (vLst (vNil)))
    (vSeq (vWhile (vT (vBin gtP (vVal (vPrim lenP (vCons (vPk 2) (vNil)))) (vVal (vC (.int 0))))) (vExpr (vApp 3 (vPopAt 2 (vCall S_pick (vCons (vPk 0) (vCons (vVal (vSh (vPrim lenP (vCons (vPk 2) (vNil))))) (vNil))))))))
    (vRet (vMv 3))))
theorem rd_shuffled : Reads S_shuffled (fun _ => v_shuffled) 2 := fun ρs R _ h => by
  obtain ⟨a, b, c, ds, rfl, h1, q⟩ := h
  unfold v_shuffled
  show vSeq _ _ _ [srcD a b c, .sh (.lst ds), .un, .un]
  walk_at "ss"
  refine u_while1 (fun m ρ' => ∃ a b c left found, ρ' = [srcD a b c, .sh (.lst ds), .ow false (.lst left), .ow false (.lst found)] ∧ m = left.length ∧ (found ++ left).Perm ds) ds.length ⟨a, b, c, ds, [], rfl, rfl, .refl _⟩ ?_
  rintro m ρ' ⟨a, b, c, left, found, rfl, rfl, hp⟩
  have hlen := hp.length_eq
  rw [List.length_append] at hlen
  walk_at "ss"
  refine k_while (fun h => ?_) (fun h => ?_)
  · have hl : 0 < left.length := by simpa using h
    walk_at "ss"
    refine k_call rfl ⟨a, b, c, (left.length : Int), rfl, by omega, by omega, fun a' b' c' r r0 r1 => ?_⟩
    walk_at "back"
    refine k_popAt rfl r0 r1 (by omega) (fun d ρ2 hd hρ => ?_)
    subst hρ
    refine k_app rfl rfl (by show found.length < 16777216; omega) ?_
    walk_at "ss"
    have hr : r.toNat < left.length := by omega
    refine ⟨(left.eraseIdx r.toNat).length, by rw [List.length_eraseIdx, if_pos hr]; omega, a', b', c', _, _, rfl, rfl, ?_⟩
    refine List.Perm.trans ?_ hp
    rw [List.append_assoc]
    refine List.Perm.append_left _ ?_
    exact perm_eraseIdx hd
  · have hl : left = [] := by
      have : ¬ 0 < left.length := by simpa using h
      exact List.length_eq_zero_iff.mp (by omega)
    subst hl
    walk_at "ss"
    exact q _ _ _ _ (by simpa using hp)
/-! texts by their signs -/
theorem cut_to {a : List Nat} {i : Int} (h : 0 ≤ i) : cutS (SX.S a) none (some i) = SX.S (a.take i.toNat) := by
  have e : i = ((i.toNat : Nat) : Int) := by omega
  rw [e]
  unfold cutS
  rw [HT.sIx_none, HT.sIx_nat, SX.S_len]
  show SX.S ((a.drop 0).take (min i.toNat a.length - 0)) = SX.S (a.take i.toNat)
  rw [List.drop_zero, Nat.sub_zero]
  congr 1
  rw [Nat.min_comm, List.take_eq_take_iff]
  omega
theorem cut_from {a : List Nat} {i : Int} (h : 0 ≤ i) : cutS (SX.S a) (some i) none = SX.S (a.drop i.toNat) := by
  have e : i = ((i.toNat : Nat) : Int) := by omega
  rw [e]
  unfold cutS
  rw [HT.sIx_none, HT.sIx_nat, SX.S_len]
  show SX.S ((a.drop (min i.toNat a.length)).take (a.length - min i.toNat a.length)) = SX.S (a.drop i.toNat)
  congr 1
  by_cases hi : i.toNat ≤ a.length
  · rw [Nat.min_eq_left hi, List.take_of_length_le (by rw [List.length_drop]; omega)]
  · rw [Nat.min_eq_right (by omega), Nat.sub_self, List.take_zero, List.drop_of_length_le (by omega)]
theorem joinL_signs : ∀ cs : List Nat, TL.joinL [] (cs.map fun c => [c]) = cs
  | [] => rfl
  | [c] => rfl
  | c :: d :: r => by
    show [c] ++ [] ++ TL.joinL [] ((d :: r).map fun c => [c]) = c :: d :: r
    rw [joinL_signs (d :: r)]; rfl
theorem join_signs (cs : List Nat) : Txt.join ("" : Str) (cs.map fun c => SX.S [c]) = SX.S cs := by
  have e : (("" : Str)) = SX.S [] := by decide +kernel
  have e2 : (cs.map fun c => SX.S [c]) = (cs.map fun c => [c]).map SX.S := by rw [List.map_map]; rfl
  rw [e, e2, SX.join_S, joinL_signs]
theorem num_S (n : Nat) : ((toString ((n : Nat) : Int) : String) : Str) = SX.S (TL.numL n) := TL.ext_tl (TL.tl_num n)
abbrev abcS : Str := "abcdefghijklmnopqrstuvwxyz"
theorem abc_at : ∀ r : Nat, r < 26 → abcS.cps.toList[r]? = some (97 + r) := by decide +kernel
theorem abc_len : abcS.length ≤ sizeLine := by decide +kernel
def Letters (st : List Nat) : Prop := ∀ c ∈ st, 97 ≤ c ∧ c < 123
theorem Letters.nil : Letters [] := fun _ h => by cases h
theorem Letters.snoc {st : List Nat} {c : Nat} (h : Letters st) (h1 : 97 ≤ c) (h2 : c < 123) : Letters (st ++ [c]) := fun x hx => by
  rcases List.mem_append.mp hx with hx | hx
  · exact h x hx
  · rw [List.mem_singleton.mp hx]; exact ⟨h1, h2⟩
/-- the texts that the helpers make -/
def wordL (st : List Nat) (at' n : Nat) : List Nat := st.take at' ++ TL.numL n ++ st.drop at'
def nameL (st m tl : List Nat) (n : Nat) : List Nat := st ++ m ++ TL.numL n ++ tl
def S_words : VSp := fun ρs R _ => ∃ a b c many before, ρs = [srcD a b c, .sh (.int many), .sh (.int before)] ∧ 0 ≤ many ∧ many ≤ 500000 ∧ 0 ≤ before ∧ before ≤ 1000 ∧
  ∀ a' b' c' (st : List Nat) (at' : Nat) (ws : List (List Nat)), Letters st → 0 < at' → at' ≤ st.length → st.length ≤ 3 → ws.Perm ((List.range many.toNat).map fun k => wordL st at' (1000 + before.toNat * 100 + k)) →
    R (.ow false (.lst ((ws.map SX.S).map D.str))) [srcD a' b' c', .sh (.int many), .sh (.int before)]
def v_words : VS :=
  vSeq (vSet 3 (vC (.str "abcdefghijklmnopqrstuvwxyz")))
    (vSeq (vSet 4 (vM1 joinP (vVal (vC (.str ""))) (vVal (vLc (vItR1 (vCons (vVal (vBin addP (vVal (vC (.int 1))) (vVal (vCall S_pick (vCons (vPk 0) (vCons (vVal (vC (.int 3))) (vNil))))))) (vNil))) (gN 6) (vYes) (vBin ixP (vPk 3) (vVal (vCall S_pick (vCons (vPk 0) (vCons (vVal (vC (.int 26))) (vNil)))))) [6]))))
    (vSeq (vSet 5 (vBin addP (vVal (vC (.int 1))) (vVal (vCall S_pick (vCons (vPk 0) (vCons (vVal (vSh (vPrim lenP (vCons (vPk 4) (vNil))))) (vNil)))))))
    (vRet (vCall S_shuffled (vCons (vPk 0) (vCons (vVal (vSh (vLc (vItR1 (vCons (vPk 1) (vNil))) (gN 6) (vYes) (vBin addP (vVal (vBin addP (vVal (vSl (vPk 4) (vNoPart) (vPart (vVar 5)))) (vVal (vPrim strP (vCons (vVal (vBin addP (vVal (vBin addP (vVal (vC (.int 1000))) (vVal (vBin mulP (vPk 2) (vVal (vC (.int 100))))))) (vPk 6))) (vNil)))))) (vVal (vSl (vPk 4) (vPart (vVar 5)) (vNoPart)))) [6]))) (vNil)))))))
theorem perm_map_inv {α β : Type} (f : α → β) : ∀ {xs : List α} {ys : List β}, ys.Perm (xs.map f) → ∃ zs : List α, zs.Perm xs ∧ ys = zs.map f := by
  intro xs ys h
  generalize hz : xs.map f = zs at h
  induction h generalizing xs with
  | nil => exact ⟨[], by cases xs with | nil => exact .refl _ | cons _ _ => simp at hz, rfl⟩
  | cons x h ih =>
    cases xs with
    | nil => simp at hz
    | cons y xs =>
      rw [List.map_cons] at hz
      injection hz with h1 h2
      obtain ⟨zs, p, e⟩ := ih h2
      exact ⟨y :: zs, p.cons y, by rw [List.map_cons, h1, e]⟩
  | swap x y l =>
    cases xs with
    | nil => simp at hz
    | cons a xs => cases xs with
      | nil => simp at hz
      | cons b xs =>
        simp only [List.map_cons, List.cons.injEq] at hz
        exact ⟨b :: a :: xs, .swap _ _ _, by simp [hz]⟩
  | trans h1 h2 ih1 ih2 =>
    obtain ⟨zs, p, e⟩ := ih2 hz
    obtain ⟨ws, p2, e2⟩ := ih1 e.symm
    exact ⟨ws, p2.trans p, e2⟩
theorem small24 {n : Nat} (h : n ≤ 16777216) : n ≤ sizeLine := h
theorem log2_lt {x : Int} (h : x.natAbs < 2 ^ 62) : x.natAbs.log2 < 1920 := by
  by_cases h0 : x.natAbs = 0
  · rw [h0]; decide
  · exact Nat.lt_of_lt_of_le ((Nat.log2_lt h0).mpr h) (by decide)
theorem sum_ones (cs : List Nat) : ((cs.map fun c => SX.S [c]).map (·.length)).sum = cs.length := by
  induction cs with
  | nil => rfl
  | cons c r ih => simp only [List.map_cons, List.sum_cons, List.length_cons, ih]; show 1 + r.length = _; omega
theorem rd_words : Reads S_words (fun _ => v_words) 4 := fun ρs R _ h => by
  obtain ⟨a, b, c, many, before, rfl, h0, h1, h2, h3, q⟩ := h
  unfold v_words
  show vSeq _ _ _ [srcD a b c, .sh (.int many), .sh (.int before), .un, .un, .un, .un]
  walk_at "ss"
  refine k_call rfl ⟨a, b, c, 3, rfl, by decide, by decide, fun a b c r r0 r1 => ?_⟩
  walk_at "back"
  walk_at "ss"
  refine k_itR1 rfl (by omega) ?_
  refine k_lc (by simp [Slot.free]) (fun j acc ρ' => ∃ a b c cs, ρ' = [srcD a b c, .sh (.int many), .sh (.int before), .sh (.str abcS), .un, .un, .un] ∧ cs.length = j ∧ Letters cs ∧ acc = (cs.map fun c => SX.S [c]).map D.str) ⟨a, b, c, [], rfl, rfl, .nil, rfl⟩ ?_ ?_
  · rintro j acc d ρ' hj ⟨a, b, c, cs, rfl, rfl, hl, rfl⟩
    have hj' : cs.length < (1 + r).toNat := by
      have := (List.getElem?_eq_some_iff.mp hj).1
      rwa [rangeD_len] at this
    walk_at "ss"
    refine k_call rfl ⟨a, b, c, 26, rfl, by decide, by decide, fun a b c r2 r0 r1 => ?_⟩
    walk_at "back"
    walk_at "ss"
    refine p_ixSn abc_len r0 (abc_at r2.toNat (by omega)) ?_
    walk_at "ss"
    refine k_lcE rfl (by simp; show cs.length < 16777216; omega) ?_
    exact ⟨a, b, c, cs ++ [97 + r2.toNat], rfl, by simp, hl.snoc (by omega) (by omega), by simp⟩
  · rintro acc ρ' ⟨a, b, c, cs, rfl, hj, hl, rfl⟩
    rw [rangeD_len] at hj
    walk_at "ss"
    refine p_join (by rw [sum_ones, List.length_map]; show cs.length + cs.length * 0 ≤ _; omega) ?_
    rw [join_signs]
    walk_at "ss"
    refine p_lenS (by rw [SX.S_len]; exact small24 (by omega)) ?_
    rw [SX.S_len]
    walk_at "ss"
    refine k_call rfl ⟨a, b, c, cs.length, rfl, by omega, by omega, fun a b c r2 r20 r21 => ?_⟩
    walk_at "back"
    walk_at "ss"
    refine k_itR1 rfl (by omega) ?_
    refine k_lcM (List.range many.toNat) (fun (i : Nat) => D.int (0 + (i : Int))) (fun _ => true) (fun k => .str (SX.S (wordL cs (1 + r2).toNat (1000 + before.toNat * 100 + k)))) _ rfl (by rw [List.length_range]; show many.toNat < 16777216; omega) (by simp [Slot.free]) (by dsimp only [wipeR, List.set]) ?_ ?_
    · intro x acc I hx hz t1 _
      have hx' : x < many.toNat := List.mem_range.mp hx
      walk_at "ss"
      refine p_slS (by rw [SX.S_len]; exact small24 (by omega)) ?_
      rw [cut_to (by omega)]
      walk_at "ss"
      have en : (1000 + before * 100 + (0 + (x : Int)) : Int) = ((1000 + before.toNat * 100 + x : Nat) : Int) := by omega
      rw [en]
      have ln : (TL.numL (1000 + before.toNat * 100 + x)).length ≤ 7 := TL.numL_len (by decide) (by omega)
      refine p_strI (log2_lt (by omega)) ?_
      rw [num_S]
      walk_at "ss"
      refine p_addS (by rw [SX.S_len, SX.S_len, List.length_take]; exact small24 (by omega)) ?_
      rw [SX.S_cat]
      walk_at "ss"
      refine p_slS (by rw [SX.S_len]; exact small24 (by omega)) ?_
      rw [cut_from (by omega)]
      walk_at "ss"
      refine p_addS (by rw [SX.S_len, SX.S_len, List.length_append, List.length_take, List.length_drop]; exact small24 (by omega)) ?_
      rw [SX.S_cat]
      walk_at "ss"
      refine k_lcE rfl hz ?_
      exact t1 rfl
    · walk_at "ss"
      refine k_call rfl ⟨a, b, c, _, rfl, by rw [List.length_map, List.filter_eq_self.mpr (fun _ _ => rfl), List.length_range]; omega, fun a b c es hp => ?_⟩
      walk_at "back"
      have hp2 := (perm_map_inv _ hp)
      obtain ⟨zs, hz, rfl⟩ := hp2
      rw [List.filter_eq_self.mpr (fun _ _ => rfl)] at hz
      have e : (zs.map fun k => D.str (SX.S (wordL cs (1 + r2).toNat (1000 + before.toNat * 100 + k)))) = (((zs.map fun k => wordL cs (1 + r2).toNat (1000 + before.toNat * 100 + k)).map SX.S).map D.str) := by rw [List.map_map, List.map_map]; rfl
      rw [e]
      exact q _ _ _ cs (1 + r2).toNat _ hl (by omega) (by omega) (by omega) (hz.map _)
def markL : List (List Nat) := [[46], [47], [45], [95]]
def tailL : List (List Nat) := [[], [120], [46, 99], [47, 113]]
def S_names : VSp := fun ρs R _ => ∃ a b c many before, ρs = [srcD a b c, .sh (.int many), .sh (.int before)] ∧ 0 ≤ many ∧ many ≤ 500000 ∧ 0 ≤ before ∧ before ≤ 1000 ∧
  ∀ (a' b' c' : Int) (st m tl : List Nat) (ws : List (List Nat)), Letters st → 0 < st.length → st.length ≤ 2 → m ∈ markL → tl ∈ tailL → ws.Perm ((List.range many.toNat).map fun k => nameL st m tl (1000 + before.toNat * 100 + k)) →
    R (.ow false (.lst ((ws.map SX.S).map D.str))) [srcD a' b' c', .sh (.int many), .sh (.int before)]
theorem mark_D : [D.str ".", D.str "/", D.str "-", D.str "_"] = (markL.map SX.S).map D.str := by
  have h : (("." : Str) = SX.S [46]) ∧ (("/" : Str) = SX.S [47]) ∧ (("-" : Str) = SX.S [45]) ∧ (("_" : Str) = SX.S [95]) := by decide +kernel
  rw [h.1, h.2.1, h.2.2.1, h.2.2.2]; rfl
theorem tail_D : [D.str "", D.str "x", D.str ".c", D.str "/q"] = (tailL.map SX.S).map D.str := by
  have h : (("" : Str) = SX.S []) ∧ (("x" : Str) = SX.S [120]) ∧ ((".c" : Str) = SX.S [46, 99]) ∧ (("/q" : Str) = SX.S [47, 113]) := by decide +kernel
  rw [h.1, h.2.1, h.2.2.1, h.2.2.2]; rfl
theorem mem_texts {d : D} {ls : List (List Nat)} (h : d ∈ (ls.map SX.S).map D.str) : ∃ l ∈ ls, d = .str (SX.S l) := by
  rw [List.map_map] at h
  obtain ⟨l, hl, e⟩ := List.mem_map.mp h
  exact ⟨l, hl, e.symm⟩
theorem markL_len {m : List Nat} (h : m ∈ markL) : m.length = 1 := by
  revert m; decide
theorem tailL_len {m : List Nat} (h : m ∈ tailL) : m.length ≤ 2 := by
  revert m; decide
def v_names : VS :=
  vSeq (vSet 3 (vC (.str "abcdefghijklmnopqrstuvwxyz")))
    (vSeq (vSet 4 (vM1 joinP (vVal (vC (.str ""))) (vVal (vLc (vItR1 (vCons (vVal (vBin addP (vVal (vC (.int 1))) (vVal (vCall S_pick (vCons (vPk 0) (vCons (vVal (vC (.int 2))) (vNil))))))) (vNil))) (gN 7) (vYes) (vBin ixP (vPk 3) (vVal (vCall S_pick (vCons (vPk 0) (vCons (vVal (vC (.int 26))) (vNil)))))) [7]))))
    (vSeq (vSet 5 (vCall S_choice (vCons (vPk 0) (vCons (vVal (vSh (vLst (vCons (vVal (vC (.str "."))) (vCons (vVal (vC (.str "/"))) (vCons (vVal (vC (.str "-"))) (vCons (vVal (vC (.str "_"))) (vNil)))))))) (vNil)))))
    (vSeq (vSet 6 (vCall S_choice (vCons (vPk 0) (vCons (vVal (vSh (vLst (vCons (vVal (vC (.str ""))) (vCons (vVal (vC (.str "x"))) (vCons (vVal (vC (.str ".c"))) (vCons (vVal (vC (.str "/q"))) (vNil)))))))) (vNil)))))
    (vRet (vCall S_shuffled (vCons (vPk 0) (vCons (vVal (vSh (vLc (vItR1 (vCons (vPk 1) (vNil))) (gN 7) (vYes) (vBin addP (vVal (vBin addP (vVal (vBin addP (vPk 4) (vPk 5))) (vVal (vPrim strP (vCons (vVal (vBin addP (vVal (vBin addP (vVal (vC (.int 1000))) (vVal (vBin mulP (vPk 2) (vVal (vC (.int 100))))))) (vPk 7))) (vNil)))))) (vPk 6)) [7]))) (vNil))))))))
theorem rd_names : Reads S_names (fun _ => v_names) 5 := fun ρs R _ h => by
  obtain ⟨a, b, c, many, before, rfl, h0, h1, h2, h3, q⟩ := h
  unfold v_names
  show vSeq _ _ _ [srcD a b c, .sh (.int many), .sh (.int before), .un, .un, .un, .un, .un]
  walk_at "ss"
  refine k_call rfl ⟨a, b, c, 2, rfl, by decide, by decide, fun a b c r r0 r1 => ?_⟩
  walk_at "back"
  walk_at "ss"
  refine k_itR1 rfl (by omega) ?_
  refine k_lc (by simp [Slot.free]) (fun j acc ρ' => ∃ a b c cs, ρ' = [srcD a b c, .sh (.int many), .sh (.int before), .sh (.str abcS), .un, .un, .un, .un] ∧ cs.length = j ∧ Letters cs ∧ acc = (cs.map fun c => SX.S [c]).map D.str) ⟨a, b, c, [], rfl, rfl, .nil, rfl⟩ ?_ ?_
  · rintro j acc d ρ' hj ⟨a, b, c, cs, rfl, rfl, hl, rfl⟩
    have hj' : cs.length < (1 + r).toNat := by
      have := (List.getElem?_eq_some_iff.mp hj).1
      rwa [rangeD_len] at this
    walk_at "ss"
    refine k_call rfl ⟨a, b, c, 26, rfl, by decide, by decide, fun a b c r2 r0 r1 => ?_⟩
    walk_at "back"
    walk_at "ss"
    refine p_ixSn abc_len r0 (abc_at r2.toNat (by omega)) ?_
    walk_at "ss"
    refine k_lcE rfl (by simp; show cs.length < 16777216; omega) ?_
    exact ⟨a, b, c, cs ++ [97 + r2.toNat], rfl, by simp, hl.snoc (by omega) (by omega), by simp⟩
  · rintro acc ρ' ⟨a, b, c, cs, rfl, hj, hl, rfl⟩
    rw [rangeD_len] at hj
    walk_at "ss"
    refine p_join (by rw [sum_ones, List.length_map]; show cs.length + cs.length * 0 ≤ _; omega) ?_
    rw [join_signs]
    walk_at "ss"
    rw [mark_D]
    refine k_call rfl ⟨a, b, c, _, rfl, by decide, by decide, fun a b c d hd => ?_⟩
    obtain ⟨m, hm, rfl⟩ := mem_texts hd
    walk_at "back"
    walk_at "ss"
    rw [tail_D]
    refine k_call rfl ⟨a, b, c, _, rfl, by decide, by decide, fun a b c d hd => ?_⟩
    obtain ⟨tl, ht, rfl⟩ := mem_texts hd
    walk_at "back"
    walk_at "ss"
    have lm := markL_len hm
    have lt := tailL_len ht
    refine k_itR1 rfl (by omega) ?_
    refine k_lcM (List.range many.toNat) (fun (i : Nat) => D.int (0 + (i : Int))) (fun _ => true) (fun k => .str (SX.S (nameL cs m tl (1000 + before.toNat * 100 + k)))) _ rfl (by rw [List.length_range]; show many.toNat < 16777216; omega) (by simp [Slot.free]) (by dsimp only [wipeR, List.set]) ?_ ?_
    · intro x acc I hx hz t1 _
      have hx' : x < many.toNat := List.mem_range.mp hx
      walk_at "ss"
      refine p_addS (by rw [SX.S_len, SX.S_len]; exact small24 (by omega)) ?_
      rw [SX.S_cat]
      walk_at "ss"
      have en : (1000 + before * 100 + (0 + (x : Int)) : Int) = ((1000 + before.toNat * 100 + x : Nat) : Int) := by omega
      rw [en]
      have ln : (TL.numL (1000 + before.toNat * 100 + x)).length ≤ 7 := TL.numL_len (by decide) (by omega)
      refine p_strI (log2_lt (by omega)) ?_
      rw [num_S]
      walk_at "ss"
      refine p_addS (by rw [SX.S_len, SX.S_len, List.length_append]; exact small24 (by omega)) ?_
      rw [SX.S_cat]
      walk_at "ss"
      refine p_addS (by rw [SX.S_len, SX.S_len, List.length_append, List.length_append]; exact small24 (by omega)) ?_
      rw [SX.S_cat]
      walk_at "ss"
      refine k_lcE rfl hz ?_
      exact t1 rfl
    · walk_at "ss"
      refine k_call rfl ⟨a, b, c, _, rfl, by rw [List.length_map, List.filter_eq_self.mpr (fun _ _ => rfl), List.length_range]; omega, fun a b c es hp => ?_⟩
      walk_at "back"
      have hp2 := (perm_map_inv _ hp)
      obtain ⟨zs, hz, rfl⟩ := hp2
      rw [List.filter_eq_self.mpr (fun _ _ => rfl)] at hz
      have e : (zs.map fun k => D.str (SX.S (nameL cs m tl (1000 + before.toNat * 100 + k)))) = (((zs.map fun k => nameL cs m tl (1000 + before.toNat * 100 + k)).map SX.S).map D.str) := by rw [List.map_map, List.map_map]; rfl
      rw [e]
      exact q _ _ _ cs m tl _ hl (by omega) (by omega) hm ht (hz.map _)
end WL


set_option Elab.async false
set_option linter.all false
set_option maxRecDepth 100000
set_option maxHeartbeats 4000000
/-! HV: the helpers that the laws share: what they promise, and that they keep it. -/
namespace WL
open PySem PySem.Spec PyProof.Rows L2
variable [TBs]
local macro_rules | `(tactic| walk_at "s") => `(tactic| first
  | ((with_reducible show vSeq _ _ _ _); refine u_seq ?_)
  | ((with_reducible show vSet _ _ _ _); refine u_set ?_)
  | ((with_reducible show kSet _ _ _ _); refine k_set rfl rfl ?_)
  | ((with_reducible show vRet _ _ _); refine u_ret ?_)
  | ((with_reducible show vIf _ _ _ _ _); refine u_if ?_)
  | ((with_reducible show vExpr _ _ _); refine u_expr ?_)
  | ((with_reducible show kExpr _ _ _); refine k_expr ?_)
  | ((with_reducible show vRetN _ _); refine u_retN ?_)
  | ((with_reducible show vAsg _ _ _ _); refine u_asg ?_)
  | ((with_reducible show kAsg _ _ _ _); refine k_asg rfl ?_)
  | ((with_reducible show vNext _ _); refine u_next ?_)
  | ((with_reducible show vBreak _ _); refine u_break ?_)
  | ((with_reducible show vCont _ _); refine u_cont ?_)
  | ((with_reducible show kIf _ _ _ _ _); (first | refine k_ifT ?_ | refine k_ifF ?_))
  | ((with_reducible show vVal _ _ _); refine u_val ?_)
  | ((with_reducible show kVal _ _ _); refine k_val ?_)
  | ((with_reducible show vPk _ _ _); refine u_pk rfl rfl ?_)
  | ((with_reducible show vC _ _ _); refine u_c ?_)
  | ((with_reducible show vVar _ _ _); (first | refine u_var rfl ?_ | refine u_varL rfl ?_ | refine u_varD rfl ?_ | refine u_varE rfl ?_))
  | ((with_reducible show vMv _ _ _); (first | refine u_mv rfl ?_ | refine u_mvO rfl ?_))
  | ((with_reducible show vBin _ _ _ _ _); refine u_bin ?_)
  | ((with_reducible show kBin1 _ _ _ _ _); refine k_bin1 ?_)
  | ((with_reducible show kBin2 _ _ _ _ _); refine k_bin2 rfl rfl ?_)
  | ((with_reducible show vUn _ _ _ _); refine u_un ?_)
  | ((with_reducible show kUn _ _ _ _); refine k_un rfl ?_)
  | ((with_reducible show vCons _ _ _ _); refine u_cons ?_)
  | ((with_reducible show kCons1 _ _ _ _); refine k_cons1 ?_)
  | ((with_reducible show vNil _ _); refine u_nil ?_)
  | ((with_reducible show kCons2 _ _ _ _); refine k_cons2 ?_)
  | ((with_reducible show vPrim _ _ _ _); refine u_prim ?_)
  | ((with_reducible show kPrim _ _ _ _); (first | refine k_prim1 rfl ?_ | refine k_prim2 rfl rfl ?_))
  | ((with_reducible show kRet _ _ _); (first | refine k_retV ?_ | refine k_retL ?_ | refine k_retT ?_ | refine k_retD ?_))
  | ((with_reducible show vSh _ _ _); refine u_sh ?_)
  | ((with_reducible show kSh _ _ _); (first | refine k_sh ?_ | refine k_shL ?_ | refine k_shD ?_))
  | ((with_reducible show vT _ _ _); refine u_t ?_)
  | ((with_reducible show kT _ _ _); refine k_t ?_)
  | ((with_reducible show vTru _ _ _); refine u_tru ?_)
  | ((with_reducible show kTru _ _ _); refine k_tru rfl rfl ?_)
  | ((with_reducible show vAnd _ _ _ _); refine u_and ?_)
  | ((with_reducible show kAnd _ _ _ _); (first | refine k_andT ?_ | refine k_andF ?_))
  | ((with_reducible show vOr _ _ _ _); refine u_or ?_)
  | ((with_reducible show kOr _ _ _ _); (first | refine k_orT ?_ | refine k_orF ?_))
  | ((with_reducible show vNot _ _ _); refine u_not ?_)
  | ((with_reducible show kNot _ _ _); refine k_not ?_)
  | ((with_reducible show vAndV _ _ _ _); refine u_andV ?_)
  | ((with_reducible show kAndV _ _ _ _); (first | refine k_andVT ?_ | refine k_andVF ?_))
  | ((with_reducible show kOrV _ _ _ _); (first | refine k_orVT ?_ | refine k_orVF ?_))
  | ((with_reducible show vOrV _ _ _ _); refine u_orV ?_)
  | ((with_reducible show vNotV _ _ _); refine u_notV ?_)
  | ((with_reducible show kNotV _ _ _); refine k_notV ?_)
  | ((with_reducible show vIfE _ _ _ _ _); refine u_ifE ?_)
  | ((with_reducible show kIfE _ _ _ _ _); (first | refine k_ifET ?_ | refine k_ifEF ?_))
  | ((with_reducible show vLst _ _ _); refine u_lst ?_)
  | ((with_reducible show kLst _ _ _); refine k_lst rfl (by simp only [List.length_cons, List.length_nil]; decide) ?_)
  | ((with_reducible show vTup _ _ _); refine u_tup ?_)
  | ((with_reducible show kTup _ _ _); refine k_tup rfl (by simp only [List.length_cons, List.length_nil]; decide) ?_)
  | ((with_reducible show vNewD _ _); refine u_newD ?_)
  | ((with_reducible show vSl _ _ _ _ _); refine u_sl ?_)
  | ((with_reducible show kSl0 _ _ _ _ _); refine k_sl0 ?_)
  | ((with_reducible show kSl1 _ _ _ _ _); refine k_sl1 ?_)
  | ((with_reducible show kSl2 _ _ _ _ _); refine k_sl2 rfl ?_)
  | ((with_reducible show vNoPart _ _); refine u_noPart ?_)
  | ((with_reducible show vPart _ _ _); refine u_part ?_)
  | ((with_reducible show kPart _ _ _); refine k_part ?_)
  | ((with_reducible show vApp _ _ _ _); refine u_app rfl ?_)
  | ((with_reducible show vPopAt _ _ _ _); refine u_popAt rfl ?_)
  | ((with_reducible show vExt _ _ _ _); refine u_ext rfl ?_)
  | ((with_reducible show vM1 _ _ _ _ _); refine u_m1 ?_)
  | ((with_reducible show kM1a _ _ _ _ _); refine k_m1a rfl ?_)
  | ((with_reducible show kM1b _ _ _ _ _); refine k_m1b rfl rfl ?_)
  | ((with_reducible show vGet2 _ _ _ _ _); refine u_get2 ?_)
  | ((with_reducible show kGet1 _ _ _ _ _); refine k_get1 rfl ?_)
  | ((with_reducible show kGet2 _ _ _ _ _); refine k_get2 ?_)
  | ((with_reducible show vSetL _ _ _ _ _); refine u_setL ?_)
  | ((with_reducible show kSetL1 _ _ _ _ _); refine k_setL1 rfl ?_)
  | ((with_reducible show kSetL2 _ _ _ _ _); (first | refine k_setL2j 0 rfl rfl (by simp) rfl ?_ | refine k_setL2j 1 rfl rfl (by simp) rfl ?_ | refine k_setL2j 2 rfl rfl (by simp) rfl ?_))
  | ((with_reducible show vPutD _ _ _ _ _); refine u_putD ?_)
  | ((with_reducible show kPutD1 _ _ _ _ _); refine k_putD1 rfl ?_)
  | ((with_reducible show vAugL _ _ _ _ _ _); refine u_augL rfl ?_)
  | ((with_reducible show kAugL1 _ _ _ _ _ _); (first | refine k_augL1j 0 rfl rfl rfl ?_ | refine k_augL1j 1 rfl rfl rfl ?_ | refine k_augL1j 2 rfl rfl rfl ?_))
  | ((with_reducible show kAugL2 _ _ _ _ _ _ _); refine k_augL2j rfl (by simp) ?_)
  | ((with_reducible show vAug _ _ _ _ _); refine u_aug rfl ?_)
  | ((with_reducible show kAug _ _ _ _ _ _); (first | refine k_augAdd rfl ?_ | refine k_augSub rfl ?_))
  | ((with_reducible show vCall _ _ _ _); refine u_call ?_)
  | ((with_reducible show gN _ _ _ _); refine u_gN rfl rfl ?_)
  | ((with_reducible show gT _ _ _ _); refine u_gT rfl ?_)
  | ((with_reducible show gL _ _ _ _); refine u_gL rfl rfl ?_)
  | ((with_reducible show gTs _ _ _ _); (first | refine u_gTs0 ?_ | refine u_gTs ?_))
  | ((with_reducible show vItL _ _ _); refine u_itL ?_)
  | ((with_reducible show kItL _ _ _); refine k_itL rfl rfl ?_)
  | ((with_reducible show vItT _ _ _); refine u_itT ?_)
  | ((with_reducible show kItT _ _ _); refine k_itT rfl rfl ?_)
  | ((with_reducible show vItR1 _ _ _); refine u_itR1 ?_)
  | ((with_reducible show vItR2 _ _ _); refine u_itR2 ?_)
  | ((with_reducible show vFor _ _ _ _ _); refine u_for ?_)
  | ((with_reducible show vLc _ _ _ _ _ _ _); refine u_lc ?_)
  | ((with_reducible show vLcK _ _ _ _ _ _ _); refine u_lcK rfl ?_)
  | ((with_reducible show vYes _ _); refine u_yes ?_)
  | ((with_reducible show kLcT _ _ _ _ _ _); refine k_lcTT ?_)
  | ((with_reducible show addP _ _); refine p_addI ?_)
  | ((with_reducible show subP _ _); refine p_subI ?_)
  | ((with_reducible show mulP _ _); (first | refine p_mulI (.inl (.inl (by omega))) ?_ | refine p_mulI (.inl (.inr (by omega))) ?_))
  | ((with_reducible show modP _ _); refine p_modI (by omega) ?_)
  | ((with_reducible show divP _ _); refine p_divI (.inl (by constructor <;> omega)) ?_)
  | ((with_reducible show negP _ _); refine p_negI ?_)
  | ((with_reducible show ltP _ _); refine p_ltI ?_)
  | ((with_reducible show leP _ _); refine p_leI ?_)
  | ((with_reducible show gtP _ _); refine p_gtI ?_)
  | ((with_reducible show geP _ _); refine p_geI ?_)
  | ((with_reducible show eqP _ _); (first | refine p_eqI ?_ | refine p_eqS ?_ | refine p_eqB ?_ | refine p_eqN ?_))
  | ((with_reducible show neP _ _); (first | refine p_neI ?_ | refine p_neS ?_ | refine p_neB ?_))
  | ((with_reducible show isNP _ _); (first | refine p_isNn ?_ | refine p_isNi ?_ | refine p_isNs ?_ | refine p_isNb ?_ | refine p_isNl ?_ | refine p_isNt ?_ | refine p_isNd ?_))
  | ((with_reducible show notNP _ _); (first | refine p_notNn ?_ | refine p_notNi ?_ | refine p_notNs ?_ | refine p_notNb ?_ | refine p_notNl ?_ | refine p_notNt ?_ | refine p_notNd ?_))
  | ((with_reducible show isiP _ _); refine p_isi rfl rfl ?_)
  | ((with_reducible show isiTP _ _); refine p_isiT rfl rfl ?_)
  | ((with_reducible show reprP _ _); (first | refine p_reprB ?_ | refine p_reprN ?_))
  | ((with_reducible show lenP _ _); (first | refine p_lenL ?_ | refine p_lenF ?_ | refine p_lenT ?_ | refine p_lenD ?_))
  | ((with_reducible show absP _ _); refine p_absI ?_)
  | ((with_reducible show intP _ _); refine p_intI ?_)
  | ((with_reducible show listP _ _); (first | refine p_listL ?_ | refine p_listF ?_ | refine p_listD ?_))
  | ((with_reducible show ixP _ _); (first | refine p_ixLj 0 rfl rfl ?_ | refine p_ixLj 1 rfl rfl ?_ | refine p_ixLj 2 rfl rfl ?_ | refine p_ixLj 3 rfl rfl ?_ | refine p_ixTj 0 rfl rfl ?_ | refine p_ixTj 1 rfl rfl ?_ | refine p_ixTj 2 rfl rfl ?_ | refine p_ixTj 3 rfl rfl ?_))
  | ((with_reducible show inP _ _ _); (first | refine p_inS0 ?_ | refine p_inS1 ?_ | refine p_inI0 ?_ | refine p_inI1 ?_ | refine p_inD0 rfl ?_ | refine p_inD1 rfl ?_))
  | ((with_reducible show slP _ _ _ _); (first | refine p_slL ?_ | refine p_slF ?_))
  | ((with_reducible show sumP _ _); refine p_sum ?_)
  | ((with_reducible show maxP _ _); refine p_max2 ?_)
  | ((with_reducible show minP _ _); refine p_min2 ?_)
  | ((with_reducible show allP _ _); refine p_all ?_)
  | ((with_reducible show anyP _ _); refine p_any ?_))
local macro_rules | `(tactic| walk_at "ss") => `(tactic| repeat walk_at "s")
local macro_rules | `(tactic| walk_at "back") => `(tactic| refine k_back ?_ (by dsimp only [takeBack, backS, List.set, List.getElem?_cons_zero, List.getElem?_cons_succ]))
def v_source : VS :=
  vSeq (vSet 2 (vIfE (vT (vBin ltP (vPk 1) (vVal (vPrim lenP (vCons (vPk 0) (vNil)))))) (vPrim intP (vCons (vVal (vBin ixP (vPk 0) (vPk 1))) (vNil))) (vBin addP (vVal (vBin mulP (vVal (vC (.int 31))) (vVal (vPrim sumP (vCons (vVal (vLc (vItL (vSl (vPk 0) (vNoPart) (vPart (vC (.int 6))))) (gN 5) (vYes) (vBin modP (vVal (vPrim intP (vCons (vPk 5) (vNil)))) (vVal (vC (.int 999979)))) [5])) (vNil)))))) (vVal (vC (.int 17))))))
    (vSeq (vSet 3 (vBin modP (vVal (vPrim absP (vCons (vPk 2) (vNil)))) (vVal (vBin mulP (vVal (vBin powP (vVal (vC (.int 10))) (vVal (vC (.int 60))))) (vVal (vBin powP (vVal (vC (.int 10))) (vVal (vC (.int 60)))))))))
    (vSeq (vSet 4 (vBin modP (vVal (vPrim intP (vCons (vVal (vBin addP (vVal (vBin addP (vVal (vBin addP (vVal (vBin mulP (vVal (vC (.int 2))) (vPk 3))) (vVal (vIfE (vT (vBin ltP (vPk 2) (vVal (vC (.int 0))))) (vC (.int 1)) (vC (.int 0)))))) (vVal (vBin mulP (vPk 1) (vVal (vC (.int 130363))))))) (vVal (vC (.int 65539))))) (vNil)))) (vVal (vC (.int 2147483629)))))
    (vRet (vLst (vCons (vVal (vIfE (vT (vBin geP (vPk 3) (vVal (vBin powP (vVal (vC (.int 10))) (vVal (vC (.int 18))))))) (vVar 3) (vC (.int 0)))) (vCons (vVal (vBin modP (vVal (vPrim intP (vCons (vVal (vBin mulP (vVal (vBin addP (vPk 4) (vVal (vC (.int 7919))))) (vVal (vBin addP (vPk 4) (vVal (vC (.int 104729))))))) (vNil)))) (vVal (vC (.int 2147483629))))) (vCons (vVal (vVar 1)) (vNil))))))))
def S_source : VSp := fun ρs R _ => ∃ (ns : List Int) (at' : Int), ρs = [.sh (.fls (ns.map D.int)), .sh (.int at')] ∧ ns.length ≤ 1000 ∧ 0 ≤ at' ∧ at' ≤ 1000000 ∧
  ∀ a b : Int, R (.ow false (.lst [.int a, .int b, .int at'])) [.sh (.fls (ns.map D.int)), .sh (.int at')]
theorem cutL_map {α : Type} (f : α → D) (xs : List α) (lo hi : Option Int) : cutL (xs.map f) lo hi = (cutL xs lo hi).map f := by
  unfold cutL
  rw [List.length_map, ← List.map_drop, ← List.map_take]
theorem cutL_len {α : Type} (xs : List α) (lo hi : Option Int) : (cutL xs lo hi).length ≤ xs.length := by
  unfold cutL
  rw [List.length_take, List.length_drop]; omega
theorem rd_source : Reads S_source (fun _ => v_source) 4 := fun ρs R _ h => by
  obtain ⟨ns, at', rfl, h0, h1, h2, q⟩ := h
  unfold v_source
  show vSeq _ _ _ [.sh (.fls (ns.map D.int)), .sh (.int at'), .un, .un, .un, .un]
  walk_at "ss"
  refine k_ifEJ (fun s ρ' => ∃ n : Int, s = .sh (.int n) ∧ ρ' = [.sh (.fls (ns.map D.int)), .sh (.int at'), .un, .un, .un, .un]) (fun h K hK => ?_) (fun h K hK => ?_) (fun s ρ' hs => ?_)
  · rw [List.length_map] at h
    walk_at "ss"
    have hx : at'.toNat < ns.length := by omega
    refine p_ixFn h1 (by rw [List.getElem?_map, List.getElem?_eq_getElem hx]; rfl) ?_
    walk_at "ss"
    exact hK _ _ ⟨_, rfl, rfl⟩
  · walk_at "ss"
    rw [cutL_map]
    refine k_lcM (cutL ns none (some 6)) D.int (fun _ => true) (fun n => .int (n % 999979)) _ rfl (Nat.lt_of_le_of_lt (cutL_len _ _ _) (by show ns.length < 16777216; omega)) (by simp [Slot.free]) (by dsimp only [wipeR, List.set]) ?_ ?_
    · intro x acc I hx hz t1 _
      walk_at "ss"
      exact k_lcE rfl hz (t1 rfl)
    · rw [List.filter_eq_self.mpr (fun _ _ => rfl), show (fun n : Int => D.int (n % 999979)) = D.int ∘ (fun n : Int => n % 999979) from rfl, ← List.map_map]
      walk_at "ss"
      exact hK _ _ ⟨_, rfl, rfl⟩
  · obtain ⟨cell, rfl, rfl⟩ := hs
    walk_at "ss"
    refine p_powI (by unfold CPow; decide) ?_
    walk_at "ss"
    refine p_powI (by unfold CPow; decide) ?_
    walk_at "ss"
    refine p_mulI (.inr (by unfold CMulW; decide +kernel)) ?_
    walk_at "ss"
    refine p_modI (by decide +kernel) ?_
    walk_at "ss"
    refine k_ifEI (fun s => ∃ n : Int, s = .sh (.int n)) (fun h K hK => ?_) (fun h K hK => ?_) (fun s hs => ?_)
    · walk_at "ss"
      exact hK _ ⟨_, rfl⟩
    · walk_at "ss"
      exact hK _ ⟨_, rfl⟩
    · obtain ⟨n, rfl⟩ := hs
      walk_at "ss"
      refine p_powI (by unfold CPow; decide) ?_
      walk_at "ss"
      refine k_ifEI (fun s => ∃ n : Int, s = .sh (.int n)) (fun h K hK => ?_) (fun h K hK => ?_) (fun s hs => ?_)
      · walk_at "ss"
        exact hK _ ⟨_, rfl⟩
      · walk_at "ss"
        exact hK _ ⟨_, rfl⟩
      · obtain ⟨n, rfl⟩ := hs
        walk_at "ss"
        exact q _ _
end WL


set_option Elab.async false
set_option linter.all false
set_option maxRecDepth 100000
set_option maxHeartbeats 4000000
/-! HV: the helpers that the laws share: what they promise, and that they keep it. -/
namespace WL
open PySem PySem.Spec PyProof.Rows L2
variable [TBs]
local macro_rules | `(tactic| walk_at "s") => `(tactic| first
  | ((with_reducible show vSeq _ _ _ _); refine u_seq ?_)
  | ((with_reducible show vSet _ _ _ _); refine u_set ?_)
  | ((with_reducible show kSet _ _ _ _); refine k_set rfl rfl ?_)
  | ((with_reducible show vRet _ _ _); refine u_ret ?_)
  | ((with_reducible show vIf _ _ _ _ _); refine u_if ?_)
  | ((with_reducible show vExpr _ _ _); refine u_expr ?_)
  | ((with_reducible show kExpr _ _ _); refine k_expr ?_)
  | ((with_reducible show vRetN _ _); refine u_retN ?_)
  | ((with_reducible show vAsg _ _ _ _); refine u_asg ?_)
  | ((with_reducible show kAsg _ _ _ _); refine k_asg rfl ?_)
  | ((with_reducible show vNext _ _); refine u_next ?_)
  | ((with_reducible show vBreak _ _); refine u_break ?_)
  | ((with_reducible show vCont _ _); refine u_cont ?_)
  | ((with_reducible show kIf _ _ _ _ _); (first | refine k_ifT ?_ | refine k_ifF ?_))
  | ((with_reducible show vVal _ _ _); refine u_val ?_)
  | ((with_reducible show kVal _ _ _); refine k_val ?_)
  | ((with_reducible show vPk _ _ _); refine u_pk rfl rfl ?_)
  | ((with_reducible show vC _ _ _); refine u_c ?_)
  | ((with_reducible show vVar _ _ _); (first | refine u_var rfl ?_ | refine u_varL rfl ?_ | refine u_varD rfl ?_ | refine u_varE rfl ?_))
  | ((with_reducible show vMv _ _ _); (first | refine u_mv rfl ?_ | refine u_mvO rfl ?_))
  | ((with_reducible show vBin _ _ _ _ _); refine u_bin ?_)
  | ((with_reducible show kBin1 _ _ _ _ _); refine k_bin1 ?_)
  | ((with_reducible show kBin2 _ _ _ _ _); refine k_bin2 rfl rfl ?_)
  | ((with_reducible show vUn _ _ _ _); refine u_un ?_)
  | ((with_reducible show kUn _ _ _ _); refine k_un rfl ?_)
  | ((with_reducible show vCons _ _ _ _); refine u_cons ?_)
  | ((with_reducible show kCons1 _ _ _ _); refine k_cons1 ?_)
  | ((with_reducible show vNil _ _); refine u_nil ?_)
  | ((with_reducible show kCons2 _ _ _ _); refine k_cons2 ?_)
  | ((with_reducible show vPrim _ _ _ _); refine u_prim ?_)
  | ((with_reducible show kPrim _ _ _ _); (first | refine k_prim1 rfl ?_ | refine k_prim2 rfl rfl ?_))
  | ((with_reducible show kRet _ _ _); (first | refine k_retV ?_ | refine k_retL ?_ | refine k_retT ?_ | refine k_retD ?_))
  | ((with_reducible show vSh _ _ _); refine u_sh ?_)
  | ((with_reducible show kSh _ _ _); (first | refine k_sh ?_ | refine k_shL ?_ | refine k_shD ?_))
  | ((with_reducible show vT _ _ _); refine u_t ?_)
  | ((with_reducible show kT _ _ _); refine k_t ?_)
  | ((with_reducible show vTru _ _ _); refine u_tru ?_)
  | ((with_reducible show kTru _ _ _); refine k_tru rfl rfl ?_)
  | ((with_reducible show vAnd _ _ _ _); refine u_and ?_)
  | ((with_reducible show kAnd _ _ _ _); (first | refine k_andT ?_ | refine k_andF ?_))
  | ((with_reducible show vOr _ _ _ _); refine u_or ?_)
  | ((with_reducible show kOr _ _ _ _); (first | refine k_orT ?_ | refine k_orF ?_))
  | ((with_reducible show vNot _ _ _); refine u_not ?_)
  | ((with_reducible show kNot _ _ _); refine k_not ?_)
  | ((with_reducible show vAndV _ _ _ _); refine u_andV ?_)
  | ((with_reducible show kAndV _ _ _ _); (first | refine k_andVT ?_ | refine k_andVF ?_))
  | ((with_reducible show kOrV _ _ _ _); (first | refine k_orVT ?_ | refine k_orVF ?_))
  | ((with_reducible show vOrV _ _ _ _); refine u_orV ?_)
  | ((with_reducible show vNotV _ _ _); refine u_notV ?_)
  | ((with_reducible show kNotV _ _ _); refine k_notV ?_)
  | ((with_reducible show vIfE _ _ _ _ _); refine u_ifE ?_)
  | ((with_reducible show kIfE _ _ _ _ _); (first | refine k_ifET ?_ | refine k_ifEF ?_))
  | ((with_reducible show vLst _ _ _); refine u_lst ?_)
  | ((with_reducible show kLst _ _ _); refine k_lst rfl (by simp only [List.length_cons, List.length_nil]; decide) ?_)
  | ((with_reducible show vTup _ _ _); refine u_tup ?_)
  | ((with_reducible show kTup _ _ _); refine k_tup rfl (by simp only [List.length_cons, List.length_nil]; decide) ?_)
  | ((with_reducible show vNewD _ _); refine u_newD ?_)
  | ((with_reducible show vSl _ _ _ _ _); refine u_sl ?_)
  | ((with_reducible show kSl0 _ _ _ _ _); refine k_sl0 ?_)
  | ((with_reducible show kSl1 _ _ _ _ _); refine k_sl1 ?_)
  | ((with_reducible show kSl2 _ _ _ _ _); refine k_sl2 rfl ?_)
  | ((with_reducible show vNoPart _ _); refine u_noPart ?_)
  | ((with_reducible show vPart _ _ _); refine u_part ?_)
  | ((with_reducible show kPart _ _ _); refine k_part ?_)
  | ((with_reducible show vApp _ _ _ _); refine u_app rfl ?_)
  | ((with_reducible show vPopAt _ _ _ _); refine u_popAt rfl ?_)
  | ((with_reducible show vExt _ _ _ _); refine u_ext rfl ?_)
  | ((with_reducible show vM1 _ _ _ _ _); refine u_m1 ?_)
  | ((with_reducible show kM1a _ _ _ _ _); refine k_m1a rfl ?_)
  | ((with_reducible show kM1b _ _ _ _ _); refine k_m1b rfl rfl ?_)
  | ((with_reducible show vGet2 _ _ _ _ _); refine u_get2 ?_)
  | ((with_reducible show kGet1 _ _ _ _ _); refine k_get1 rfl ?_)
  | ((with_reducible show kGet2 _ _ _ _ _); refine k_get2 ?_)
  | ((with_reducible show vSetL _ _ _ _ _); refine u_setL ?_)
  | ((with_reducible show kSetL1 _ _ _ _ _); refine k_setL1 rfl ?_)
  | ((with_reducible show kSetL2 _ _ _ _ _); (first | refine k_setL2j 0 rfl rfl (by simp) rfl ?_ | refine k_setL2j 1 rfl rfl (by simp) rfl ?_ | refine k_setL2j 2 rfl rfl (by simp) rfl ?_))
  | ((with_reducible show vPutD _ _ _ _ _); refine u_putD ?_)
  | ((with_reducible show kPutD1 _ _ _ _ _); refine k_putD1 rfl ?_)
  | ((with_reducible show vAugL _ _ _ _ _ _); refine u_augL rfl ?_)
  | ((with_reducible show kAugL1 _ _ _ _ _ _); (first | refine k_augL1j 0 rfl rfl rfl ?_ | refine k_augL1j 1 rfl rfl rfl ?_ | refine k_augL1j 2 rfl rfl rfl ?_))
  | ((with_reducible show kAugL2 _ _ _ _ _ _ _); refine k_augL2j rfl (by simp) ?_)
  | ((with_reducible show vAug _ _ _ _ _); refine u_aug rfl ?_)
  | ((with_reducible show kAug _ _ _ _ _ _); (first | refine k_augAdd rfl ?_ | refine k_augSub rfl ?_))
  | ((with_reducible show vCall _ _ _ _); refine u_call ?_)
  | ((with_reducible show gN _ _ _ _); refine u_gN rfl rfl ?_)
  | ((with_reducible show gT _ _ _ _); refine u_gT rfl ?_)
  | ((with_reducible show gL _ _ _ _); refine u_gL rfl rfl ?_)
  | ((with_reducible show gTs _ _ _ _); (first | refine u_gTs0 ?_ | refine u_gTs ?_))
  | ((with_reducible show vItL _ _ _); refine u_itL ?_)
  | ((with_reducible show kItL _ _ _); refine k_itL rfl rfl ?_)
  | ((with_reducible show vItT _ _ _); refine u_itT ?_)
  | ((with_reducible show kItT _ _ _); refine k_itT rfl rfl ?_)
  | ((with_reducible show vItR1 _ _ _); refine u_itR1 ?_)
  | ((with_reducible show vItR2 _ _ _); refine u_itR2 ?_)
  | ((with_reducible show vFor _ _ _ _ _); refine u_for ?_)
  | ((with_reducible show vLc _ _ _ _ _ _ _); refine u_lc ?_)
  | ((with_reducible show vLcK _ _ _ _ _ _ _); refine u_lcK rfl ?_)
  | ((with_reducible show vYes _ _); refine u_yes ?_)
  | ((with_reducible show kLcT _ _ _ _ _ _); refine k_lcTT ?_)
  | ((with_reducible show addP _ _); refine p_addI ?_)
  | ((with_reducible show subP _ _); refine p_subI ?_)
  | ((with_reducible show mulP _ _); (first | refine p_mulI (.inl (.inl (by omega))) ?_ | refine p_mulI (.inl (.inr (by omega))) ?_))
  | ((with_reducible show modP _ _); refine p_modI (by omega) ?_)
  | ((with_reducible show divP _ _); refine p_divI (.inl (by constructor <;> omega)) ?_)
  | ((with_reducible show negP _ _); refine p_negI ?_)
  | ((with_reducible show ltP _ _); refine p_ltI ?_)
  | ((with_reducible show leP _ _); refine p_leI ?_)
  | ((with_reducible show gtP _ _); refine p_gtI ?_)
  | ((with_reducible show geP _ _); refine p_geI ?_)
  | ((with_reducible show eqP _ _); (first | refine p_eqI ?_ | refine p_eqS ?_ | refine p_eqB ?_ | refine p_eqN ?_))
  | ((with_reducible show neP _ _); (first | refine p_neI ?_ | refine p_neS ?_ | refine p_neB ?_))
  | ((with_reducible show isNP _ _); (first | refine p_isNn ?_ | refine p_isNi ?_ | refine p_isNs ?_ | refine p_isNb ?_ | refine p_isNl ?_ | refine p_isNt ?_ | refine p_isNd ?_))
  | ((with_reducible show notNP _ _); (first | refine p_notNn ?_ | refine p_notNi ?_ | refine p_notNs ?_ | refine p_notNb ?_ | refine p_notNl ?_ | refine p_notNt ?_ | refine p_notNd ?_))
  | ((with_reducible show isiP _ _); refine p_isi rfl rfl ?_)
  | ((with_reducible show isiTP _ _); refine p_isiT rfl rfl ?_)
  | ((with_reducible show reprP _ _); (first | refine p_reprB ?_ | refine p_reprN ?_))
  | ((with_reducible show lenP _ _); (first | refine p_lenL ?_ | refine p_lenF ?_ | refine p_lenT ?_ | refine p_lenD ?_))
  | ((with_reducible show absP _ _); refine p_absI ?_)
  | ((with_reducible show intP _ _); refine p_intI ?_)
  | ((with_reducible show listP _ _); (first | refine p_listL ?_ | refine p_listF ?_ | refine p_listD ?_))
  | ((with_reducible show ixP _ _); (first | refine p_ixLj 0 rfl rfl ?_ | refine p_ixLj 1 rfl rfl ?_ | refine p_ixLj 2 rfl rfl ?_ | refine p_ixLj 3 rfl rfl ?_ | refine p_ixTj 0 rfl rfl ?_ | refine p_ixTj 1 rfl rfl ?_ | refine p_ixTj 2 rfl rfl ?_ | refine p_ixTj 3 rfl rfl ?_))
  | ((with_reducible show inP _ _ _); (first | refine p_inS0 ?_ | refine p_inS1 ?_ | refine p_inI0 ?_ | refine p_inI1 ?_ | refine p_inD0 rfl ?_ | refine p_inD1 rfl ?_))
  | ((with_reducible show slP _ _ _ _); (first | refine p_slL ?_ | refine p_slF ?_))
  | ((with_reducible show sumP _ _); refine p_sum ?_)
  | ((with_reducible show maxP _ _); refine p_max2 ?_)
  | ((with_reducible show minP _ _); refine p_min2 ?_)
  | ((with_reducible show allP _ _); refine p_all ?_)
  | ((with_reducible show anyP _ _); refine p_any ?_))
local macro_rules | `(tactic| walk_at "ss") => `(tactic| repeat walk_at "s")
local macro_rules | `(tactic| walk_at "back") => `(tactic| refine k_back ?_ (by dsimp only [takeBack, backS, List.set, List.getElem?_cons_zero, List.getElem?_cons_succ]))
/-- data that a comparison tells equal to itself -/
inductive Sm : Nat → D → Prop
  | non {k} : Sm k .non
  | bl {k b} : Sm k (.bl b)
  | int {k i} (h : i.natAbs.log2 < 1920) : Sm k (.int i)
  | str {k x} (h : (reprText x).length ≤ sizeLine) : Sm k (.str x)
  | lst {k ds} (h : ∀ d ∈ ds, Sm k d) (hz : ds.length < 1000000) : Sm (k + 1) (.lst ds)
  | tup {k ds} (h : ∀ d ∈ ds, Sm k d) (hz : ds.length < 1000000) : Sm (k + 1) (.tup ds)
  | dct {k kvs} (h : ∀ kv ∈ kvs, Sm k kv.2) (hz : kvs.length < 1000000) : Sm (k + 1) (.dct kvs)
def Sn_same : Nat → VSp
  | 0 => fun _ _ _ => False
  | k + 1 => fun ρs R _ => ∃ d, ρs = [.sh d, .sh d] ∧ Sm k d ∧ R (.sh (.bl true)) [.sh d, .sh d]
theorem look_mem {κ α : Type} [DecidableEq κ] {k : κ} {v : α} : ∀ {kvs : List (κ × α)}, (k, v) ∈ kvs → ∃ v', lookK kvs k = some v' ∧ (k, v') ∈ kvs
  | [], h => by cases h
  | (j, u) :: r, h => by
    by_cases e : j = k
    · subst e
      exact ⟨u, by unfold lookK; simp, by simp⟩
    · rcases List.mem_cons.mp h with h | h
      · cases h; exact absurd rfl e
      · obtain ⟨v', h1, h2⟩ := look_mem h
        exact ⟨v', by unfold lookK at h1 ⊢; rw [List.find?_cons_of_neg (by simp [e])]; exact h1, by simp [h2]⟩
theorem keyD_dK (k : Key) : keyD (dK k) = some k := by cases k <;> rfl
theorem all_true {α : Type} : ∀ xs : List α, (xs.map fun _ => true).all id = true
  | [] => rfl
  | _ :: r => by rw [List.map_cons, List.all_cons, all_true r]; rfl
abbrev S_same : VSp := Sn_same 4
def v_same (S_same : VSp) : VS :=
  vSeq (vIf (vTru (vVal (vPrim isiP (vCons (vPk 1) (vCons (vVal (vC (.opq (.ty "dict")))) (vNil)))))) (vSeq (vSet 2 (vLcK 1 (gN 3) (vYes) (vLst (vCons (vVal (vVar 3)) (vCons (vVal (vBin ixP (vPk 1) (vPk 3))) (vNil)))) [3]))
    (vSeq (vIf (vOr (vNot (vTru (vVal (vPrim isiP (vCons (vPk 0) (vCons (vVal (vC (.opq (.ty "dict")))) (vNil))))))) (vT (vBin neP (vVal (vPrim lenP (vCons (vPk 0) (vNil)))) (vVal (vPrim lenP (vCons (vPk 1) (vNil))))))) (vRet (vC (.bl false))) (vNext))
    (vRet (vPrim allP (vCons (vVal (vLc (vItL (vVar 2)) (gL [3, 4]) (vYes) (vAndV (vBin (inP false) (vPk 3) (vPk 0)) (vCall S_same (vCons (vVal (vSh (vBin ixP (vPk 0) (vPk 3)))) (vCons (vVal (vVar 4)) (vNil))))) [3, 4])) (vNil)))))) (vNext))
    (vSeq (vIf (vTru (vVal (vPrim isiTP (vCons (vPk 1) (vCons (vVal (vTup (vCons (vVal (vC (.opq (.ty "list")))) (vCons (vVal (vC (.opq (.ty "tuple")))) (vNil))))) (vNil)))))) (vSeq (vIf (vOr (vT (vBin neP (vVal (vPrim isiP (vCons (vPk 1) (vCons (vVal (vC (.opq (.ty "list")))) (vNil))))) (vVal (vPrim isiP (vCons (vPk 0) (vCons (vVal (vC (.opq (.ty "list")))) (vNil))))))) (vT (vBin neP (vVal (vPrim isiP (vCons (vPk 1) (vCons (vVal (vC (.opq (.ty "tuple")))) (vNil))))) (vVal (vPrim isiP (vCons (vPk 0) (vCons (vVal (vC (.opq (.ty "tuple")))) (vNil)))))))) (vRet (vC (.bl false))) (vNext))
    (vRet (vAndV (vBin eqP (vVal (vPrim lenP (vCons (vPk 0) (vNil)))) (vVal (vPrim lenP (vCons (vPk 1) (vNil))))) (vPrim allP (vCons (vVal (vLc (vItR1 (vCons (vVal (vPrim lenP (vCons (vPk 1) (vNil)))) (vNil))) (gN 5) (vYes) (vCall S_same (vCons (vVal (vSh (vBin ixP (vPk 0) (vPk 5)))) (vCons (vVal (vSh (vBin ixP (vPk 1) (vPk 5)))) (vNil)))) [5])) (vNil)))))) (vNext))
    (vRet (vAndV (vOrV (vBin isNP (vPk 0) (vVal (vC .non))) (vPrim isiTP (vCons (vPk 0) (vCons (vVal (vTup (vCons (vVal (vC (.opq (.ty "int")))) (vCons (vVal (vC (.opq (.ty "str")))) (vNil))))) (vNil))))) (vBin eqP (vVal (vPrim reprP (vCons (vPk 0) (vNil)))) (vVal (vPrim reprP (vCons (vPk 1) (vNil))))))))
theorem rd_same (k : Nat) : Reads (Sn_same (k + 1)) (fun _ => v_same (Sn_same k)) 4 := fun ρs R _ h => by
  obtain ⟨d, rfl, sm, q⟩ := h
  unfold v_same
  show vSeq _ _ _ [.sh d, .sh d, .un, .un, .un, .un]
  cases sm with
  | non =>
    walk_at "ss"
    simp only [decide_true]
    exact q
  | bl =>
    walk_at "ss"
    simp only [decide_true]
    exact q
  | int h =>
    walk_at "ss"
    refine p_reprI h ?_
    walk_at "ss"
    refine p_reprI h ?_
    walk_at "ss"
    simp only [decide_true]
    exact q
  | str h =>
    walk_at "ss"
    refine p_reprS h ?_
    walk_at "ss"
    refine p_reprS h ?_
    walk_at "ss"
    simp only [decide_true]
    exact q
  | lst h hz =>
    rename_i k ds
    walk_at "ss"
    refine k_andV (fun _ => ?_) (fun z => absurd rfl (of_decide_eq_false z))
    walk_at "ss"
    refine k_itR1 rfl (by omega) ?_
    refine k_lcM (List.range ds.length) (fun (i : Nat) => D.int (0 + (i : Int))) (fun _ => true) (fun _ => .bl true) _ rfl (by rw [List.length_range]; show ds.length < 16777216; omega) (by simp [Slot.free]) (by dsimp only [wipeR, List.set]) ?_ ?_
    · intro x acc I hx hz t1 _
      have hx' : x < ds.length := List.mem_range.mp hx
      walk_at "ss"
      refine p_ixLj x (by omega) (List.getElem?_eq_getElem hx') ?_
      walk_at "ss"
      refine p_ixLj x (by omega) (List.getElem?_eq_getElem hx') ?_
      walk_at "ss"
      refine k_call rfl ⟨_, rfl, h _ (List.getElem_mem hx'), ?_⟩
      walk_at "back"
      exact k_lcE rfl hz (t1 rfl)
    · rw [List.filter_eq_self.mpr (fun _ _ => rfl), show (fun _ : Nat => D.bl true) = D.bl ∘ (fun _ : Nat => true) from rfl, ← List.map_map]
      walk_at "ss"
      rw [all_true]
      exact q
  | tup h hz =>
    rename_i k ds
    walk_at "ss"
    refine k_andV (fun _ => ?_) (fun z => absurd rfl (of_decide_eq_false z))
    walk_at "ss"
    refine k_itR1 rfl (by omega) ?_
    refine k_lcM (List.range ds.length) (fun (i : Nat) => D.int (0 + (i : Int))) (fun _ => true) (fun _ => .bl true) _ rfl (by rw [List.length_range]; show ds.length < 16777216; omega) (by simp [Slot.free]) (by dsimp only [wipeR, List.set]) ?_ ?_
    · intro x acc I hx hz t1 _
      have hx' : x < ds.length := List.mem_range.mp hx
      walk_at "ss"
      refine p_ixTj x (by omega) (List.getElem?_eq_getElem hx') ?_
      walk_at "ss"
      refine p_ixTj x (by omega) (List.getElem?_eq_getElem hx') ?_
      walk_at "ss"
      refine k_call rfl ⟨_, rfl, h _ (List.getElem_mem hx'), ?_⟩
      walk_at "back"
      exact k_lcE rfl hz (t1 rfl)
    · rw [List.filter_eq_self.mpr (fun _ _ => rfl), show (fun _ : Nat => D.bl true) = D.bl ∘ (fun _ : Nat => true) from rfl, ← List.map_map]
      walk_at "ss"
      rw [all_true]
      exact q
  | dct h hz =>
    rename_i k kvs
    walk_at "ss"
    refine k_lcM kvs (fun kv => dK kv.1) (fun _ => true) (fun kv => .lst [dK kv.1, (lookK kvs kv.1).getD .non]) _ rfl (by show kvs.length < 16777216; omega) (by simp [Slot.free]) (by dsimp only [wipeR, List.set]) ?_ ?_
    · intro kv acc I hx hz t1 _
      obtain ⟨v', h1, h2⟩ := look_mem (k := kv.1) (v := kv.2) hx
      walk_at "ss"
      refine p_ixD (keyD_dK _) h1 ?_
      walk_at "ss"
      refine k_lcE rfl hz ?_
      have t2 := t1 rfl
      rw [h1] at t2
      exact t2
    · rw [List.filter_eq_self.mpr (fun _ _ => rfl)]
      walk_at "ss"
      refine k_ifN (fun z => absurd rfl z) (fun _ => ?_)
      walk_at "ss"
      refine k_lcM kvs (fun kv => .lst [dK kv.1, (lookK kvs kv.1).getD .non]) (fun _ => true) (fun _ => .bl true) _ rfl (by show kvs.length < 16777216; omega) (by simp [Slot.free]) (by dsimp only [wipeR, List.set]) ?_ ?_
      · intro kv acc I hx hz t1 _
        obtain ⟨v', h1, h2⟩ := look_mem (k := kv.1) (v := kv.2) hx
        rw [h1]
        walk_at "ss"
        refine p_inD0 (keyD_dK _) ?_
        rw [h1]
        walk_at "ss"
        refine p_ixD (keyD_dK _) h1 ?_
        walk_at "ss"
        refine k_call rfl ⟨_, rfl, h _ h2, ?_⟩
        walk_at "back"
        exact k_lcE rfl hz (t1 rfl)
      · rw [List.filter_eq_self.mpr (fun _ _ => rfl), show (fun _ : Key × D => D.bl true) = D.bl ∘ (fun _ : Key × D => true) from rfl, ← List.map_map]
        walk_at "ss"
        rw [all_true]
        exact q
end WL


set_option Elab.async false
set_option linter.all false
set_option maxRecDepth 100000
set_option maxHeartbeats 4000000
/-! HV: the helpers that the laws share: what they promise, and that they keep it. -/
namespace WL
open PySem PySem.Spec PyProof.Rows L2
variable [TBs]
/-! what the helpers' texts are like -/
/-- a short text -/
structure SText (w : Str) : Prop where
  rp : (reprText w).length ≤ sizeLine
  len : w.length ≤ 64
  ok : PyData.strOk w = true
def Plain (w : Str) : Prop := ∀ c ∈ w.cps.toList, (97 ≤ c ∧ c < 123) ∨ (48 ≤ c ∧ c < 58)
def Marked (w : Str) : Prop := ∃ c ∈ w.cps.toList, c = 45 ∨ c = 46 ∨ c = 47 ∨ c = 95
theorem not_marked {w : Str} (h : Plain w) (m : Marked w) : False := by
  obtain ⟨c, hc, e⟩ := m
  have := h c hc
  omega
theorem stext_of {l : List Nat} (hl : l.length ≤ 64) (hc : ∀ c ∈ l, c < 128) : SText (SX.S l) := by
  refine ⟨?_, by rw [SX.S_len]; exact hl, ?_⟩
  rotate_left
  · show (SX.S l).cps.all (· < 0x110000) = true
    rw [← Array.all_toList]
    exact List.all_eq_true.mpr fun c h => decide_eq_true (Nat.lt_trans (hc c h) (by decide))
  have h := StrLaws.reprText_len (SX.S l) (fun c h => Nat.lt_trans (hc c h) (by decide))
  rw [SX.S_len l] at h
  exact Nat.le_trans h (small24 (by omega))
theorem digits_of {n c : Nat} (h : c ∈ TL.numL n) : 48 ≤ c ∧ c < 58 := by
  have := TL.numL_digits n c h
  omega
theorem word_chars {st : List Nat} {at' n c : Nat} (hst : Letters st) (h : c ∈ wordL st at' n) : (97 ≤ c ∧ c < 123) ∨ (48 ≤ c ∧ c < 58) := by
  unfold wordL at h
  rcases List.mem_append.mp h with h | h
  · rcases List.mem_append.mp h with h | h
    · exact .inl (hst c (List.mem_of_mem_take h))
    · exact .inr (digits_of h)
  · exact .inl (hst c (List.mem_of_mem_drop h))
theorem wordL_inj {st : List Nat} {at' m n : Nat} (h : wordL st at' m = wordL st at' n) : m = n := by
  unfold wordL at h
  rw [List.append_left_inj, List.append_right_inj] at h
  exact TL.numL_inj h
theorem nameL_inj {st k tl : List Nat} {m n : Nat} (h : nameL st k tl m = nameL st k tl n) : m = n := by
  unfold nameL at h
  rw [List.append_left_inj, List.append_right_inj] at h
  exact TL.numL_inj h
theorem nodup_map_range {α : Type} (f : Nat → α) (n : Nat) (h : ∀ i j, f i = f j → i = j) : ((List.range n).map f).Nodup := by
  unfold List.Nodup
  rw [List.pairwise_map]
  exact List.pairwise_lt_range.imp fun hlt e => by have := h _ _ e; omega
theorem nodup_map_S {l : List (List Nat)} (h : l.Nodup) : (l.map SX.S).Nodup := by
  unfold List.Nodup
  rw [List.pairwise_map]
  exact h.imp fun hne e => hne (SX.S_inj e)
structure WordsOk (W : List Str) (n : Nat) : Prop where
  nd : W.Nodup
  len : W.length = n
  tx : ∀ w ∈ W, SText w
  pl : ∀ w ∈ W, Plain w
structure NamesOk (W : List Str) (n : Nat) : Prop where
  nd : W.Nodup
  len : W.length = n
  tx : ∀ w ∈ W, SText w
  mrk : ∀ w ∈ W, Marked w
theorem words_ok {st : List Nat} {at' n base : Nat} {ws : List (List Nat)} (hst : Letters st) (hl : st.length ≤ 3) (hb : base + n ≤ 10000000) (hp : ws.Perm ((List.range n).map fun k => wordL st at' (base + k))) : WordsOk (ws.map SX.S) n := by
  have mem : ∀ w ∈ ws, ∃ k, k < n ∧ w = wordL st at' (base + k) := fun w hw => by
    obtain ⟨k, hk, e⟩ := List.mem_map.mp (hp.mem_iff.mp hw)
    exact ⟨k, List.mem_range.mp hk, e.symm⟩
  refine ⟨nodup_map_S (hp.nodup_iff.mpr (nodup_map_range _ _ fun i j e => by have := wordL_inj e; omega)), by rw [List.length_map, hp.length_eq, List.length_map, List.length_range], fun w hw => ?_, fun w hw => ?_⟩
  · obtain ⟨l, hl2, rfl⟩ := List.mem_map.mp hw
    obtain ⟨k, hk, rfl⟩ := mem l hl2
    refine stext_of ?_ fun c hc => by have := word_chars hst hc; omega
    have ln : (TL.numL (base + k)).length ≤ 7 := TL.numL_len (by decide) (by omega)
    unfold wordL
    rw [List.length_append, List.length_append, List.length_take, List.length_drop]
    omega
  · obtain ⟨l, hl2, rfl⟩ := List.mem_map.mp hw
    obtain ⟨k, hk, rfl⟩ := mem l hl2
    exact fun c hc => word_chars hst hc
theorem markL_char : ∀ m ∈ markL, ∃ c ∈ m, c = 45 ∨ c = 46 ∨ c = 47 ∨ c = 95 := by decide
theorem markL_small : ∀ m ∈ markL, ∀ c ∈ m, c < 128 := by decide
theorem tailL_small : ∀ m ∈ tailL, ∀ c ∈ m, c < 128 := by decide
theorem names_ok {st m tl : List Nat} {n base : Nat} {ws : List (List Nat)} (hst : Letters st) (hl : st.length ≤ 3) (hm : m ∈ markL) (ht : tl ∈ tailL) (hb : base + n ≤ 10000000) (hp : ws.Perm ((List.range n).map fun k => nameL st m tl (base + k))) : NamesOk (ws.map SX.S) n := by
  have mem : ∀ w ∈ ws, ∃ k, k < n ∧ w = nameL st m tl (base + k) := fun w hw => by
    obtain ⟨k, hk, e⟩ := List.mem_map.mp (hp.mem_iff.mp hw)
    exact ⟨k, List.mem_range.mp hk, e.symm⟩
  refine ⟨nodup_map_S (hp.nodup_iff.mpr (nodup_map_range _ _ fun i j e => by have := nameL_inj e; omega)), by rw [List.length_map, hp.length_eq, List.length_map, List.length_range], fun w hw => ?_, fun w hw => ?_⟩
  · obtain ⟨l, hl2, rfl⟩ := List.mem_map.mp hw
    obtain ⟨k, hk, rfl⟩ := mem l hl2
    have ln : (TL.numL (base + k)).length ≤ 7 := TL.numL_len (by decide) (by omega)
    have lm := markL_len hm
    have lt := tailL_len ht
    refine stext_of ?_ fun c hc => ?_
    · unfold nameL
      rw [List.length_append, List.length_append, List.length_append]
      omega
    · unfold nameL at hc
      rcases List.mem_append.mp hc with hc | hc
      · rcases List.mem_append.mp hc with hc | hc
        · rcases List.mem_append.mp hc with hc | hc
          · have := hst c hc; omega
          · exact markL_small m hm c hc
        · have := digits_of hc; omega
      · exact tailL_small tl ht c hc
  · obtain ⟨l, hl2, rfl⟩ := List.mem_map.mp hw
    obtain ⟨k, hk, rfl⟩ := mem l hl2
    obtain ⟨c, hc, e⟩ := markL_char m hm
    exact ⟨c, by show c ∈ nameL st m tl (base + k); unfold nameL; simp [hc], e⟩
theorem putD_new {kvs : List (Key × D)} {k : Key} {d : D} (h : ∀ kv ∈ kvs, kv.1 ≠ k) : putD kvs k d = kvs ++ [(k, d)] := by
  unfold putD
  rw [if_neg]
  intro z
  obtain ⟨kv, h1, h2⟩ := List.any_eq_true.mp z
  exact h kv h1 (of_decide_eq_true h2)
theorem mem_cut {α : Type} {xs : List α} {lo : Option Int} {k : Int} {x : α} (h0 : 0 ≤ k) (h : x ∈ cutL xs lo (some k)) : x ∈ xs.take k.toNat := by
  unfold cutL at h
  have e : k = ((k.toNat : Nat) : Int) := by omega
  rw [e, HT.sIx_nat] at h
  obtain ⟨i, hi, hx⟩ := List.mem_iff_getElem.mp h
  have h2 := hi
  rw [List.length_take, List.length_drop] at h2
  rw [List.getElem_take, List.getElem_drop] at hx
  have h3 : HT.sIx xs.length 0 lo + i < xs.length := by omega
  have h4 : HT.sIx xs.length 0 lo + i < k.toNat := by omega
  refine List.mem_iff_getElem.mpr ⟨HT.sIx xs.length 0 lo + i, by rw [List.length_take]; omega, ?_⟩
  rw [List.getElem_take]
  exact hx
/-- what is known at the start: all but the tables -/
def noTb (H : Hp) : Hp := fun b => match H b with
  | some (.tbl _) => none
  | o => o
theorem noTb_eq {H : Hp} {b : Addr} {u : HO} (h : H b = some u) (n : NoTbl u) : noTb H b = some u := by
  unfold noTb
  rw [h]
  cases u <;> first | rfl | exact absurd rfl (n _)
theorem noTb_sub {H : Hp} {b : Addr} {u : HO} (h : noTb H b = some u) : H b = some u ∧ NoTbl u := by
  unfold noTb at h
  split at h
  · cases h
  · rename_i o hn
    exact ⟨h, fun ps z => hn ps (by rw [h, z])⟩
theorem noTb_hl {K : PySem.W.Frag} {H : Hp} (hT : ∀ p ∈ TBs.tb, H p.1 = some (.tbl #[])) : HL K (noTb H) H [] :=
  ⟨fun b o q => (noTb_sub q).1, ⟨fun b ps q => (noTb_sub q).2 ps rfl, fun p hp => ⟨#[], hT p hp, True.intro, fun pos cv hc => by
    have z : codeAmong pos [] = some cv := hc
    simp [codeAmong] at z⟩⟩, [], .nil, .nil, fun p hp => by cases hp⟩
theorem noTb_sqL {K : PySem.W.Frag} {H : Hp} {a : Addr} {xs : List V} (h : SqL K H a xs) : SqL K (noTb H) a xs := by
  rcases h with (h | ⟨o, h⟩) | h
  · exact .inl (.inl (noTb_eq h fun ps z => by cases z))
  · exact .inl (.inr ⟨o, noTb_eq h fun ps z => by cases z⟩)
  · exact .inr h
/-- the law's own call -/
theorem start_of {K : PySem.W.Frag} {H : Hp} {a : Addr} {ns : List Int} {SS : VSp} {E : XK} (hT : ∀ p ∈ TBs.tb, H p.1 = some (.tbl #[])) (hS : SqL K H a (ns.map V.int)) (h : SS [.sh (.fls (ns.map D.int))] (fun r _ => r = .sh (.bl true)) fun _ _ _ => False) : spV K SS [.ref a] H (fun v _ => v = .bl true) E := by
  have h0 : HL K (noTb H) H [] := noTb_hl hT
  refine ⟨noTb H, [.sh (.fls (ns.map D.int))], [], _, _, rfl, .sh .nil, h0.sh (.fls (noTb_sqL hS) (Reps.of_ints ns)), h, fun v H' Hk' ρs' r _ _ h2 hr => ?_, fun _ _ _ _ _ _ _ _ _ _ z => z.elim⟩
  subst hr
  obtain ⟨v', e, rv⟩ := h2.get_sh
  cases e; cases rv; rfl
end WL

set_option Elab.async false
set_option linter.all false
set_option maxRecDepth 100000
set_option maxHeartbeats 4000000
/-! WR: more primitives: sorted of a dict, min and in over data of any depth, l.index, {k: v}, dict comprehensions, walks over a dict's dict. -/
namespace WL
open PySem PySem.Spec PyProof.Rows L2
variable [TBs]

section
variable {X : Cx} {Φ : Fr}
/-! ### sorted(dict) -/
def rSortD : List V → Hp → VK → Prop := fun xs H Q => ∃ (a : Addr) (kvs : List (Key × V)) (ks : List Str), xs = [.ref a] ∧ Rd H a (.dK kvs) ∧ kvs.map (·.1) = ks.map Sum.inr ∧ ks.length < 64 ∧
  ∀ ys p, ys.Perm ks → sortedS ys = true → H p = none → Q (.ref p) (upd H p (.lst (ys.map V.str)))
def sortDP : Prim := fun ds R => sortedP ds R ∨ ∃ (kvs : List (Key × D)) (ks : List Str), ds = [.dct kvs] ∧ kvs.map (·.1) = ks.map Sum.inr ∧ ks.length < 64 ∧ ∀ ys : List Str, ys.Perm ks → sortedS ys = true → R (.newL (ys.map D.str))
theorem call_sortDA (hc : X.calm = true) : CallR X (.builtin "sorted") (fun xs H Q => rSortedA X.K xs H Q ∨ rSortD xs H Q) := CallR.or call_sortedA (call_sortedD hc)
theorem ok_sortD : PrimOk X (fun xs H Q => rSortedA X.K xs H Q ∨ rSortD xs H Q) sortDP := by
  intro Hk H vs ds P R ex vv q k
  rcases q with q | ⟨kvs, ks, e, hk, hl, q⟩
  · exact .inl (ok_sorted Hk H vs ds P R ex vv q k)
  · subst e
    obtain ⟨v, rfl, h⟩ := vs1 vv
    obtain ⟨a, us, rfl, hr, r⟩ := h.dct ex
    exact .inr ⟨a, us, ks, rfl, hr, by rw [r.keys]; exact hk, hl, fun ys p h1 h2 h3 => k _ (q ys h1 h2) p _ h3 (Reps.of_strs ys)⟩
/-! ### min of data -/
def rMinD (K : PySem.W.Frag) : List V → Hp → VK → Prop := fun xs H Q => ∃ (a : Addr) (vs : List V) (p : PyData) (ps : List PyData), xs = [.ref a] ∧ SqL K H a vs ∧ DpAll K H vs (p :: ps) ∧ PySem.W.AlikeAll (p :: ps) ∧ PyData.depthAll (p :: ps) ≤ 30 ∧
  ∀ (j : Nat) (v : V), vs[j]? = some v → (p :: ps).getD j .none = PySem.W.minD p ps → Q v H
theorem call_minD (hc : X.calm = true) (hu : X.A.units + 64 < cLine) : CallR X (.builtin "min") (rMinD X.K) := by
  intro pins s σ H vs us Q I r h
  obtain ⟨a, vs', p, ps, rfl, hs, hd, al, dp, q⟩ := h
  obtain ⟨its, rv, hl, _⟩ := I.list hs
  rw [Vals.ref1 r]
  obtain ⟨as, hr⟩ := Dp.readsAll I (p :: ps) vs' its hd rv
  have hl' := hl.isList
  have hr' := hr
  rw [← show its.toArray.toList = its by simp] at hr'
  have hn : its.toArray.size = ps.length + 1 := PySem.W.readsAll_len hr'
  refine call_min_walkH (PySem.W.iter_listW (A := X.A.in1) (I.ok.hd hc) hl' fun s₂ e W st hfp hw hk => ?_)
  refine ⟨_, _, _, _, _, _, _, s.heap, _, rfl, W, st, hfp, by omega, hw, hk, PySem.W.cmpIn_lt (A := X.A.in1) hr' al (by show X.A.units + 1 + _ < _; omega), fun v s' hP m => ?_⟩
  obtain ⟨h', tk, rfl, hk'⟩ := PySem.W.moved_old e rfl m
  have e1 : its.toArray.size - 1 = ps.length := by omega
  have e2 := (PySem.W.argBest_fold PySem.W.dataLt PyData.none p ps ps.length (Nat.le_refl _)).2
  rw [List.take_length] at e2
  rw [e1] at hP
  have hP' : its[argBest (fun i j => PySem.W.dataLt ((p :: ps).getD i .none) ((p :: ps).getD j .none)) ps.length]? = some v := by simpa using hP
  obtain ⟨w, hw', rw'⟩ : ∃ w, vs'[argBest (fun i j => PySem.W.dataLt ((p :: ps).getD i .none) ((p :: ps).getD j .none)) ps.length]? = some w ∧ RelV w v := by
    have hi := (List.getElem?_eq_some_iff.mp hP').1
    have hi2 : argBest (fun i j => PySem.W.dataLt ((p :: ps).getD i .none) ((p :: ps).getD j .none)) ps.length < vs'.length := by rw [rv.length]; exact hi
    obtain ⟨u, hu1, hu2⟩ := rv.get (List.getElem?_eq_getElem hi2)
    rw [hP'] at hu1; cases hu1
    exact ⟨_, List.getElem?_eq_getElem hi2, hu2⟩
  exact ⟨w, H, I.kept hk', rw', q _ w hw' e2⟩
def minDP : Prim := fun ds R => minP ds R ∨ ∃ (d : D) (l : List D) (p : PyData) (ps : List PyData), ds = [d] ∧ seqLD d = some l ∧ toPys l = some (p :: ps) ∧ PySem.W.AlikeAll (p :: ps) ∧ PyData.depthAll (p :: ps) ≤ 30 ∧
  ∀ (j : Nat) (e : D), l[j]? = some e → (p :: ps).getD j .none = PySem.W.minD p ps → R (.val e)
theorem call_minDA (hc : X.calm = true) (hu : X.A.units + 64 < cLine) : CallR X (.builtin "min") (fun xs H Q => rMinA X.K xs H Q ∨ rMinD X.K xs H Q) := CallR.or (call_minA hc) (call_minD hc hu)
theorem Reps.sm {K : PySem.W.Frag} {H H' : Hp} {vs : List V} {ds : List D} (h : Reps K H vs ds) (e : Same H H') : Reps K H' vs ds := h.mono e
theorem ok_minD : PrimOk X (fun xs H Q => rMinA X.K xs H Q ∨ rMinD X.K xs H Q) minDP := by
  intro Hk H vs ds P R ex vv q k
  rcases q with q | ⟨d, l, p, ps, e, hd, hp, al, dp, q⟩
  · exact .inl (ok_min Hk H vs ds P R ex vv q k)
  · subst e
    obtain ⟨v, rfl, h⟩ := vs1 vv
    obtain ⟨a, us, rfl, hr, r⟩ := h.seqL ex (seqLD_eq hd)
    refine .inr ⟨a, us, p, ps, rfl, hr, Reps.dp (r.mono ex) hp, al, dp, fun j v hv hm => ?_⟩
    obtain ⟨e, he, re⟩ := r.get hv
    exact k _ (q j e he hm) v re
/-! ### in of data -/
def rInB (K : PySem.W.Frag) : Bool → R2
  | false => rInD K
  | true => rNotInD K
def inDP (b : Bool) : Prim := fun ds R => inP b ds R ∨ ∃ (x d : D) (l : List D) (px : PyData) (ps : List PyData), ds = [x, d] ∧ seqLD d = some l ∧ toPy x = some px ∧ toPys l = some ps ∧ SeqAt.shaped px = true ∧ SeqAt.shaped (.list ps) = true ∧ R (.val (.bl (ifN b (ps.any fun z => PyData.eqv z px))))
theorem op_inDA (hu : X.A.units + 65 < cLine) : OpR X (compareOp .In) (fun x y H Q => rInA X.K false x y H Q ∨ rInB X.K false x y H Q) := (op_inA (by omega)).or (op_inD hu)
theorem op_notinDA (hu : X.A.units + 65 < cLine) : OpR X (compareOp .NotIn) (fun x y H Q => rInA X.K true x y H Q ∨ rInB X.K true x y H Q) := (op_notinA (by omega)).or (op_notInD hu)
theorem ok_inD {b : Bool} : PrimOk2 X (fun x y H Q => rInA X.K b x y H Q ∨ rInB X.K b x y H Q) (inDP b) := by
  intro Hk H x y dx dy P R ex vx vy q k
  rcases q with q | ⟨x', d, l, px, ps, e, hd, hx, hp, s1, s2, q⟩
  · exact .inl (ok_in Hk H x y dx dy P R ex vx vy q k)
  · cases e
    obtain ⟨a, us, rfl, hr, r⟩ := vy.seqL ex (seqLD_eq hd)
    have d1 := vx.dp ex hx
    have d2 : Dp X.K H (.ref a) (.list ps) := .lst hr (Reps.dp (r.mono ex) hp)
    cases b with
    | false => exact .inr ⟨px, ps, d1, d2, s1, s2, k _ q _ .bl⟩
    | true => exact .inr ⟨px, ps, d1, d2, s1, s2, k _ q _ .bl⟩
/-! ### l.index(x), texts -/
variable {e : Expr} {te : VE}
def vIdx (i : Nat) (te : VE) : VE := fun ρ Q => (∃ s d l, ρ[i]? = some s ∧ slotD s = some d ∧ seqLD d = some l) ∧ te ρ fun s ρ1 => ∃ (x : Str) (ss : List Str) (s1 : Slot) (d1 : D), s = .sh (.str x) ∧ ρ1[i]? = some s1 ∧ slotD s1 = some d1 ∧ seqLD d1 = some (ss.map D.str) ∧ x ∈ ss ∧
  ∀ j : Nat, ss[j]? = some x → (∀ m, m < j → ss[m]? ≠ some x) → Q (.sh (.int j)) ρ1
theorem first_at {x : Str} : ∀ {ss : List Str}, x ∈ ss → ∃ j : Nat, ss[j]? = some x ∧ ∀ m, m < j → ss[m]? ≠ some x
  | [], h => by cases h
  | s :: ss, h => by
    by_cases e : s = x
    · exact ⟨0, by simp [e], fun m hm => by omega⟩
    · have h' : x ∈ ss := (List.mem_cons.mp h).elim (fun z => absurd z.symm e) id
      obtain ⟨j, h1, h2⟩ := first_at h'
      refine ⟨j + 1, by simpa using h1, fun m hm => ?_⟩
      cases m with
      | zero => simp [e]
      | succ m => simpa using h2 m (by omega)
theorem run_idx (i : Nat) (h : PWE X Φ e te) : RunE X.K Φ (tBM X.K "list" (rIndex X.K) (tVar i) (tCons (tSem X e) tNil)) (vIdx i te) := ⟨fun ρ Q Hk T σ H P ⟨⟨s0, d0, l0, e0, hd0, hl0⟩, q⟩ hh p => by
  obtain ⟨v0, ev⟩ := hh.some_at e0 hd0
  obtain ⟨a, us, ea, hr, r⟩ := (hh.slot_view e0 ev hd0).seqL hh.ex (seqLD_eq hl0)
  subst ea
  refine ⟨.ref a, ev, .inl ⟨rfl, us, hr⟩, h.run ρ _ Hk T σ H _ q hh fun v H1 Hk1 ρ1 s e1 h1 k1 ⟨x, ss, s1, d1, hs, e2, hd1, hl1, hx, q1⟩ => ?_⟩
  subst hs
  obtain ⟨v', ev', rv⟩ := h1.top
  cases ev'; cases rv
  obtain ⟨a1, us1, ea1, hr1, r1⟩ := (h1.slot_view e2 ev hd1).seqL h1.ex (seqLD_eq hl1)
  cases ea1
  have eu := r1.strs
  subst eu
  obtain ⟨j, hj, hm⟩ := first_at hx
  refine ⟨a, _, .str x, j, .str x, rfl, rfl, hr1, rfl, ?_, by rw [List.getElem?_map, hj]; rfl, by simp [eqV], fun m z' hm1 hz => ?_, p _ _ Hk1 ρ1 _ e1 (h1.pop.sh .int) k1 (q1 j hj hm)⟩
  · simp [List.all_eq_true, flatV]
  · rw [List.getElem?_map] at hz
    obtain ⟨y, hy, ey⟩ := Option.map_eq_some_iff.mp hz
    subst ey
    have : y ≠ x := fun z => hm m hm1 (by rw [hy, z])
    simp [eqV, this]⟩
/-! ### {k: v} -/
variable {f : Expr} {tk tv : VE} {pos : Pos}
def vDisp1 (tk tv : VE) : VE := fun ρ Q => tk ρ fun sk ρ1 => tv ρ1 fun s ρ2 => ∃ (kd : D) (key : Key) (d : D), sk = .sh kd ∧ keyD kd = some key ∧ slotD s = some d ∧ Q (.ow false (.dct [(key, d)])) ρ2
theorem pwe_disp1 (hk : PWE X Φ e tk) (hv : PWE X Φ f tv) : PWE X Φ (.Dict [some e] [f] pos) (vDisp1 tk tv) := pwe_of (pe_disp (pps_cons pe_sem pe_sem pps_nil) rfl rfl (by simp) (by simp)) ⟨fun ρ Q Hk T σ H P q hh p => by
  intro a ha
  have h0 := hh.own (o := .dct []) (b := false) ha (.dct upd_same .nil)
  refine hk.run ρ _ Hk _ σ _ _ q h0 fun x H1 Hk1 ρ1 sk e1 h1 k1 q1 => ?_
  refine hv.run ρ1 _ Hk1 _ σ H1 _ q1 h1 fun y H2 Hk2 ρ2 s e2 h2 k2 ⟨kd, key, d, hs, hkey, hd, q2⟩ => ?_
  subst hs
  obtain ⟨Hk3, e3, rd, h3⟩ := h2.know_top hd
  obtain ⟨x', ex', rx⟩ := h3.top
  cases ex'
  have ek := rx.key hkey
  subst ek
  obtain ⟨p', vs', ep, hp, rp, mu⟩ := HL.dct h3.pop.front
  cases ep
  cases rp
  refine ⟨hp, [(key, y)], rfl, by simp, ?_⟩
  exact p (.ref a) _ Hk3 ρ2 _ (e1.trans (e2.trans e3)) (.back h3.len (mu [(key, y)] [(key, d)] (.cons rd .nil)) h3.ex0 h3.kp0) (k1.trans k2) q2⟩
end
end WL

set_option Elab.async false
set_option linter.all false
set_option maxRecDepth 100000
set_option maxHeartbeats 4000000
/-! WM: in of data in tuples; max(.., default=); sorted pairs; index of ints; a constant dict of the module. -/
namespace WL
open PySem PySem.Spec PyProof.Rows L2
variable [TBs]
section
variable {X : Cx} {Φ : Fr}
/-! ### x in t, data -/
def rInTp (K : PySem.W.Frag) (b : Bool) : R2 := fun x y H Q => ∃ d ds, Dp K H x d ∧ Dp K H y (.tuple ds) ∧ SeqAt.shaped d = true ∧ SeqAt.shaped (.list ds) = true ∧ Q (.bl (ifN b (ds.any fun z => PyData.eqv z d))) H
theorem op_inTp (hu : X.A.units + 65 < cLine) : OpR X (compareOp .In) (rInTp X.K false) := by
  intro pins s σ H x y v u Q I rx ry h
  obtain ⟨d, ds, hd, he, sd, se, q⟩ := h
  obtain ⟨as, r1⟩ := Dp.reads I d x v hd rx
  obtain ⟨bs, r2⟩ := Dp.reads I (.tuple ds) y u he ry
  exact SeqAt.in_tuple_reads r2 r1 (SeqAt.canLay_of_shaped se) (SeqAt.canLay_of_shaped sd) (room_in_shaped sd hu) ⟨.bl _, H, I, rfl, q⟩
theorem op_notinTp (hu : X.A.units + 65 < cLine) : OpR X (compareOp .NotIn) (rInTp X.K true) := by
  intro pins s σ H x y v u Q I rx ry h
  obtain ⟨d, ds, hd, he, sd, se, q⟩ := h
  obtain ⟨as, r1⟩ := Dp.reads I d x v hd rx
  obtain ⟨bs, r2⟩ := Dp.reads I (.tuple ds) y u he ry
  exact SeqAt.notIn_tuple_reads r2 r1 (SeqAt.canLay_of_shaped se) (SeqAt.canLay_of_shaped sd) (room_in_shaped sd hu) ⟨.bl _, H, I, rfl, q⟩
def rInE (K : PySem.W.Frag) (b : Bool) : R2 := fun x y H Q => (rInA K b x y H Q ∨ rInB K b x y H Q) ∨ rInTp K b x y H Q
def inEP (b : Bool) : Prim := fun ds R => inDP b ds R ∨ ∃ (x d : D) (l : List D) (px : PyData) (ps : List PyData), ds = [x, d] ∧ seqTD d = some l ∧ toPy x = some px ∧ toPys l = some ps ∧ SeqAt.shaped px = true ∧ SeqAt.shaped (.list ps) = true ∧ R (.val (.bl (ifN b (ps.any fun z => PyData.eqv z px))))
theorem op_inEA (hu : X.A.units + 65 < cLine) : OpR X (compareOp .In) (rInE X.K false) := (op_inDA hu).or (op_inTp hu)
theorem op_notinEA (hu : X.A.units + 65 < cLine) : OpR X (compareOp .NotIn) (rInE X.K true) := (op_notinDA hu).or (op_notinTp hu)
theorem ok_inE {b : Bool} : PrimOk2 X (rInE X.K b) (inEP b) := by
  intro Hk H x y dx dy P R ex vx vy q k
  rcases q with q | ⟨x', d, l, px, ps, e, hd, hx, hp, s1, s2, q⟩
  · exact .inl (ok_inD Hk H x y dx dy P R ex vx vy q k)
  · cases e
    obtain ⟨a, us, rfl, hr, r⟩ := vy.seqT ex (seqTD_eq hd)
    exact .inr ⟨px, ps, vx.dp ex hx, .tup hr (Reps.dp (r.mono ex) hp), s1, s2, k _ q _ .bl⟩
/-! ### sorted pairs of ints -/
def prs (ps : List (Int × Int)) : List D := ps.map fun p => D.tup [.int p.1, .int p.2]
def ltPr (p q : Int × Int) : Bool := SrtO.lexB p q
def sortPP : Prim := fun ds R => ∃ (d : D) (ps : List (Int × Int)), ds = [d] ∧ seqLD d = some (prs ps) ∧ ∀ qs : List (Int × Int), qs.Perm ps → qs.Pairwise (fun p q => p.1 < q.1 ∨ (p.1 = q.1 ∧ p.2 ≤ q.2)) → R (.newL (prs qs))
theorem ints_alike (ns : List Int) : PySem.W.AlikeAll (ns.map PyData.int) := ⟨fun x hx y hy => by
  obtain ⟨i, _, rfl⟩ := List.mem_map.mp hx
  obtain ⟨j, _, rfl⟩ := List.mem_map.mp hy
  rfl, fun x hx => by
  obtain ⟨i, _, rfl⟩ := List.mem_map.mp hx
  simp⟩
theorem ints_depth : ∀ ns : List Int, PyData.depthAll (ns.map PyData.int) ≤ 1
  | [] => by decide
  | n :: ns => by
    show max (PyData.depth (.int n)) (PyData.depthAll (ns.map PyData.int)) ≤ 1
    have := ints_depth ns
    have h : PyData.depth (.int n) ≤ 1 := by simp [PyData.depth]
    omega
theorem ints_dp {K : PySem.W.Frag} {H : Hp} : ∀ ns : List Int, DpAll K H (ns.map V.int) (ns.map PyData.int)
  | [] => .nil
  | n :: ns => .cons (.int n) (ints_dp ns)
/-! ### max(xs, default=c) -/
def maxD0 (c : Int) : List Int → Int
  | [] => c
  | y :: ys => ys.foldl max y
def rMaxDf (K : PySem.W.Frag) : List V → List V → Hp → VK → Prop := fun vs zs H Q => ∃ (a : Addr) (ns : List Int) (c : Int), vs = [.ref a] ∧ zs = [.int c] ∧ SqL K H a (ns.map V.int) ∧ Q (.int (maxD0 c ns)) H
theorem cr_maxDf (hc : X.calm = true) (hu : X.A.units + 64 < cLine) : CallRK X (.builtin "max") [Str.ofString "default"] (rMaxDf X.K) := by
  intro pins s σ H vs zs us ws Q I r rz h
  obtain ⟨a, ns, c, rfl, rfl, hs, q⟩ := h
  obtain rfl := Vals.ref1 r
  obtain ⟨w1, rfl, t, rfl⟩ := vals1 rz
  obtain ⟨its, rv, hl, hz⟩ := I.list hs
  obtain ⟨as, hr⟩ := Dp.readsAll I (ns.map PyData.int) _ its (ints_dp ns) rv
  rw [← show its.toArray.toList = its by simp] at hr
  refine PySem.W.max_list_default (I.ok.hd hc) hl.isList hr (ints_alike ns) (by have := ints_depth ns; omega) (fun h0 h' tk k => ?_) (fun y ys i v h' tk bs e hv rd k => ?_)
  · have e : ns = [] := List.map_eq_nil_iff.mp h0
    subst e
    exact ⟨.int c, H, I.kept k, ⟨t, rfl⟩, q⟩
  · cases ns with
    | nil => cases e
    | cons n ns =>
      cases e
      rw [PySem.W.maxD_ints] at rd
      cases rd
      exact ⟨.int (ns.foldl max n), H, I.kept k, ⟨_, rfl⟩, q⟩
def vMaxD (c : Int) (ta : VA) : VE := fun ρ Q => ta ρ fun as ρ1 => ∃ d ns, argDs ρ1 as = some [d] ∧ seqLD d = some (ns.map D.int) ∧ Q (.sh (.int (maxD0 c ns))) ρ1
theorem run_maxD {c : Int} {es : List Expr} {tas : VA} (ha : PWA X Φ es tas) : RunE X.K Φ (tCKw (rMaxDf X.K) (tSemA X es) (tCons (tC (.int c)) tNil)) (vMaxD c tas) := ⟨fun ρ Q Hk T σ H P q hh p =>
  ha.run ρ _ Hk T σ H _ q hh fun vs H1 Hk1 ρ1 as ts e1 has h1 k1 ⟨d, ns, hd, hl, q1⟩ => by
    obtain ⟨v, rfl, hv⟩ := vs1 (has.views h1 hd)
    obtain ⟨a, us, rfl, hr, r⟩ := hv.seqL h1.ex (seqLD_eq hl)
    rw [r.ints] at hr
    exact ⟨a, ns, c, rfl, rfl, hr, p _ H1 Hk1 ρ1 _ e1 (h1.drop.sh .int) k1 q1⟩⟩
/-! ### sorted pairs -/
def kOf (H : Hp) : V → Int × Int
  | .ref t => match H t with
    | some (.tup [.int i, .int j]) => (i, j)
    | _ => (0, 0)
  | _ => (0, 0)
theorem Reps.prs {K : PySem.W.Frag} {H : Hp} : ∀ {ps : List (Int × Int)} {vs : List V}, Reps K H vs (WL.prs ps) → vs.map (kOf H) = ps ∧ ∀ x ∈ vs, ∃ t, x = V.ref t ∧ H t = some (.tup [.int (kOf H x).1, .int (kOf H x).2])
  | [], vs, h => by cases h; exact ⟨rfl, fun x hx => by cases hx⟩
  | p :: ps, vs, h => by
    cases h with
    | cons hd tl =>
      cases hd with
      | tup ht hr =>
        cases hr with
        | cons h1 hr =>
          cases hr with
          | cons h2 hr =>
            cases hr
            cases h1
            cases h2
            obtain ⟨e1, e2⟩ := Reps.prs tl
            have ek : kOf H (.ref ‹Addr›) = p := by show (match H ‹Addr› with | some (.tup [.int i, .int j]) => (i, j) | _ => ((0, 0) : Int × Int)) = p; rw [ht]
            refine ⟨by rw [List.map_cons, ek, e1], fun x hx => ?_⟩
            rcases List.mem_cons.mp hx with rfl | hx
            · exact ⟨_, rfl, by rw [ek]; exact ht⟩
            · exact e2 x hx
theorem Reps.of_prs {K : PySem.W.Frag} {H : Hp} : ∀ {ys : List V}, (∀ x ∈ ys, ∃ t, x = V.ref t ∧ H t = some (.tup [.int (kOf H x).1, .int (kOf H x).2])) → Reps K H ys (WL.prs (ys.map (kOf H)))
  | [], _ => .nil
  | y :: ys, h => by
    obtain ⟨t, e, ht⟩ := h y (List.mem_cons_self ..)
    subst e
    exact .cons (.tup ht (.cons .int (.cons .int .nil))) (Reps.of_prs fun x hx => h x (List.mem_cons_of_mem _ hx))
theorem ok_sortP : PrimOk X (rSortedPO X.K) sortPP := by
  intro Hk H vs ds P R ex vv ⟨d, ps, e, hd, q⟩ k
  subst e
  obtain ⟨v, rfl, h⟩ := vs1 vv
  obtain ⟨a, ws, rfl, hr, rr⟩ := h.seqL ex (seqLD_eq hd)
  obtain ⟨e1, e2⟩ := Reps.prs rr
  refine ⟨a, ws, kOf Hk, rfl, hr, fun x hx => ?_, fun ys p h1 h2 hp => ?_⟩
  · obtain ⟨t, et, ht⟩ := e2 x hx
    exact ⟨t, et, ex _ _ ht⟩
  · have hy : ∀ x ∈ ys, ∃ t, x = V.ref t ∧ Hk t = some (.tup [.int (kOf Hk x).1, .int (kOf Hk x).2]) := fun x hx => e2 x (h2.perm.mem_iff.mp hx)
    refine k _ (q (ys.map (kOf Hk)) ?_ ?_) p _ hp (Reps.of_prs hy)
    · rw [← e1]; exact h2.perm.map _
    · rw [List.pairwise_map]
      have h1' := h1
      unfold SrtO.Srtd at h1'
      refine h1'.imp fun {a b} z => ?_
      have := SrtO.lexB_no.mp z
      omega
/-! ### xs.index(i), ints -/
variable {e : Expr} {te : VE}
def vIdxI (i : Nat) (te : VE) : VE := fun ρ Q => (∃ s d l, ρ[i]? = some s ∧ slotD s = some d ∧ seqLD d = some l) ∧ te ρ fun s ρ1 => ∃ (x : Int) (ns : List Int) (s1 : Slot) (d1 : D), s = .sh (.int x) ∧ ρ1[i]? = some s1 ∧ slotD s1 = some d1 ∧ seqLD d1 = some (ns.map D.int) ∧ x ∈ ns ∧
  ∀ j : Nat, ns[j]? = some x → (∀ m, m < j → ns[m]? ≠ some x) → Q (.sh (.int j)) ρ1
theorem first_atI {x : Int} : ∀ {ss : List Int}, x ∈ ss → ∃ j : Nat, ss[j]? = some x ∧ ∀ m, m < j → ss[m]? ≠ some x
  | [], h => by cases h
  | s :: ss, h => by
    by_cases e : s = x
    · exact ⟨0, by simp [e], fun m hm => by omega⟩
    · have h' : x ∈ ss := (List.mem_cons.mp h).elim (fun z => absurd z.symm e) id
      obtain ⟨j, h1, h2⟩ := first_atI h'
      refine ⟨j + 1, by simpa using h1, fun m hm => ?_⟩
      cases m with
      | zero => simp [e]
      | succ m => simpa using h2 m (by omega)
theorem run_idxI (i : Nat) (h : PWE X Φ e te) : RunE X.K Φ (tBM X.K "list" (rIndex X.K) (tVar i) (tCons (tSem X e) tNil)) (vIdxI i te) := ⟨fun ρ Q Hk T σ H P ⟨⟨s0, d0, l0, e0, hd0, hl0⟩, q⟩ hh p => by
  obtain ⟨v0, ev⟩ := hh.some_at e0 hd0
  obtain ⟨a, us, ea, hr, r⟩ := (hh.slot_view e0 ev hd0).seqL hh.ex (seqLD_eq hl0)
  subst ea
  refine ⟨.ref a, ev, .inl ⟨rfl, us, hr⟩, h.run ρ _ Hk T σ H _ q hh fun v H1 Hk1 ρ1 s e1 h1 k1 ⟨x, ns, s1, d1, hs, e2, hd1, hl1, hx, q1⟩ => ?_⟩
  subst hs
  obtain ⟨v', ev', rv⟩ := h1.top
  cases ev'; cases rv
  obtain ⟨a1, us1, ea1, hr1, r1⟩ := (h1.slot_view e2 ev hd1).seqL h1.ex (seqLD_eq hl1)
  cases ea1
  have eu := r1.ints
  subst eu
  obtain ⟨j, hj, hm⟩ := first_atI hx
  refine ⟨a, _, .int x, j, .int x, rfl, rfl, hr1, rfl, ?_, by rw [List.getElem?_map, hj]; rfl, by simp [eqV], fun m z' hm1 hz => ?_, p _ _ Hk1 ρ1 _ e1 (h1.pop.sh .int) k1 (q1 j hj hm)⟩
  · simp [List.all_eq_true, flatV]
  · rw [List.getElem?_map] at hz
    obtain ⟨y, hy, ey⟩ := Option.map_eq_some_iff.mp hz
    subst ey
    have : y ≠ x := fun z => hm m hm1 (by rw [hy, z])
    simp [eqV, this]⟩
/-! ### a dict of the module, its values ints -/
/-- the dict at d tells these numbers -/
structure KInts (K : PySem.W.Frag) (w : World) (d : Addr) (L : List (Str × Int)) : Prop where
  ex : ∃ es n, KDict K w d es n
  look : ∀ z i, (z, i) ∈ L → ∃ t, PySem.W.nsIn K d z = some (some (.int i t))
def vKd (L : List (Str × Int)) (to : VO) : VE := fun ρ Q => to ρ fun a ρ1 => ∃ z i, argD ρ1 a = some (.str z) ∧ (z, i) ∈ L ∧ Q (.sh (.int i)) ρ1
theorem ix_kd {d : Addr} {es : Array DictEntry} {n : Nat} (D : KDict X.K X.w d es n) : IxR X (fun x y H Q => ∃ (z : Str) (u0 : Value) (v0 : V), x = .ref d ∧ y = .str z ∧ PySem.W.nsIn X.K d z = some (some u0) ∧ RelV v0 u0 ∧ Q v0 H) := by
  intro value slice pins s σ H x y v u Q I rx ry h hs
  have hx : x = .ref d := by obtain ⟨_, _, _, e, _⟩ := h; exact e
  subst hx
  have hv : v = Value.ref d := rx
  subst hv
  exact tail_any (kd_type D I) PySem.F.slot_dict_getitem.lookup (op_item_kd D pins s σ H (V.ref d) y (Value.ref d) u Q I (show L2.RelV (V.ref d) (Value.ref d) from rfl) ry h) hs
theorem run_kd {d : Addr} {L : List (Str × Int)} {b : Expr} {to : VO} (D : KInts X.K X.w d L) (hb : PWO X Φ b to) :
    RunE X.K Φ (tOp (fun x y H Q => ∃ (z : Str) (u0 : Value) (v0 : V), x = .ref d ∧ y = .str z ∧ PySem.W.nsIn X.K d z = some (some u0) ∧ RelV v0 u0 ∧ Q v0 H) (tC (.ref d)) (tSem X b)) (vKd L to) := ⟨fun ρ Q Hk T σ H P q hh p =>
  hb.run ρ _ Hk T σ H _ q hh fun u H2 Hk2 ρ2 b us e2 h2 hh2 k2 ⟨z, i, hz, hm, q2⟩ => by
    have bv : View X.K Hk2 H2 u (.str z) := ArgAt.view (ts := us) (T := T) hh2 h2 hz
    obtain ⟨t, ht⟩ := D.look z i hm
    exact ⟨z, .int i t, .int i, rfl, bv.str, ht, ⟨t, rfl⟩, p _ H2 Hk2 ρ2 _ e2 (hh2.drop.sh .int) k2 q2⟩⟩
end
end WL

set_option Elab.async false
set_option linter.all false
set_option maxRecDepth 100000
set_option maxHeartbeats 4000000
/-! WK: dicts whose keys are nested tuples of ints (sets of them: their values are True). -/
namespace WL
open PySem PySem.Spec PyProof.Rows L2
variable [TBs]

/-! ### keys as data -/
theorem keyBs_all : ∀ {n : Nat} {ds : List D}, keyBs n ds = true → ∀ d ∈ ds, keyB n d = true
  | _, [], _, d, h => by cases h
  | n, x :: ds, e, d, h => by
    unfold keyBs at e
    rw [Bool.and_eq_true] at e
    rcases List.mem_cons.mp h with rfl | h
    · exact e.1
    · exact keyBs_all e.2 d h
theorem all_keyBs : ∀ {n : Nat} {ds : List D}, (∀ d ∈ ds, keyB n d = true) → keyBs n ds = true
  | _, [], _ => by unfold keyBs; rfl
  | n, x :: ds, e => by
    unfold keyBs
    rw [e x (List.mem_cons_self ..), all_keyBs fun d h => e d (List.mem_cons_of_mem _ h)]; rfl
/-- int, or a tuple -/
theorem keyB_cases {n : Nat} {d : D} (h : keyB n d = true) : (∃ i, d = .int i) ∨ ∃ m ds, n = m + 1 ∧ d = .tup ds ∧ ∀ x ∈ ds, keyB m x = true := by
  cases d with
  | int i => exact .inl ⟨i, rfl⟩
  | tup ds =>
    cases n with
    | zero => unfold keyB at h; cases h
    | succ m => unfold keyB at h; exact .inr ⟨m, ds, rfl, rfl, keyBs_all h⟩
  | _ => cases n <;> (unfold keyB at h; cases h)
theorem toPy_tup {ds : List D} {p : PyData} (h : toPy (.tup ds) = some p) : ∃ ps, toPys ds = some ps ∧ p = .tuple ps := by
  unfold toPy at h
  obtain ⟨ps, e1, e2⟩ := Option.map_eq_some_iff.mp h
  exact ⟨ps, e1, e2.symm⟩
theorem toPys_cons {d : D} {ds : List D} {ps : List PyData} (h : toPys (d :: ds) = some ps) : ∃ p qs, toPy d = some p ∧ toPys ds = some qs ∧ ps = p :: qs := by
  unfold toPys at h
  split at h
  · rename_i p qs e1 e2
    cases h
    exact ⟨p, qs, e1, e2, rfl⟩
  · cases h
theorem key_py : ∀ (n : Nat) (d : D), keyB n d = true → ∃ p, toPy d = some p ∧ p.canLay0 = true ∧ p.depth ≤ n := by
  intro n
  induction n with
  | zero =>
    intro d h
    rcases keyB_cases h with ⟨i, rfl⟩ | ⟨m, ds, e, _⟩
    · exact ⟨.int i, by unfold toPy; rfl, rfl, Nat.zero_le _⟩
    · cases e
  | succ n ih =>
    intro d h
    rcases keyB_cases h with ⟨i, rfl⟩ | ⟨m, ds, e, rfl, hd⟩
    · exact ⟨.int i, by unfold toPy; rfl, rfl, Nat.zero_le _⟩
    · cases e
      have all : ∀ l : List D, (∀ x ∈ l, keyB n x = true) → ∃ ps, toPys l = some ps ∧ PyData.canLayAll0 ps = true ∧ PyData.depthAll ps ≤ n := by
        intro l
        induction l with
        | nil => intro _; exact ⟨[], by unfold toPys; rfl, rfl, Nat.zero_le _⟩
        | cons x l ihl =>
          intro hx
          obtain ⟨p, p1, p2, p3⟩ := ih x (hx x (List.mem_cons_self ..))
          obtain ⟨ps, q1, q2, q3⟩ := ihl fun y hy => hx y (List.mem_cons_of_mem _ hy)
          refine ⟨p :: ps, by unfold toPys; rw [p1, q1], ?_, ?_⟩
          · unfold PyData.canLayAll0; rw [p2, q2]; rfl
          · unfold PyData.depthAll; exact Nat.max_le.mpr ⟨p3, q3⟩
      obtain ⟨ps, h1, h2, h3⟩ := all ds hd
      refine ⟨.tuple ps, by unfold toPy; rw [h1]; rfl, ?_, ?_⟩
      · unfold PyData.canLay0; exact h2
      · unfold PyData.depth; omega
/-- equal as data if and only if equal -/
theorem key_eqv : ∀ (n : Nat) (d e : D), keyB n d = true → keyB n e = true → ∀ p q, toPy d = some p → toPy e = some q → (PyData.eqv p q = true ↔ d = e) := by
  intro n
  induction n with
  | zero =>
    intro d e hd he p q hp hq
    rcases keyB_cases hd with ⟨i, rfl⟩ | ⟨m, ds, z, _⟩
    · rcases keyB_cases he with ⟨j, rfl⟩ | ⟨m, ds, z, _⟩
      · unfold toPy at hp hq; cases hp; cases hq
        simp [PyData.eqv]
      · cases z
    · cases z
  | succ n ih =>
    intro d e hd he p q hp hq
    rcases keyB_cases hd with ⟨i, rfl⟩ | ⟨m, ds, z, rfl, h1⟩
    · rcases keyB_cases he with ⟨j, rfl⟩ | ⟨m, es, z, rfl, h2⟩
      · unfold toPy at hp hq; cases hp; cases hq
        simp [PyData.eqv]
      · obtain ⟨qs, _, rfl⟩ := toPy_tup hq
        unfold toPy at hp; cases hp
        simp [PyData.eqv]
    · cases z
      obtain ⟨ps, hps, rfl⟩ := toPy_tup hp
      rcases keyB_cases he with ⟨j, rfl⟩ | ⟨m, es, z, rfl, h2⟩
      · unfold toPy at hq; cases hq
        simp [PyData.eqv]
      · cases z
        obtain ⟨qs, hqs, rfl⟩ := toPy_tup hq
        have all : ∀ (l m : List D), (∀ x ∈ l, keyB n x = true) → (∀ x ∈ m, keyB n x = true) → ∀ ps qs, toPys l = some ps → toPys m = some qs → (PyData.eqvAll ps qs = true ↔ l = m) := by
          intro l
          induction l with
          | nil =>
            intro m _ _ ps qs e1 e2
            unfold toPys at e1; cases e1
            cases m with
            | nil => unfold toPys at e2; cases e2; simp [PyData.eqvAll]
            | cons y m => obtain ⟨_, _, _, _, rfl⟩ := toPys_cons e2; simp [PyData.eqvAll]
          | cons x l ihl =>
            intro m hl hm ps qs e1 e2
            obtain ⟨p1, ps1, a1, a2, rfl⟩ := toPys_cons e1
            cases m with
            | nil => unfold toPys at e2; cases e2; simp [PyData.eqvAll]
            | cons y m =>
              obtain ⟨q1, qs1, b1, b2, rfl⟩ := toPys_cons e2
              have i1 := ih x y (hl x (List.mem_cons_self ..)) (hm y (List.mem_cons_self ..)) p1 q1 a1 b1
              have i2 := ihl m (fun z hz => hl z (List.mem_cons_of_mem _ hz)) (fun z hz => hm z (List.mem_cons_of_mem _ hz)) ps1 qs1 a2 b2
              simp only [PyData.eqvAll, Bool.and_eq_true, i1, i2, List.cons.injEq]
        have := all ds es h1 h2 ps qs hps hqs
        simp only [PyData.eqv, this, D.tup.injEq]
theorem key_inj {n : Nat} {d e : D} (hd : keyB n d = true) (he : keyB n e = true) {p : PyData} (hp : toPy d = some p) (hq : toPy e = some p) : d = e := by
  refine (key_eqv n d e hd he p p hp hq).mp ?_
  exact (key_eqv n d d hd hd p p hp hp).mpr rfl

/-! ### hashing, comparing -/
mutual
def drawsD : D → Nat
  | .tup ds => drawsDs ds + 1
  | _ => 1
def drawsDs : List D → Nat
  | [] => 0
  | d :: ds => drawsD d + drawsDs ds
end
theorem hashDs_map : ∀ ds : List D, hashDs ds = ds.map hashD
  | [] => by unfold hashDs; rfl
  | d :: ds => by unfold hashDs; rw [hashDs_map ds]; rfl
theorem drawsDs_cons (x : D) (l : List D) : drawsDs (x :: l) = drawsD x + drawsDs l := by rw [drawsDs]
theorem drawsDs_app : ∀ (a b : List D), drawsDs (a ++ b) = drawsDs a + drawsDs b
  | [], b => by rw [List.nil_append, drawsDs]; omega
  | x :: a, b => by
    rw [List.cons_append, drawsDs_cons, drawsDs_cons, drawsDs_app a b]; omega
theorem drawsDs_one (d : D) : drawsDs [d] = drawsD d := by
  rw [drawsDs_cons, drawsDs]; omega
section
variable {P : Program} {w : World} {E : Value → Shared → Prop}
theorem reads_tup {h : Heap} {v : Value} {ps : List PyData} {as : List Addr} (r : PySem.Reads h v (.tuple ps) as) : ∃ a o items n, v = .ref a ∧ h.get? a = some o ∧ o.cls = .type "tuple" ∧ o.data = .seq items n ∧ ReadsAll h items.toList ps as := by
  cases r with
  | tuple h1 h2 h3 h4 => exact ⟨_, _, _, _, rfl, h1, h2, h3, h4⟩
theorem hash_key : ∀ (n : Nat) (d : D) (A : Around) (s : Shared) (v : Value) (p : PyData) (as : List Addr) (Q : Int → Shared → Prop), keyB n d = true → toPy d = some p → PySem.Reads s.heap v p as → A.units + n < cLine →
    Q (hashD d) { s with toks := s.toks + drawsD d } → wpAny (model P w) A (pyHash v) Q E s := by
  intro n
  induction n with
  | zero =>
    intro d A s v p as Q hd hp r hu h
    rcases keyB_cases hd with ⟨i, rfl⟩ | ⟨m, ds, z, _⟩
    · unfold toPy at hp; cases hp; cases r
      unfold hashD drawsD at h
      exact wpAny_pyHash_int h
    · cases z
  | succ n ih =>
    intro d A s v p as Q hd hp r hu h
    rcases keyB_cases hd with ⟨i, rfl⟩ | ⟨m, ds, z, rfl, hk⟩
    · unfold toPy at hp; cases hp; cases r
      unfold hashD drawsD at h
      exact wpAny_pyHash_int h
    · cases z
      obtain ⟨ps, hps, rfl⟩ := toPy_tup hp
      obtain ⟨a, o, items, m, rfl, ho, hc, hdt, hr⟩ := reads_tup r
      have ty : s.TypeIs (.ref a) "tuple" := ⟨o, ho, hc⟩
      unfold hashD drawsD at h
      rw [hashDs_map] at h
      unfold pyHash
      first | unfold pyHashByItsType | skip
      first | refine wpAny_bind (wpAny_cRoomFor_or (.inr (by omega)) ?_) | skip
      refine wpAny_bind (wpAny_specialOf ty F.slot_tuple_hash.lookup ?_)
      show wpAny _ _ (if (some (Value.builtin "tuple.__hash__") == some Value.none) = true then _ else _) Q E s
      rw [if_neg (by rw [beq_builtin_none]; exact Bool.false_ne_true)]
      refine wpAny_bind (wpAny_specialOf ty F.slot_tuple_hash.lookup ?_)
      show wpAny _ _ (callSpecialIfBoundUnlessNone? (.ref a) "__hash__" _ >>= _) Q E s
      refine wpAny_bind (wpAny_callSpecialIfBoundUnlessNone?_slot ty F.slot_tuple_hash (wpAny_call_entry F.slot_tuple_hash ty F.entry_tuple_hash ?_ (F.args_tuple_hash_1 _)))
      show wpAny _ _ (Builtin.Tuple.tupleItemsOf (.ref a) >>= _) _ _ s
      refine wpAny_bind (wpAny_tupleItemsOf ho hdt ?_)
      refine wpAny_bind ?_
      rw [← Array.forIn_toList]
      refine wpAny_forIn_list _ (fun rest (b : Array Int) s' => ∃ done left ps' as', ds = done ++ left ∧ toPys left = some ps' ∧ ReadsAll s.heap rest ps' as' ∧ b.toList = done.map hashD ∧ s' = { s with toks := s.toks + drawsDs done }) _ ?_ ?_ _ _
        ⟨[], ds, ps, _, rfl, hps, hr, rfl, by unfold drawsDs; rfl⟩
      · rintro x rest b s' ⟨done, left, ps', as', e, hp', hr', hb, rfl⟩
        cases hr' with
        | cons r1 r2 =>
          cases left with
          | nil => unfold toPys at hp'; cases hp'
          | cons y left =>
            obtain ⟨p1, ps1, a1, a2, e2⟩ := toPys_cons hp'
            cases e2
            have hy : keyB n y = true := hk y (by rw [e]; simp)
            refine wpAny_bind (ih y A.in1 { s with toks := s.toks + drawsDs done } x _ _ _ hy a1 r1 (by show A.units + 1 + n < cLine; omega) ?_)
            have fin : ∃ done' left' ps' as', ds = done' ++ left' ∧ toPys left' = some ps' ∧ ReadsAll s.heap rest ps' as' ∧ (b.push (hashD y)).toList = done'.map hashD ∧ ({ s with toks := s.toks + drawsDs done + drawsD y } : Shared) = { s with toks := s.toks + drawsDs done' } :=
              ⟨done ++ [y], left, _, _, by rw [e]; simp, a2, r2, by simp [hb], by rw [drawsDs_app, drawsDs_one, Nat.add_assoc]⟩
            first
              | exact wpAny_pure fin
              | exact wpAny_bind (wpAny_pure (wpAny_pure fin))
      · rintro b s' ⟨done, left, ps', as', e, hp', hr', hb, rfl⟩
        cases hr'
        cases left with
        | cons y left => obtain ⟨_, _, _, _, z⟩ := toPys_cons hp'; cases z
        | nil =>
          rw [List.append_nil] at e
          subst e
          show wpAny _ _ (retInt (Builtin.Tuple.tupleHashOf b.toList)) _ _ _
          rw [hb]
          refine wpAny_ret_mkInt ?_
          show wpAny _ _ (if (decide (-(2 : Int) ^ 63 ≤ Builtin.Tuple.tupleHashOf (ds.map hashD)) && decide (Builtin.Tuple.tupleHashOf (ds.map hashD) < 2 ^ 63)) = true then _ else _) Q E _
          unfold reduceHash at h
          by_cases hr : (decide (-(2 : Int) ^ 63 ≤ Builtin.Tuple.tupleHashOf (ds.map hashD)) && decide (Builtin.Tuple.tupleHashOf (ds.map hashD) < 2 ^ 63)) = true
          · rw [if_pos hr]
            rw [if_pos hr] at h
            exact wpAny_pure (by simpa [Nat.add_assoc] using h)
          · rw [if_neg hr]
            rw [if_neg hr] at h
            exact wpAny_bind (wpAny_rule (wpAny_pure (by simpa [Nat.add_assoc] using h)))
theorem quiet_key : ∀ (n : Nat) (d : D) (m : Nat) (A : Around) (s : Shared) (v : Value) (p : PyData) (as : List Addr) (Q : Bool → Shared → Prop), n ≤ m → keyB n d = true → toPy d = some p → PySem.Reads s.heap v p as → Q true s → wpAny (model P w) A (eqIsQuiet m v) Q E s := by
  intro n
  induction n with
  | zero =>
    intro d m A s v p as Q hm hd hp r h
    rcases keyB_cases hd with ⟨i, rfl⟩ | ⟨_, _, z, _⟩
    · unfold toPy at hp; cases hp; cases r
      rw [eqIsQuiet_byValue _ (by rfl)]
      exact wpAny_pure h
    · cases z
  | succ n ih =>
    intro d m A s v p as Q hm hd hp r h
    rcases keyB_cases hd with ⟨i, rfl⟩ | ⟨_, ds, z, rfl, hk⟩
    · unfold toPy at hp; cases hp; cases r
      rw [eqIsQuiet_byValue _ (by rfl)]
      exact wpAny_pure h
    · cases z
      obtain ⟨ps, hps, rfl⟩ := toPy_tup hp
      obtain ⟨a, o, items, k, rfl, ho, hc, hdt, hr⟩ := reads_tup r
      have ty : s.TypeIs (.ref a) "tuple" := ⟨o, ho, hc⟩
      obtain ⟨m, rfl⟩ : ∃ j, m = j + 1 := ⟨m - 1, by omega⟩
      unfold eqIsQuiet
      refine wpAny_bind (wpAny_specialOf ty F.slot_tuple_eq.lookup ?_)
      show wpAny _ _ (isInstance (.ref a) (.type "tuple") >>= _) _ _ s
      refine wpAny_bind (wpAny_isInstance ty isSubtype_tuple_tuple ?_)
      simp only [Bool.not_true, Bool.false_eq_true, if_false]
      refine wpAny_bind (wpAny_seqItems ho hdt ?_)
      refine wpAny_bind ?_
      show wpAny _ _ (forIn items _ _) _ _ s
      rw [← Array.forIn_toList]
      refine wpAny_forIn_list _ (fun rest r s' => r.1 = none ∧ s' = s ∧ ∃ l ps' as', (∀ x ∈ l, keyB n x = true) ∧ toPys l = some ps' ∧ ReadsAll s.heap rest ps' as') _ ?_ ?_ _ _ ⟨rfl, rfl, ds, ps, _, hk, hps, hr⟩
      · rintro x rest r s' ⟨hr1, rfl, l, ps', as', hl, hp', hr'⟩
        cases hr' with
        | cons r1 r2 =>
          cases l with
          | nil => unfold toPys at hp'; cases hp'
          | cons y l =>
            obtain ⟨p1, ps1, a1, a2, e2⟩ := toPys_cons hp'
            cases e2
            refine wpAny_bind (ih y m A s' x _ _ _ (by omega) (hl y (List.mem_cons_self ..)) a1 r1 ?_)
            simp only [Bool.not_true, Bool.false_eq_true, if_false]
            exact wpAny_pure ⟨rfl, rfl, l, _, _, fun z hz => hl z (List.mem_cons_of_mem _ hz), a2, r2⟩
      · rintro ⟨r1, r2⟩ s' ⟨hr1, rfl, _⟩
        simp only at hr1
        subst hr1
        exact wpAny_pure h
theorem keeps_key : ∀ (n : Nat) (d : D) {h h' : Heap} {v : Value} {p : PyData} {as : List Addr} {b : Addr} {o : Obj} {es : Array DictEntry} {ep : Nat}, keyB n d = true → toPy d = some p → PySem.Reads h v p as → h.get? b = some o → o.data = .dict es ep → Heap.SameBut b h h' → ∃ as', PySem.Reads h' v p as' := by
  intro n
  induction n with
  | zero =>
    intro d h h' v p as b o es ep hd hp r hb hdt sb
    rcases keyB_cases hd with ⟨i, rfl⟩ | ⟨_, _, z, _⟩
    · unfold toPy at hp; cases hp; cases r
      exact ⟨_, .int _ _⟩
    · cases z
  | succ n ih =>
    intro d h h' v p as b o es ep hd hp r hb hdt sb
    rcases keyB_cases hd with ⟨i, rfl⟩ | ⟨_, ds, z, rfl, hk⟩
    · unfold toPy at hp; cases hp; cases r
      exact ⟨_, .int _ _⟩
    · cases z
      obtain ⟨ps, hps, rfl⟩ := toPy_tup hp
      obtain ⟨a, o', items, k, rfl, ho, hc, hdt', hr⟩ := reads_tup r
      have ne : a ≠ b := fun z => by
        rw [z, hb] at ho; cases ho
        rw [hdt] at hdt'; cases hdt'
      have all : ∀ (l : List D) (vs : List Value) (ps : List PyData) (as : List Addr), (∀ x ∈ l, keyB n x = true) → toPys l = some ps → ReadsAll h vs ps as → ∃ as', ReadsAll h' vs ps as' := by
        intro l
        induction l with
        | nil => intro vs ps as _ e r; unfold toPys at e; cases e; cases r; exact ⟨_, .nil⟩
        | cons y l ihl =>
          intro vs ps as hl e r
          obtain ⟨p1, ps1, a1, a2, e2⟩ := toPys_cons e
          subst e2
          cases r with
          | cons r1 r2 =>
            obtain ⟨as1, q1⟩ := ih y (hl y (List.mem_cons_self ..)) a1 r1 hb hdt sb
            obtain ⟨as2, q2⟩ := ihl _ _ _ (fun z hz => hl z (List.mem_cons_of_mem _ hz)) a2 r2
            exact ⟨_, .cons q1 q2⟩
      obtain ⟨as', q⟩ := all ds items.toList ps _ hk hps hr
      exact ⟨_, .tuple ((sb.2 a ne).trans ho) hc hdt' q⟩
end
noncomputable instance decD : DecidableEq D := fun a b => Classical.propDecidable (a = b)
/-- keys that are nested tuples of ints -/
noncomputable def dKind (P : Program) (w : World) : HeapKind P w D where
  is := fun h d a => keyT d ∧ ∃ p as, toPy d = some p ∧ PySem.Reads h (.ref a) p as
  hash := hashD
  draws := drawsD
  room := fun A => A.units + 8 < cLine
  inj := fun {h a x y} ⟨k1, p, as, e1, r1⟩ ⟨k2, q, bs, e2, r2⟩ => by
    obtain ⟨p', e, c, _⟩ := key_py 6 x k1.1
    rw [e1] at e; cases e
    have := SeqAt.Reads.unique p q _ _ _ c r1 r2
    subst this
    exact key_inj k1.1 k2.1 e1 e2
  keeps := fun {h h' k a d o es ep} ⟨k1, p, as, e1, r1⟩ ho hd sb => by
    obtain ⟨as', r⟩ := keeps_key 6 k k1.1 e1 r1 ho hd sb
    exact ⟨k1, p, as', e1, r⟩
  pyHash := fun {A E s k a Q} hu ⟨k1, p, as, e1, r1⟩ h => hash_key 6 k A s _ p as Q k1.1 e1 r1 (by have : A.units + 8 < cLine := hu; omega) h
  eqBool := fun {A E s x y a b Q} hu ⟨k1, p, as, e1, r1⟩ ⟨k2, q, bs, e2, r2⟩ h => by
    obtain ⟨p', e, c, dp⟩ := key_py 6 x k1.1
    rw [e1] at e; cases e
    obtain ⟨q', e', c', _⟩ := key_py 6 y k2.1
    rw [e2] at e'; cases e'
    refine SeqAt.eqAt_reads p q A s _ _ as bs r1 r2 c c' (by have : A.units + 8 < cLine := hu; have := Nat.min_le_left p.depth q.depth; omega) P w E Q ?_
    have := key_eqv 6 x y k1.1 k2.1 p q e1 e2
    by_cases hxy : x = y
    · rw [decide_eq_true hxy] at h
      rw [this.mpr hxy]; exact h
    · rw [decide_eq_false hxy] at h
      have : PyData.eqv p q = false := by
        cases hv : PyData.eqv p q with
        | false => rfl
        | true => exact absurd (this.mp hv) hxy
      rw [this]; exact h
  quiet := fun {A E s k a Q} ⟨k1, p, as, e1, r1⟩ h => quiet_key 6 k 8 A s _ p as Q (by decide) k1.1 e1 r1 h
end WL

set_option Elab.async false
set_option linter.all false
set_option maxRecDepth 100000
set_option maxHeartbeats 4000000
/-! WO: a dict of nested keys: {}, {k: True}, d[k] = True, k in d, for k in d. -/
namespace WL
open PySem PySem.Spec PyProof.Rows L2
variable [TBs]

def KRep (K : PySem.W.Frag) (H : Hp) (q : Addr) (d : D) : Prop := ∃ py, toPy d = some py ∧ Dp K H (.ref q) py
structure KSok (K : PySem.W.Frag) (H : Hp) (p : Addr) (qs : List Addr) (ds : List D) : Prop where
  at_ : H p = some (KS p qs ds)
  rep : Paired (KRep K H) qs ds
  nd : ds.Nodup
  kk : ∀ d ∈ ds, keyT d
  hz : ds.length ≤ sizeLine
  hp : (p == sysModules) = false
def xsKS (qs : List Addr) (ds : List D) : List (D × Addr × Value) := (qs.zip ds).map fun x => (x.2, x.1, Value.bool true)
theorem xsKS_keys : ∀ {qs : List Addr} {ds : List D}, qs.length = ds.length → (xsKS qs ds).map (·.1) = ds
  | [], [], _ => rfl
  | [], _ :: _, h => by simp at h
  | _ :: _, [], h => by simp at h
  | q :: qs, d :: ds, h => by
    have ih := xsKS_keys (qs := qs) (ds := ds) (by simpa using h)
    show d :: (xsKS qs ds).map (·.1) = _
    rw [ih]
theorem xsKS_len {qs : List Addr} {ds : List D} (h : qs.length = ds.length) : (xsKS qs ds).length = ds.length := by
  have := congrArg List.length (xsKS_keys h)
  rw [List.length_map] at this
  exact this
theorem xsKS_at {qs : List Addr} {ds : List D} (h : qs.length = ds.length) (d : D) : (atKey (xsKS qs ds) d).isSome = decide (d ∈ ds) := by
  unfold atKey
  rw [Option.isSome_map]
  by_cases hd : d ∈ ds
  · rw [decide_eq_true hd]
    rw [← xsKS_keys h] at hd
    obtain ⟨x, hx, e⟩ := List.mem_map.mp hd
    exact List.find?_isSome.mpr ⟨x, hx, by simp [e]⟩
  · rw [decide_eq_false hd]
    cases hf : (xsKS qs ds).find? (fun x => decide (x.1 = d)) with
    | none => rfl
    | some x =>
      have e := of_decide_eq_true (List.find?_some (p := fun x : D × Addr × Value => decide (x.1 = d)) hf)
      exact absurd (by rw [← xsKS_keys h, ← e]; exact List.mem_map_of_mem (List.mem_of_find?_eq_some hf)) hd
theorem xsKS_put {qs : List Addr} {ds : List D} (d : D) : (xsKS qs ds).map (putAt d (.bool true)) = xsKS qs ds := by
  have : ∀ x ∈ xsKS qs ds, putAt d (.bool true) x = x := fun x hx => by
    obtain ⟨y, _, rfl⟩ := List.mem_map.mp hx
    unfold putAt
    split <;> rfl
  conv => rhs; rw [← List.map_id (xsKS qs ds)]
  exact List.map_congr_left this
theorem xsKS_app {qs : List Addr} {ds : List D} (h : qs.length = ds.length) (q : Addr) (d : D) : xsKS qs ds ++ [(d, q, .bool true)] = xsKS (qs ++ [q]) (ds ++ [d]) := by
  unfold xsKS
  rw [List.zip_append h, List.map_append]; rfl
section
variable {P : Program} {w : World}
theorem entKS_map (qs : List Addr) (ds : List D) : (xsKS qs ds).map (entryOfKey (dKind P w)) = (qs.zip ds).map entKS := by
  unfold xsKS
  rw [List.map_map]; rfl
theorem ksat_of {h : Heap} {p : Addr} {qs : List Addr} {ds : List D} (x : h.DictOfH (dKind P w) p (xsKS qs ds)) : KSat p qs ds h := by
  obtain ⟨o, es, ep, ho, ⟨c1, c2, c3⟩, hd, he, _, _⟩ := x
  rw [entKS_map] at he
  have ee : es = ((qs.zip ds).map entKS).toArray := by rw [← he]
  refine ⟨ep, ?_⟩
  rw [ho]
  obtain ⟨cls, dd, data, sl⟩ := o
  simp only at c1 c2 c3 hd
  subst c1; subst c2; subst c3; subst hd; subst ee
  rfl
theorem ks_obj {H : Hp} {h : Heap} {p : Addr} {qs : List Addr} {ds : List D} (x : KSat p qs ds h) : ObjOk P w H h p (KS p qs ds) :=
  ⟨x, let ⟨_, e⟩ := x; ⟨_, e⟩, fun _ _ ⟨ep, e⟩ st => ⟨ep, st _ e⟩⟩
end
section
variable {X : Cx} {pins : List (Addr × Obj)} {σ : L2.St} {H : Hp} {s : Shared} {p q : Addr} {qs : List Addr} {ds : List D} {d : D}
theorem KRep.is (I : Inv X pins σ H s) (r : KRep X.K H q d) (k : keyT d) : (dKind X.prog X.w).is s.heap d q := by
  obtain ⟨py, e, dp⟩ := r
  obtain ⟨as, rd⟩ := Dp.reads I py (.ref q) (.ref q) dp rfl
  exact ⟨k, py, as, e, rd⟩
theorem paired_mem {α β : Type} {G : α → β → Prop} : ∀ {l : List α} {m : List β}, Paired G l m → ∀ x ∈ l.zip m, G x.1 x.2 ∧ x.2 ∈ m
  | _, _, .nil, x, h => by simp at h
  | _, _, .cons r t, x, h => by
    rcases List.mem_cons.mp (by simpa using h) with rfl | h
    · exact ⟨r, List.mem_cons_self ..⟩
    · exact ⟨(paired_mem t x h).1, List.mem_cons_of_mem _ (paired_mem t x h).2⟩
theorem KSok.len {K : PySem.W.Frag} (k : KSok K H p qs ds) : qs.length = ds.length := Paired.length k.rep
theorem KSok.dict (I : Inv X pins σ H s) (k : KSok X.K H p qs ds) : s.heap.DictOfH (dKind X.prog X.w) p (xsKS qs ds) := by
  obtain ⟨⟨ep, e⟩, _, _⟩ := I.hok p _ k.at_
  refine ⟨_, _, ep, e, ⟨rfl, rfl, rfl⟩, rfl, by rw [entKS_map], fun x hx => ?_, by rw [xsKS_keys k.len]; exact k.nd⟩
  obtain ⟨y, hy, rfl⟩ := List.mem_map.mp hx
  obtain ⟨r, m⟩ := paired_mem k.rep y hy
  exact r.is I (k.kk _ m)
/-- d[k] = True -/
def rSetKS (K : PySem.W.Frag) : TSet := fun o i v H Q => ∃ p qs ds q d, o = .ref p ∧ i = .ref q ∧ v = .bl true ∧ KSok K H p qs ds ∧ KRep K H q d ∧ keyT d ∧ ds.length < sizeLine ∧ (d ∈ ds → Q (upd H p (KS p qs ds))) ∧ (d ∉ ds → Q (upd H p (KS p (qs ++ [q]) (ds ++ [d]))))
theorem set_ks (hu : X.A.units + 64 < cLine) : PSet X (rSetKS X.K) := by
  intro pins s σ H o i v ov iv u Q I ro ri rv ⟨p, qs, ds, q, d, e1, e2, e3, k, r, kt, hz, q1, q2⟩
  subst e1; subst e2; subst e3
  obtain rfl : ov = Value.ref p := ro
  obtain rfl : iv = Value.ref q := ri
  obtain rfl : u = Value.bool true := rv
  have hl := xsKS_len k.len
  refine wpAny_setItem_heap (knd := dKind X.prog X.w) (hsz := by rw [hl]; exact k.hz) (by show X.A.units + 1 + 8 < cLine; omega) (r.is I kt) (k.dict I) fun h' hm hs => ?_
  have wr : ∀ (qs' : List Addr) (ds' : List D), KSat p qs' ds' h' → Inv X pins σ (upd H p (KS p qs' ds')) { s with heap := h', toks := s.toks + drawsD d } := fun qs' ds' ks =>
    I.write (x := p) (e := p) (by rw [k.at_]; exact True.intro) (.inl rfl) (fun b u hb e => (hs.2 b hb).trans e) (let ⟨_, e⟩ := ks; ⟨_, e⟩) (ks_obj ks)
  have at_ := xsKS_at k.len d
  unfold storedH at hm
  by_cases hd : d ∈ ds
  · rw [at_, decide_eq_true hd, if_pos rfl, xsKS_put] at hm
    exact ⟨_, wr qs ds (ksat_of hm), q1 hd⟩
  · rw [at_, decide_eq_false hd, if_neg (by decide), xsKS_app k.len] at hm
    exact ⟨_, wr _ _ (ksat_of hm), q2 hd⟩
/-- k in d -/
theorem op_inKS (hu : X.A.units + 64 < cLine) : OpR X (compareOp .In) (fun x y H Q => ∃ p qs ds q d, y = .ref p ∧ x = .ref q ∧ KSok X.K H p qs ds ∧ KRep X.K H q d ∧ keyT d ∧ Q (.bl (decide (d ∈ ds))) H) := by
  intro pins s σ H x y v u Q I rx ry ⟨p, qs, ds, q, d, e1, e2, k, r, kt, q1⟩
  subst e1; subst e2
  obtain rfl : v = Value.ref q := rx
  obtain rfl : u = Value.ref p := ry
  refine wpAny_in_heap (knd := dKind X.prog X.w) (by show X.A.units + 1 + 8 < cLine; omega) (r.is I kt) k.hp (k.dict I) ?_
  rw [xsKS_at k.len d]
  exact ⟨.bl (decide (d ∈ ds)), H, I.tok _, rfl, q1⟩
/-- {} -/
theorem pe_newKS {pos : Pos} : PE X (.Dict [] [] pos) (fun σ H Q => ∀ p, H p = none → (p == sysModules) = false → Q (.ref p) (upd H p (KS p [] []))) := by
  refine ⟨fun pins s σ H Q I h => wpAny_Dict_empty ?_⟩
  have hn := I.hok.fresh (Nat.le_refl s.heap.objs.size)
  exact ⟨.ref s.heap.objs.size, _, I.laid (t' := s.toks) (fun _ _ q => Heap.get?_push_of_some _ q) (Nat.le_refl _) (ks_obj ⟨0, Heap.get?_push_size _ rfl⟩), rfl, h _ hn (beq_eq_false_iff_ne.mpr (Ne.symm (Nat.ne_of_lt I.big)))⟩
/-- {k: True} -/
theorem pe_dispKS {k v : Expr} {tk tv : TE} {pos : Pos} (hu : X.A.units + 64 < cLine) (hk : PE X k tk) (hv : PE X v tv) :
    PE X (.Dict [some k] [v] pos) (fun σ H Q => ∀ p, H p = none → (p == sysModules) = false → tk σ (upd H p (KS p [] [])) fun x H1 => tv σ H1 fun y H2 => H2 p = some (KS p [] []) ∧ ∃ q d, x = .ref q ∧ y = .bl true ∧ KRep X.K H2 q d ∧ keyT d ∧ Q (.ref p) (upd H2 p (KS p [q] [d]))) := by
  refine ⟨fun pins s σ H Q I h => ?_⟩
  have hn := I.hok.fresh (Nat.le_refl s.heap.objs.size)
  have hp : (s.heap.objs.size == sysModules) = false := beq_eq_false_iff_ne.mpr (Ne.symm (Nat.ne_of_lt I.big))
  have I1 := I.laid (a := s.heap.objs.size) (o := KS s.heap.objs.size [] []) (h' := s.heap.push { cls := .type "dict", data := .dict #[] }) (t' := s.toks) (fun _ _ q => Heap.get?_push_of_some _ q) (Nat.le_refl _) (ks_obj ⟨0, Heap.get?_push_size _ rfl⟩)
  have hsh := zip_pairTrees [some k] [v] X.env pos rfl rfl
  rw [arm_eval_Dict, hsh, dictDisplay_pairs (pairTrees [some k] [v] X.env pos) (by intro z; cases z) (by show (1 : Nat) < 17; decide)]
  refine wpAny_bind (wpAny_standAt (wpAny_bind (wpAny_subDictH (knd := dKind X.prog X.w) (by show X.A.units + 8 < cLine; omega) (by show (1 : Nat) ≤ 15; decide) ?_)))
  refine pairTrees_cons_walk (thn (hk.run pins _ σ _ _ I1 (h _ hn hp)) fun u s1 ⟨x, H1, I1, rx, q1⟩ => thn (hv.run pins s1 σ H1 _ I1 q1) fun w2 s2 ⟨y, H2, I2, ry, q2⟩ => pairTrees_nil_walk ?_)
  obtain ⟨e, q, d, ex, ey, r, kt, q3⟩ := q2
  subst ex; subst ey
  obtain rfl : u = Value.ref q := rx
  obtain rfl : w2 = Value.bool true := ry
  have k0 : KSok X.K H2 s.heap.objs.size [] [] := ⟨e, .nil, List.nodup_nil, (fun d hd => by cases hd), Nat.zero_le _, hp⟩
  refine ⟨[(d, q, .bool true)], ⟨rfl, rfl, r.is I2 kt, trivial⟩, k0.dict I2, fun h' tk hm hs => ?_⟩
  have ks : KSat s.heap.objs.size [q] [d] h' := ksat_of (P := X.prog) (w := X.w) hm
  exact wpAny_pure ⟨.ref s.heap.objs.size, _, I2.write (t' := tk) (x := s.heap.objs.size) (e := s.heap.objs.size) (by rw [e]; exact True.intro) (.inl rfl) (fun b u hb e => (hs.2 b hb).trans e) (let ⟨_, e⟩ := ks; ⟨_, e⟩) (ks_obj ks), rfl, q3⟩
end

/-! ### for k in d -/
def Itq (d : Addr) (o : Obj) (qs : List Addr) (ds : List D) : It :=
  ⟨fun i H => H d = some (.frz o (KS d qs ds)) ∧ i < qs.length, fun i H x H' => H' = H ∧ ∃ q, qs[i]? = some q ∧ x = .ref q, fun i H => H d = some (.frz o (KS d qs ds)) ∧ qs.length ≤ i⟩
def obKS (qs : List Addr) (ds : List D) (ep : Nat) : Obj := { cls := .type "dict", dict := none, data := .dict ((qs.zip ds).map entKS).toArray ep, slots := #[] }
section
variable {P : Program} {w : World} {K : PySem.W.Frag} {tg : Expr} {d : Addr} {qs : List Addr} {ds : List D} {ep : Nat}
theorem turn_ks (it : Addr) (hl : qs.length = ds.length) : Turn P w K tg (Itq d (obKS qs ds ep) qs ds) [it] it (fun i h => h.IsKeyIter it d i qs.length ep) where
  mem := List.mem_singleton.mpr rfl
  obj := fun i h st b hb => by
    rw [List.mem_singleton.mp hb]
    obtain ⟨oi, e, c, dd⟩ := st
    exact ⟨oi, e, fun v z => by rw [dd] at z; cases z⟩
  keep := fun i h h' st k => st.at fun oi e => k it (List.mem_singleton.mpr rfl) oi e
  item := by
    intro X hP hw hK hc i pins s σ H E I hf st hg
    subst hP hw hK
    obtain ⟨hd, hi⟩ := hg
    obtain ⟨f0, f1, f2, f3, f4, f5⟩ := hf it (List.mem_singleton.mpr rfl)
    obtain ⟨hgd, _⟩ := I.hok d _ hd
    have hz : i < (qs.zip ds).length := by rw [List.length_zip, hl, Nat.min_self]; omega
    have hen : (((qs.zip ds).map entKS).toArray)[i]? = some (entKS ((qs.zip ds)[i])) := by rw [List.getElem?_toArray, List.getElem?_map, List.getElem?_eq_getElem hz]; rfl
    refine next_key_item st hgd rfl (by simp [List.length_zip, hl]) hen fun h' st' sb => ?_
    have I1 : Inv X pins σ H { s with heap := h' } := I.turned (t' := s.toks) (fun b ob hb e => (sb.2 b hb).trans e) f0 f1 f3 f4 f5
    obtain ⟨oi, e, c, dd⟩ := id st'
    exact ⟨_, rfl, go_of (s := { s with heap := h' }) e c dd (by decide) ⟨.ref qs[i], H, I1, (by
      show (entKS ((qs.zip ds)[i])).key = Value.ref qs[i]
      rw [List.getElem_zip]; rfl), ⟨rfl, qs[i], List.getElem?_eq_getElem hi, rfl⟩, st', fun b hb => (hf b hb).1⟩⟩
  done := by
    intro X hP hw hK hc i pins s σ H E I hf st hg
    subst hP hw hK
    obtain ⟨hd, hi⟩ := hg
    obtain ⟨f0, f1, f2, f3, f4, f5⟩ := hf it (List.mem_singleton.mpr rfl)
    obtain ⟨hgd, _⟩ := I.hok d _ hd
    exact next_key_end (I.ok.hd hc) st hgd rfl (by simp [List.length_zip, hl]) hi fun h' eb => ⟨rfl, I.turned (t' := s.toks) (fun b ob hb e => eb b ob hb e) f0 f1 f3 f4 f5⟩
  self := fun A i s Q E st h => wpAny_pyIter_keyiter st h
end

/-! ### the slots -/
section
variable {K : PySem.W.Frag} {Φ : Fr} {Hk H : Hp} {ρ : Rho} {T L : List Cell} {σ : L2.St} {i : Nat} {ds : List D} {x : Option V}
theorem Reps.krep (ex : Same Hk H) : ∀ {qs : List Addr} {ds : List D}, Reps K Hk (qs.map V.ref) ds → (∀ d ∈ ds, keyT d) → Paired (KRep K H) qs ds
  | [], _, h, _ => by cases h; exact .nil
  | q :: qs, _, h, k => by
    cases h with
    | cons r t =>
      obtain ⟨py, e, _⟩ := key_py 6 _ (k _ (List.mem_cons_self ..)).1
      exact .cons ⟨py, e, (r.mono ex).dp e⟩ (Reps.krep ex t fun d hd => k d (List.mem_cons_of_mem _ hd))
theorem HL.ks (h : HL K Hk H ((x, .ks ds) :: L)) : ∃ p qs, x = some (.ref p) ∧ KSok K H p qs ds ∧ Reps K Hk (qs.map V.ref) ds ∧ Hk p = none ∧
    (∀ qs' ds', qs'.length = ds'.length → Reps K Hk (qs'.map V.ref) ds' → ds'.Nodup → (∀ d ∈ ds', keyT d) → ds'.length ≤ sizeLine → HL K Hk (upd H p (KS p qs' ds')) ((x, .ks ds') :: L)) ∧
    ∀ o, HL K (upd Hk p (.frz o (KS p qs ds))) (upd H p (.frz o (KS p qs ds))) ((x, .un) :: L) := by
  obtain ⟨F, hc, hn, hk⟩ := h.cells
  cases hc with
  | cons h1 t =>
    rename_i fp fq
    have nd := List.nodup_append.mp hn
    cases h1 with
    | ks hp hl r hnd kk hz hsm =>
      rename_i p qs
      have hkp : Hk p = none := hk p (by simp)
      have ne : ∀ q ∈ fq, q ≠ p := fun q hq z => nd.2.2 p (by simp) q hq z.symm
      have nt : ∀ ps, H p ≠ some (.tbl ps) := fun ps z => by rw [hp] at z; cases z
      refine ⟨p, qs, rfl, ⟨hp, Reps.krep h.ex r kk, hnd, kk, hz, hsm⟩, r, hkp, fun qs' ds' hl' r' hnd' kk' hz' => ⟨fun a u q => by rw [upd_ne (ne_of_none q hkp)]; exact h.ex a u q, h.tb.upd nt, [p] ++ fq, .cons (.ks upd_same hl' r' hnd' kk' hz' hsm) (t.mono (.refl _) fun q hq => upd_ne (ne q hq)), hn, hk⟩, fun o => ?_⟩
      have e : Same Hk (upd Hk p (.frz o (KS p qs ds))) := fun b u q => by rw [upd_ne (ne_of_none q hkp)]; exact q
      refine ⟨fun b u q => ?_, h.tb.to e (fun b ps z => ?_) (fun b ps z => ?_), fq, .cons (fp := []) .un (t.mono e fun q hq => upd_ne (ne q hq)), nd.2.1, fun q hq => by rw [upd_ne (ne q hq)]; exact hk q (List.mem_append_right _ hq)⟩
      · by_cases hb : b = p
        · rw [hb, upd_same] at q; rw [hb, upd_same]; exact q
        · rw [upd_ne hb] at q; rw [upd_ne hb]; exact h.ex b u q
      · by_cases hb : b = p
        · rw [hb, upd_same] at z; cases z
        · rw [upd_ne hb] at z; exact h.tb.nt b ps z
      · rw [upd_ne (fun y => nt ps (by rw [← y]; exact z))]; exact z
/-- a new one -/
theorem HL.newKs {p : Addr} (h : HL K Hk H L) (hp : H p = none) (hsm : (p == sysModules) = false) : HL K Hk (upd H p (KS p [] [])) ((some (.ref p), .ks []) :: L) := by
  obtain ⟨F, hc, hn, hk⟩ := h.cells
  have hkp : Hk p = none := h.ex.free hp
  have ne : ∀ q ∈ F, q ≠ p := fun q hq z => by
    obtain ⟨o, ho⟩ := hc.at q hq
    rw [z, hp] at ho; cases ho
  refine ⟨fun b o q => by rw [upd_ne (ne_of_none q hkp)]; exact h.ex b o q, h.tb.upd (fun ps z => by rw [hp] at z; cases z), [p] ++ F, .cons (.ks upd_same rfl .nil List.nodup_nil (fun d hd => by cases hd) (Nat.zero_le _) hsm) (hc.mono (.refl _) fun q hq => upd_ne (ne q hq)), ?_, fun q hq => ?_⟩
  · exact List.nodup_cons.mpr ⟨fun z => ne p z rfl, hn⟩
  · rcases List.mem_cons.mp hq with z | z
    · rw [z]; exact hkp
    · exact hk q z
end
section
variable {X : Cx} {Φ : Fr} {e k v tg : Expr} {st : Stmt} {pos p : Pos} {tk : VE} {to : VO} {x : Str}
def vNewKs : VE := fun ρ Q => Q (.ks []) ρ
theorem pwe_newKs : PWE X Φ (.Dict [] [] pos) vNewKs := pwe_of pe_newKS ⟨fun ρ Q Hk T σ H P q hh p => fun a ha hs => p _ _ Hk ρ _ (.refl _) (.back hh.len (hh.front.newKs ha hs) hh.ex0 hh.kp0) (.refl _ _) q⟩
def vDispKs (tk : VE) : VE := fun ρ Q => tk ρ fun s ρ1 => ∃ d, s = .sh d ∧ keyT d ∧ Q (.ks [d]) ρ1
theorem pwe_dispKs (hu : X.A.units + 64 < cLine) (hk : PWE X Φ k tk) (hv : PE X v (tC (.bl true))) : PWE X Φ (.Dict [some k] [v] pos) (vDispKs tk) := pwe_of (pe_dispKS hu pe_sem hv) ⟨fun ρ Q Hk T σ H P q hh p => by
  intro a ha hs
  have h0 : Holds X.K Φ Hk ρ ((some (.ref a), .ks []) :: T) σ (upd H a (KS a [] [])) := .back hh.len (hh.front.newKs ha hs) hh.ex0 hh.kp0
  refine hk.run ρ _ Hk _ σ _ _ q h0 fun y H1 Hk1 ρ1 sk e1 h1 k1 ⟨d, es, kt, q1⟩ => ?_
  subst es
  obtain ⟨y', ey, ry⟩ := h1.top
  cases ey
  obtain ⟨py, epy, _⟩ := key_py 6 d kt.1
  obtain ⟨p', qs', ep, ks, rr, _, mu, _⟩ := HL.ks h1.pop.front
  cases ep
  have hq0 : qs' = [] := List.length_eq_zero_iff.mp (by rw [ks.len]; rfl)
  subst hq0
  obtain ⟨q, rfl⟩ : ∃ q, y = .ref q := by
    obtain ⟨_, ds', rfl⟩ := kt
    cases ry with
    | tup h r => exact ⟨_, rfl⟩
  show H1 a = some (KS a [] []) ∧ _
  exact ⟨ks.at_, q, d, rfl, rfl, ⟨py, epy, (ry.mono h1.ex).dp epy⟩, kt, p _ _ Hk1 ρ1 _ e1 (.back h1.len (mu [q] [d] rfl (.cons ry .nil) (List.nodup_cons.mpr ⟨by simp, List.nodup_nil⟩) (fun z hz => by rw [List.mem_singleton.mp hz]; exact kt) (by show (1 : Nat) ≤ sizeLine; decide)) h1.ex0 h1.kp0) k1 q1⟩⟩
/-- x[k] = True -/
def vPutKs (i : Nat) (tk : VE) : VS := fun R ρ => (∃ ds, ρ[i]? = some (.ks ds)) ∧ tk ρ fun s ρ1 => ∃ d ds, s = .sh d ∧ ρ1[i]? = some (.ks ds) ∧ keyT d ∧ ds.length < sizeLine ∧ R.nx (ρ1.set i (.ks (if d ∈ ds then ds else ds ++ [d])))
theorem pws_putKs (i : Nat) (hp : PS X st (tAsg (tC (.bl true)) (gSub (tVar i) (tSem X k) (rSetKS X.K)))) (hk : PWE X Φ k tk) : PWS X Φ st (vPutKs i tk) := ⟨fun ρ R Hk T σ H D ⟨⟨ds0, e0⟩, q⟩ hh o => tSemS_of hp (by
  obtain ⟨v0, R0, ev0, h0, _⟩ := hh.at' e0
  obtain ⟨p0, qs0, ex0, _⟩ := h0.ks
  subst ex0
  refine ⟨.ref p0, ev0, hk.run ρ _ Hk T σ H _ q hh fun u H1 Hk1 ρ1 s e1 h1 k1 ⟨d, ds, hs, e2, kt, hz, q1⟩ => ?_⟩
  subst hs
  obtain ⟨u', eu, ru⟩ := h1.top
  cases eu
  obtain ⟨py, epy, _⟩ := key_py 6 d kt.1
  obtain ⟨q, rfl⟩ : ∃ q, u = .ref q := by
    obtain ⟨_, ds', rfl⟩ := kt
    cases ru with
    | tup h r => exact ⟨_, rfl⟩
  obtain ⟨v1, R1, ev1, h2, back⟩ := h1.pop.at' e2
  rw [ev0] at ev1; cases ev1
  obtain ⟨p1, qs, ex1, ks, rr, _, mu, _⟩ := h2.ks
  cases ex1
  refine ⟨p0, qs, ds, q, d, rfl, rfl, rfl, ks, ⟨py, epy, (ru.mono h1.ex).dp epy⟩, kt, hz, fun hd => ?_, fun hd => ?_⟩
  · rw [if_pos hd] at q1
    exact o.nx σ _ Hk1 _ e1 (back _ _ _ (mu qs ds ks.len rr ks.nd ks.kk ks.hz) (.refl _) (kp_set e2 fun _ z => by cases z)) (k1.trans (kp_set e2 fun _ z => by cases z)) q1
  · rw [if_neg hd] at q1
    have hnd : (ds ++ [d]).Nodup := List.nodup_append.mpr ⟨ks.nd, List.nodup_cons.mpr ⟨by simp, List.nodup_nil⟩, fun a ha b hb z => hd (by rw [← List.mem_singleton.mp hb, ← z]; exact ha)⟩
    refine o.nx σ _ Hk1 _ e1 (back _ _ _ (mu (qs ++ [q]) (ds ++ [d]) (by simp [ks.len]) (by rw [List.map_append]; exact rr.append (.cons ru .nil)) hnd (fun z hz => ?_) (by rw [List.length_append]; exact hz)) (.refl _) (kp_set e2 fun _ z => by cases z)) (k1.trans (kp_set e2 fun _ z => by cases z)) q1
    rcases List.mem_append.mp hz with z1 | z1
    · exact ks.kk _ z1
    · rw [List.mem_singleton.mp z1]; exact kt)⟩
/-- k in x -/
def vInKs (i : Nat) (to : VO) : VE := fun ρ Q => to ρ fun a ρ1 => ∃ d ds, argD ρ1 a = some d ∧ ρ1[i]? = some (.ks ds) ∧ keyT d ∧ Q (.sh (.bl (decide (d ∈ ds)))) ρ1
theorem run_inKs (i : Nat) (ho : PWO X Φ e to) : RunE X.K Φ (tOp (fun x y H Q => ∃ p qs ds q d, y = .ref p ∧ x = .ref q ∧ KSok X.K H p qs ds ∧ KRep X.K H q d ∧ keyT d ∧ Q (.bl (decide (d ∈ ds))) H) (tSem X e) (tVar i)) (vInKs i to) := ⟨fun ρ Q Hk T σ H P q hh p =>
  ho.run ρ _ Hk T σ H _ q hh fun v H1 Hk1 ρ1 a ts e1 ha h1 k1 ⟨d, ds, hd, e2, kt, q1⟩ => by
    have av : View X.K Hk1 H1 v d := ArgAt.view (ts := ts) (T := T) h1 ha hd
    obtain ⟨v1, R1, ev1, h2, _⟩ := h1.at' e2
    obtain ⟨p1, qs, ex1, ks, _⟩ := h2.ks
    subst ex1
    obtain ⟨py, epy, _⟩ := key_py 6 d kt.1
    have kt' := kt
    obtain ⟨_, ds', rfl⟩ := kt
    obtain ⟨q0, vs, rfl, _, _⟩ := av.tup h1.ex
    exact ⟨.ref p1, ev1, p1, qs, ds, q0, _, rfl, rfl, ks, ⟨py, epy, av.dp h1.ex epy⟩, kt', p _ H1 Hk1 ρ1 _ e1 (h1.drop.sh .bl) k1 q1⟩⟩
/-- for .. in x: from now on x may only be walked -/
def vItKs (i : Nat) : VI := fun ρ Q => ∃ ds, ρ[i]? = some (.ks ds) ∧ Q ds (ρ.set i .un)
theorem pwi_ks (i : Nat) (hp : PE X (.Name x pos) (tVar i)) : PWI X Φ tg (.Name x pos) (vItKs i) := ⟨fun ρ Q Hk T σ H R ⟨ds, e0, q⟩ hh po => by
  obtain ⟨v0, R0, ev0, h0, back⟩ := hh.at' e0
  obtain ⟨p, qs, ex0, ks, rr, hkp, _, lock⟩ := h0.ks
  subst ex0
  intro pins s I
  refine thn (hp.run pins s σ H (fun v H1 => v = .ref p ∧ H1 = H) I ⟨.ref p, ev0, rfl, rfl⟩) fun u s1 ⟨x1, H1, I1, rx, q1⟩ => ?_
  obtain ⟨ex, eH⟩ := q1
  subst ex; subst eH
  obtain rfl : u = Value.ref p := rx
  obtain ⟨od, I2⟩ := I1.lock ks.at_ True.intro
  obtain ⟨hgd, ⟨⟨ep, e1⟩, _, _⟩⟩ := I2.hok p _ upd_same
  rw [hgd] at e1
  have eo : od = obKS qs ds ep := Option.some.inj e1
  subst eo
  refine iter_keys ks.hp hgd ⟨rfl, rfl, rfl⟩ rfl (pi_one (tk := s1.toks) I2 _ (turn_ks (d := p) (ep := ep) _ ks.len) ⟨_, Heap.get?_push_size _ rfl, rfl, ?_⟩ ?_)
  · have : (((qs.zip ds).map entKS).toArray).size = qs.length := by simp [List.length_zip, ks.len]
    rw [this]; rfl
  · have hS : Same Hk (upd Hk p (.frz (obKS qs ds ep) (KS p qs ds))) := fun b u q => by rw [upd_ne (ne_of_none q hkp)]; exact q
    refine po _ _ (upd Hk p (.frz (obKS qs ds ep) (KS p qs ds))) (ρ.set i .un) ds [] hS (back _ _ _ (lock _) hS (kp_set e0 fun _ z => by cases z)) (kp_set e0 fun _ z => by cases z) ⟨fun j Hk2 H2 L e2 h2 hj => ?_, fun j Hk2 H2 L e2 h2 hj => ?_⟩ q
    · refine ⟨⟨h2.ex _ _ (e2 _ _ upd_same), by rw [ks.len]; exact hj⟩, fun y H' ⟨eH, q, hq, ey⟩ => ?_⟩
      subst eH; subst ey
      have r2 : Reps X.K Hk2 (qs.map V.ref) ds := (rr.mono hS).mono e2
      obtain ⟨d, hd, rd⟩ := r2.get (i := j) (v := .ref q) (by rw [List.getElem?_map, hq]; rfl)
      exact ⟨Hk2, d, hd, .refl _, rd, fun _ m => m⟩
    · exact ⟨h2.ex _ _ (e2 _ _ upd_same), by rw [ks.len]; exact hj⟩⟩
/-- handed on -/
def vMvKs (i : Nat) : VE := fun ρ Q => ∃ ds, ρ[i]? = some (.ks ds) ∧ Q (.ks ds) (ρ.set i .un)
theorem pwe_mvKs (i : Nat) (hp : PE X (.Name x pos) (tVar i)) : PWE X Φ (.Name x pos) (vMvKs i) := ⟨fun ρ Q Hk T σ H P ⟨ds, e, q⟩ hh p => tSem_of hp (by
  obtain ⟨v, R, ev, h1, back⟩ := hh.atU e (fun _ z => by cases z)
  obtain ⟨_, _, _, h0, _⟩ := hh.at' e
  obtain ⟨p1, _, ex, _⟩ := h1.ks
  subst ex
  exact ⟨.ref p1, ev, p _ H Hk _ _ (.refl _) back (kp_set e fun _ z => by cases z) q⟩)⟩
end
end WL

set_option Elab.async false
set_option linter.all false
set_option maxRecDepth 100000
set_option maxHeartbeats 4000000
/-! K26M: what the defs of k26 compute, and their promises. -/
namespace WL
open PySem PySem.Spec PyProof.Rows L2
variable [TBs]

abbrev iL (ns : List Int) : D := .lst (ns.map D.int)
def TM : Value := .ref (TBs.exc "TooMany")
/-! ### lengths -/
def okL (ns : List Int) : Prop := (ns.length : Int) ≤ 40 ∧ maxD0 0 ns ≤ 1000
instance (ns : List Int) : Decidable (okL ns) := inferInstanceAs (Decidable (_ ∧ _))
def over (ns : List Int) (t : Int) : Int := (ns.map fun l => if l - t > 0 then l - t else 0).sum
def LT (ns : List Int) (w t : Int) : Prop := 1 ≤ t ∧ over ns t ≤ w * t ∧ (t = 1 ∨ over ns (t - 1) > w * (t - 1))
def gRun (left : Int) : List Int → List Int
  | [] => []
  | x :: xs => if x ≤ left then gRun (left - x) xs else x :: xs
def gTn (w : Int) : Nat → List Int → Int
  | 0, _ => 0
  | _ + 1, [] => 0
  | n + 1, _ :: xs => 1 + gTn w n (gRun w xs)
def grT (w : Int) (ns : List Int) : Int := gTn w ns.length ns
/-- the first place of the least -/
def minIx : List Int → Nat
  | [] => 0
  | [_] => 0
  | x :: y :: r => if x ≤ (y :: r).foldl min y then 0 else minIx (y :: r) + 1
def hStep (free : List Int) (l : Int) : List Int := free.set (minIx free) (free.getD (minIx free) 0 + l)
def hT (ns : List Int) (k : Int) : Int := if k = 0 then maxD0 0 ns else maxD0 0 (ns.foldl hStep (List.replicate k.toNat 0))
/-! ### looks -/
def looksOf (ns : List Int) : List (Int × Int) := (List.range ns.length).flatMap fun a => (List.range (ns.getD a 0).toNat).map fun p => (Int.ofNat a, Int.ofNat p)
def lsRow (known : List (Int × Int)) (a : Int) : List Int → List (Int × Int)
  | [] => []
  | p :: ps => (a, p) :: (if (a, p) ∈ known then lsRow known a ps else [])
def lineSure (ns : List Int) (known : List (Int × Int)) : List (Int × Int) := (List.range ns.length).flatMap fun a => lsRow known (Int.ofNat a) ((List.range (ns.getD a 0).toNat).map fun p => Int.ofNat p)
def gsRows (known : List (Int × Int)) : List (List (Int × Int)) → List (Int × Int)
  | [] => []
  | g :: gs => g ++ (if (g.filter fun x => !decide (x ∈ known)) = [] then gsRows known gs else [])
def groupSure (ns : List Int) (known : List (Int × Int)) : List (Int × Int) := gsRows known ((List.range ns.length).map fun a => (List.range (ns.getD a 0).toNat).map fun p => (Int.ofNat a, Int.ofNat p))
/-! ### by all sets -/
def pleB (p q : Int × Int) : Bool := decide (p.1 < q.1) || (decide (p.1 = q.1) && decide (p.2 ≤ q.2))
def pins (p : Int × Int) : List (Int × Int) → List (Int × Int)
  | [] => [p]
  | q :: r => if pleB p q then p :: q :: r else q :: pins p r
def psort : List (Int × Int) → List (Int × Int)
  | [] => []
  | p :: r => pins p (psort r)
def moreOf (most : Int) : List (Int × Int) → List (List (Int × Int)) → List (List (Int × Int))
  | [], acc => acc
  | x :: xs, acc => moreOf most xs (acc ++ (acc.filter fun r => decide ((r.length : Int) < most)).map fun r => r ++ [x])
def putS (acc : List (List (Int × Int))) (k : List (Int × Int)) : List (List (Int × Int)) := if k ∈ acc then acc else acc ++ [k]
def baseOf (looks sure known : List (Int × Int)) : List (Int × Int) := looks.filter fun x => decide (x ∈ sure) || decide (x ∈ known)
def mostOf (w : Int) (sure known : List (Int × Int)) : Int := w - (known.filter fun x => !decide (x ∈ sure)).length
def freshOf (looks : List (Int × Int)) (F : List (Int × Int) → List (Int × Int)) (w : Int) (acc : List (List (Int × Int))) (known : List (Int × Int)) : List (List (Int × Int)) :=
  (moreOf (mostOf w (F known) known) (looks.filter fun x => !decide (x ∈ baseOf looks (F known) known)) [[]]).foldl (fun acc row => putS acc (psort (baseOf looks (F known) known ++ row))) acc
def eGo (looks : List (Int × Int)) (F : List (Int × Int) → List (Int × Int)) (w : Int) : Nat → Int → List (List (Int × Int)) → Int
  | 0, _, _ => looks.length
  | n + 1, turn, reached => if psort looks ∈ reached.foldl (freshOf looks F w) [] then turn else eGo looks F w n (turn + 1) (reached.foldl (freshOf looks F w) [])
def eT (looks : List (Int × Int)) (F : List (Int × Int) → List (Int × Int)) (w : Int) : Int := eGo looks F w looks.length 1 [[]]

/-- that all stays small on the way -/
def eOk (looks : List (Int × Int)) (F : List (Int × Int) → List (Int × Int)) (w : Int) : Nat → List (List (Int × Int)) → Bool
  | 0, _ => true
  | n + 1, S => decide ((S.foldl (freshOf looks F w) []).length ≤ 1000) && S.all (fun k => decide (k.length ≤ 9)) &&
      (decide (psort looks ∈ S.foldl (freshOf looks F w) []) || eOk looks F w n (S.foldl (freshOf looks F w) []))
/-! ### promises -/
def S_bound : VSp := fun ρs R RX => ∃ (what : Str) (n : Int), ρs = [.sh (.str what), .sh (.int n)] ∧ (what = "lengths" ∨ what = "hands") ∧ (n ≤ 40 → R (.sh .non) ρs) ∧ (40 < n → RX TM [("what", .str what)] ρs)
def S_check_lengths : VSp := fun ρs R RX => ∃ ns, ρs = [.sh (iL ns)] ∧ ns.length ≤ 100000 ∧ (okL ns → R (.sh .non) ρs) ∧ (¬ okL ns → RX TM [("what", .str "lengths")] ρs)
def S_line_turns : VSp := fun ρs R RX => ∃ ns w, ρs = [.sh (iL ns), .sh (.int w)] ∧ ns.length ≤ 100000 ∧ (∀ x ∈ ns, 1 ≤ x ∧ x ≤ 100000) ∧ 0 ≤ w ∧ w ≤ 100000 ∧ (okL ns → ∀ t, LT ns w t → R (.sh (.int t)) ρs) ∧ (¬ okL ns → RX TM [("what", .str "lengths")] ρs)
def S_group_turns : VSp := fun ρs R RX => ∃ ns w, ρs = [.sh (iL ns), .sh (.int w)] ∧ ns.length ≤ 100000 ∧ (okL ns → R (.sh (.int (grT w ns))) ρs) ∧ (¬ okL ns → RX TM [("what", .str "lengths")] ρs)
def S_hands_time : VSp := fun ρs R RX => ∃ ns k, ρs = [.sh (iL ns), .sh (.int k)] ∧ ns.length ≤ 100000 ∧ 0 ≤ k ∧ k ≤ 100000 ∧ (okL ns → k ≤ 40 → R (.sh (.int (hT ns k))) ρs) ∧ (¬ okL ns → RX TM [("what", .str "lengths")] ρs) ∧ (okL ns → 40 < k → RX TM [("what", .str "hands")] ρs)
def S_k26_laid : VSp := fun ρs R _ => ∃ ns k, ρs = [.sh (iL ns), .sh (.int k)] ∧ ns.length ≤ 100000 ∧ (∀ x ∈ ns, 1 ≤ x ∧ x ≤ 100000) ∧ 0 ≤ k ∧ k ≤ 100000 ∧ R (.sh (.int (hT ns k))) ρs
def S_k26_least : VSp := fun ρs R _ => ∃ ns w t, ρs = [.sh (iL ns), .sh (.int w), .sh (.int t)] ∧ ns.length ≤ 100000 ∧ 0 ≤ w ∧ w ≤ 100000 ∧ LT ns w t ∧ R (.sh (.bl true)) ρs
def S_k26_groups : VSp := fun ρs R _ => ∃ ns w, ρs = [.sh (iL ns), .sh (.int w)] ∧ ns.length ≤ 100000 ∧ R (.sh (.int (grT w ns))) ρs
/-- few small lengths -/
def smallL (ns : List Int) : Prop := ns.length ≤ 3 ∧ ∀ x ∈ ns, 1 ≤ x ∧ x ≤ 3
def S_k26_line_looks : VSp := fun ρs R _ => ∃ ns, ρs = [.sh (iL ns)] ∧ smallL ns ∧ R (.ow false (.lst (prs (looksOf ns)))) ρs
def S_k26_line_sure : VSp := fun ρs R _ => ∃ ns known, ρs = [.sh (iL ns), .sh (.tup (prs known))] ∧ smallL ns ∧ known.length ≤ 1000 ∧ R (.ow false (.lst (prs (lineSure ns known)))) ρs
def S_k26_group_sure : VSp := fun ρs R _ => ∃ ns known, ρs = [.sh (iL ns), .sh (.tup (prs known))] ∧ smallL ns ∧ known.length ≤ 1000 ∧ R (.ow false (.lst (prs (groupSure ns known)))) ρs
/-- what e_turns asks of the lambda: F of the known looks -/
def SG_e_turns (SSl : VSp) (f : Addr) (dcap : List D) : VSp := fun ρs R _ => ∃ looks w F, ρs = [.sh (.lst (prs looks)), .sh (.opq (.ref f)), .sh (.int w)] ∧ looks.length ≤ 9 ∧ looks.Nodup ∧ 0 ≤ w ∧ w ≤ 100 ∧ eOk looks F w looks.length [[]] = true ∧
  (∀ known : List (Int × Int), known.length ≤ 9 → (F known).length ≤ 1000) ∧
  (∀ known : List (Int × Int), known.length ≤ 9 → ∀ R' RX', R' (.ow false (.lst (prs (F known)))) (dcap.map Slot.sh ++ [.sh (.tup (prs known))]) → SSl (dcap.map Slot.sh ++ [.sh (.tup (prs known))]) R' RX') ∧
  R (.sh (.int (eT looks F w))) ρs
def SG_k26_told (SSl : VSp) (f : Addr) (dcap : List D) : VSp := fun ρs R _ => ρs = [.sh (.opq (.ref f))] ∧
  ∀ (R' : Slot → List Slot → Prop) (RX' : Value → List (Str × D) → List Slot → Prop), (∀ n ss, R (.sh (.int n)) ρs → R' (.sh (.int n)) ss) → (∀ d ss, R (.sh (.tup [.str "TooMany", d])) ρs → RX' TM [("what", d)] ss) → SSl (dcap.map Slot.sh) R' RX'
def S_k26_small : VSp := fun ρs R _ => ∃ a b c, ρs = [srcD a b c] ∧ ∀ a' b' c', R (.sh (.bl true)) [srcD a' b' c']
def S_k26_large : VSp := fun ρs R _ => ∃ a b c, ρs = [srcD a b c] ∧ ∀ a' b' c', R (.sh (.bl true)) [srcD a' b' c']
def S_k26_bounds : VSp := fun ρs R _ => ∃ a b c, ρs = [srcD a b c] ∧ ∀ a' b' c', R (.sh (.bl true)) [srcD a' b' c']
def S_law : VSp := fun ρs R _ => ∃ ns : List Int, ρs = [.sh (.fls (ns.map D.int))] ∧ ns.length ≤ 63 ∧ R (.sh (.bl true)) ρs
end WL

set_option Elab.async false
set_option linter.all false
set_option maxRecDepth 100000
set_option maxHeartbeats 4000000
/-! WP: steps of the new words. -/
namespace WL
open PySem PySem.Spec PyProof.Rows L2
variable [TBs]
section
variable {ρ ρ' : Rho} {Q : VK0} {QA : List Arg → Rho → Prop} {QO : Arg → Rho → Prop} {QI : List D → Rho → Prop} {i j : Nat} {s : Slot} {R : Out} {EX : XP} {ta : VA} {te tk : VE} {to : VO} {t : VS} {ds : List D} {d : D} {nx : Rho → Prop} {rt : Slot → Rho → Prop} {bk ct : Rho → Prop}
theorem u_kd {L : List (Str × Int)} {z : Str} {n : Int} (e : ρ[i]? = some (.sh (.str z))) (hm : (z, n) ∈ L) (h : Q (.sh (.int n)) ρ) : vKd L (vPk i) ρ Q :=
  ⟨_, _, e, rfl, z, n, by show (match ρ[i]? with | some s => slotD s | none => none) = _; rw [e]; rfl, hm, h⟩
theorem u_maxD {c : Int} {ns : List Int} (e : ρ[i]? = some s) (hd : slotD s = some (.lst (ns.map D.int))) (h : Q (.sh (.int (maxD0 c ns))) ρ) : vMaxD c (vCons (vPk i) vNil) ρ Q :=
  ⟨_, _, e, hd, .lst (ns.map D.int), ns, by unfold argDs argDs; show (match (match ρ[i]? with | some s => slotD s | none => none), some [] with | some d, some ds => some (d :: ds) | _, _ => none) = _; rw [e]; show (match slotD s, some [] with | some d, some ds => some (d :: ds) | _, _ => none) = _; rw [hd], rfl, h⟩
def kRaise (EX : XP) (C : Addr) (fl : List Str) : List Arg → Rho → Prop := fun as ρ1 => ∃ ds, argVs as = some ds ∧ ds.length = fl.length ∧ ds.length ≤ 1000 ∧ EX (.ref C) (mkF fl ds) ρ1
theorem u_raise {C : Addr} {fl : List Str} (h : ta ρ (kRaise EX C fl)) : vRaise EX C fl ta R ρ := h
theorem k_raise {C : Addr} {fl : List Str} {as : List Arg} (e : argVs as = some ds) (hl : ds.length = fl.length) (hz : ds.length ≤ 1000) (h : EX (.ref C) (mkF fl ds) ρ) : kRaise EX C fl as ρ := ⟨ds, e, hl, hz, h⟩
def kIdxI (i : Nat) (Q : VK0) : VK0 := fun s ρ1 => ∃ (x : Int) (ns : List Int) (s1 : Slot) (d1 : D), s = .sh (.int x) ∧ ρ1[i]? = some s1 ∧ slotD s1 = some d1 ∧ seqLD d1 = some (ns.map D.int) ∧ x ∈ ns ∧ ∀ j : Nat, ns[j]? = some x → (∀ m, m < j → ns[m]? ≠ some x) → Q (.sh (.int j)) ρ1
theorem u_idxI {l : List D} (e : ρ[i]? = some s) (hd : slotD s = some d) (hl : seqLD d = some l) (h : te ρ (kIdxI i Q)) : vIdxI i te ρ Q := ⟨⟨s, d, l, e, hd, hl⟩, h⟩
theorem k_idxI {x : Int} {ns : List Int} {d1 : D} (e : ρ[i]? = some s) (hd : slotD s = some d1) (hl : seqLD d1 = some (ns.map D.int)) (hm : x ∈ ns) (h : ∀ j : Nat, ns[j]? = some x → (∀ m, m < j → ns[m]? ≠ some x) → Q (.sh (.int j)) ρ) : kIdxI i Q (.sh (.int x)) ρ := ⟨x, ns, s, d1, rfl, e, hd, hl, hm, h⟩
theorem u_newKs (h : Q (.ks []) ρ) : vNewKs ρ Q := h
theorem u_dispKs (h : tk ρ fun s ρ1 => ∃ d, s = .sh d ∧ keyT d ∧ Q (.ks [d]) ρ1) : vDispKs tk ρ Q := h
def kPutKs (i : Nat) (nx : Rho → Prop) : VK0 := fun s ρ1 => ∃ d ds, s = .sh d ∧ ρ1[i]? = some (.ks ds) ∧ keyT d ∧ ds.length < sizeLine ∧ nx (ρ1.set i (.ks (if d ∈ ds then ds else ds ++ [d])))
theorem u_putKs (e : ρ[i]? = some (.ks ds)) (h : tk ρ (kPutKs i nx)) : vPutKs i tk (.mk nx rt bk ct) ρ := ⟨⟨ds, e⟩, h⟩
theorem k_putKs (e : ρ[i]? = some (.ks ds)) (k : keyT d) (hz : ds.length < sizeLine) (h : nx (ρ.set i (.ks (if d ∈ ds then ds else ds ++ [d])))) : kPutKs i nx (.sh d) ρ := ⟨d, ds, rfl, e, k, hz, h⟩
theorem u_inKs (e : ρ[j]? = some (.sh d)) (e2 : ρ[i]? = some (.ks ds)) (k : keyT d) (h : Q (.sh (.bl (decide (d ∈ ds)))) ρ) : vInKs i (vPk j) ρ Q :=
  ⟨_, _, e, rfl, d, ds, by show (match ρ[j]? with | some s => slotD s | none => none) = _; rw [e]; rfl, e2, k, h⟩
theorem u_itKs (e : ρ[i]? = some (.ks ds)) (h : QI ds (ρ.set i .un)) : vItKs i ρ QI := ⟨ds, e, h⟩
theorem u_mvKs (e : ρ[i]? = some (.ks ds)) (h : Q (.ks ds) (ρ.set i .un)) : vMvKs i ρ Q := ⟨ds, e, h⟩
theorem u_knowsS (e : ρ[i]? = some (.sh d)) (h : t R ρ) : vKnows i t R ρ := .inl ⟨d, e, h⟩
theorem u_knowsO {o : Own} (e : ρ[i]? = some (.ow false o)) (h : t R (ρ.set i (.sh o.d))) : vKnows i t R ρ := .inr ⟨o, e, h⟩
def kCallF (EX : XP) (dcap : List D) (SS : VSp) (Q : VK0) : List Arg → Rho → Prop := fun as ρ1 => ∃ ρs, lendS ρ1 as = some ρs ∧ SS (dcap.map Slot.sh ++ ρs) (fun r ss => Q r (takeBack ρ1 as (ss.drop dcap.length))) fun cls fs ss => EX cls fs (takeBack ρ1 as (ss.drop dcap.length))
theorem u_callF {f : Addr} {dcap : List D} {SS : VSp} (e : ρ[i]? = some (.sh (.opq (.ref f)))) (h : ta ρ (kCallF EX dcap SS Q)) : vCallF EX i f dcap SS ta ρ Q := ⟨e, h⟩
theorem k_callF {dcap : List D} {SS : VSp} {as : List Arg} {ρs : List Slot} (e : lendS ρ as = some ρs) (h : SS (dcap.map Slot.sh ++ ρs) (fun r ss => Q r (takeBack ρ as (ss.drop dcap.length))) fun cls fs ss => EX cls fs (takeBack ρ as (ss.drop dcap.length))) : kCallF EX dcap SS Q as ρ := ⟨ρs, e, h⟩
end
theorem small16 {n : Nat} (h : n < 1000000) : n < sizeLine := by rw [sizeLine_eq]; omega
theorem small16' {n : Nat} (h : n < 1000000) : n ≤ sizeLine := by rw [sizeLine_eq]; omega
theorem free1 {ρ : Rho} {v : Nat} {s : Slot} (e : ρ[v]? = some s) (f : s.free = true) : ∀ w ∈ [v], ∃ s, ρ[w]? = some s ∧ s.free = true := fun w hw => by
  rw [List.mem_singleton.mp hw]; exact ⟨s, e, f⟩
theorem filt_true {α β : Type} (l : List α) (f : α → β) : (l.filter fun _ => true).map f = l.map f := by rw [List.filter_eq_self.mpr fun _ _ => rfl]
end WL

set_option Elab.async false
set_option linter.all false
set_option maxRecDepth 100000
set_option maxHeartbeats 4000000
/-! K26V: the readings of k26's defs (printed by gen.py). -/
namespace WL
open PySem PySem.Spec PyProof.Rows L2
variable [TBs]

def v_bound (EX : XP) (C_TooMany : Addr) : VS :=
  vIf (vT (vBin gtP (vPk 1) (vVal (vKd [("lengths", 40), ("hands", 40)] (vPk 0))))) (vRaise EX C_TooMany ["what"] (vCons (vVal (vVar 0)) (vNil))) (vNext)
def v_check_lengths (EX : XP) (C_TooMany : Addr) : VS :=
  vSeq (vExpr (vCallX EX S_bound (vCons (vVal (vC (.str "lengths"))) (vCons (vVal (vSh (vPrim lenP (vCons (vPk 0) (vNil))))) (vNil)))))
    (vIf (vT (vBin gtP (vVal (vMaxD 0 (vCons (vPk 0) (vNil)))) (vVal (vC (.int 1000))))) (vRaise EX C_TooMany ["what"] (vCons (vVal (vC (.str "lengths"))) (vNil))) (vNext))
def v_line_turns (EX : XP) : VS :=
  vSeq (vExpr (vCallX EX S_check_lengths (vCons (vVal (vVar 0)) (vNil))))
    (vSeq (vSet 2 (vC (.int 1)))
    (vSeq (vSet 3 (vMaxD 1 (vCons (vPk 0) (vNil))))
    (vSeq (vWhile (vT (vBin ltP (vPk 2) (vPk 3))) (vSeq (vSet 4 (vBin divP (vVal (vBin addP (vPk 2) (vPk 3))) (vVal (vC (.int 2)))))
    (vIf (vT (vBin leP (vVal (vPrim sumP (vCons (vVal (vLc (vItL (vVar 0)) (gN 5) (vYes) (vPrim maxP (vCons (vVal (vC (.int 0))) (vCons (vVal (vBin subP (vPk 5) (vPk 4))) (vNil)))) [5])) (vNil)))) (vVal (vBin mulP (vPk 1) (vPk 4))))) (vSet 3 (vVar 4)) (vSet 2 (vBin addP (vPk 4) (vVal (vC (.int 1))))))))
    (vRet (vMv 2)))))
def v_group_turns (EX : XP) : VS :=
  vSeq (vExpr (vCallX EX S_check_lengths (vCons (vVal (vVar 0)) (vNil))))
    (vSeq (vSet 2 (vC (.int 0)))
    (vSeq (vSet 3 (vC (.int 0)))
    (vSeq (vWhile (vT (vBin ltP (vPk 3) (vVal (vPrim lenP (vCons (vPk 0) (vNil)))))) (vSeq (vAug 2 iaddP (vC (.int 1)))
    (vSeq (vAug 3 iaddP (vC (.int 1)))
    (vSeq (vSet 4 (vVar 1))
    (vWhile (vAnd (vT (vBin ltP (vPk 3) (vVal (vPrim lenP (vCons (vPk 0) (vNil)))))) (vT (vBin leP (vVal (vBin ixP (vPk 0) (vPk 3))) (vPk 4)))) (vSeq (vAug 4 subP (vBin ixP (vPk 0) (vPk 3)))
    (vAug 3 iaddP (vC (.int 1)))))))))
    (vRet (vMv 2)))))
def v_hands_time (EX : XP) : VS :=
  vSeq (vExpr (vCallX EX S_check_lengths (vCons (vVal (vVar 0)) (vNil))))
    (vSeq (vExpr (vCallX EX S_bound (vCons (vVal (vC (.str "hands"))) (vCons (vVal (vVar 1)) (vNil)))))
    (vSeq (vSet 2 (vLc (vItR1 (vCons (vPk 1) (vNil))) (gN 4) (vYes) (vC (.int 0)) [4]))
    (vSeq (vIf (vT (vBin eqP (vPk 1) (vVal (vC (.int 0))))) (vRet (vMaxD 0 (vCons (vPk 0) (vNil)))) (vNext))
    (vSeq (vFor (vItL (vVar 0)) (gN 3) (vSeq (vSet 4 (vIdxI 2 (vPrim minP (vCons (vPk 2) (vNil)))))
    (vAugL 2 iaddP (vVar 4) (vVar 3))))
    (vRet (vPrim maxP (vCons (vPk 2) (vNil))))))))
def v_e_turns (f : Addr) (dcap : List D) (SSl : VSp) (EX : XP) : VS :=
  vSeq (vSet 3 (vPrim tupleP (vCons (vVal (vPrim sortPP (vCons (vPk 0) (vNil)))) (vNil))))
    (vSeq (vSet 4 (vDispKs (vTup (vNil))))
    (vSeq (vFor (vItR2 (vCons (vVal (vC (.int 1))) (vCons (vVal (vBin addP (vVal (vPrim lenP (vCons (vPk 0) (vNil)))) (vVal (vC (.int 1))))) (vNil)))) (gN 5) (vSeq (vSet 6 (vNewKs))
    (vSeq (vFor (vItKs 4) (gN 7) (vSeq (vSet 8 (vCallF EX 1 f dcap SSl (vCons (vVal (vVar 7)) (vNil))))
    (vSeq (vSet 9 (vLc (vItL (vVar 0)) (gN 13) (vOr (vT (vBin (inEP false) (vPk 13) (vPk 8))) (vT (vBin (inEP false) (vPk 13) (vPk 7)))) (vVar 13) [13]))
    (vSeq (vSet 10 (vLc (vItL (vVar 0)) (gN 13) (vT (vBin (inEP true) (vPk 13) (vPk 9))) (vVar 13) [13]))
    (vSeq (vSet 11 (vBin subP (vPk 2) (vVal (vPrim lenP (vCons (vVal (vLc (vItT (vVar 7)) (gN 13) (vT (vBin (inEP true) (vPk 13) (vPk 8))) (vVar 13) [13])) (vNil))))))
    (vSeq (vSet 12 (vLst (vCons (vVal (vTup (vNil))) (vNil))))
    (vSeq (vFor (vItL (vVar 10)) (gN 13) (vSet 12 (vBin addP (vPk 12) (vVal (vLc (vItL (vVar 12)) (gN 14) (vT (vBin ltP (vVal (vPrim lenP (vCons (vPk 14) (vNil)))) (vPk 11))) (vBin addP (vPk 14) (vVal (vTup (vCons (vVal (vVar 13)) (vNil))))) [14])))))
    (vFor (vItL (vVar 12)) (gN 14) (vPutKs 6 (vPrim tupleP (vCons (vVal (vPrim sortPP (vCons (vVal (vBin addP (vPk 9) (vVal (vPrim listP (vCons (vPk 14) (vNil)))))) (vNil)))) (vNil))))))))))))
    (vSeq (vIf (vT (vInKs 6 (vPk 3))) (vRet (vMv 5)) (vNext))
    (vSet 4 (vMvKs 6))))))
    (vRet (vPrim lenP (vCons (vPk 0) (vNil))))))
def v_k26_told (f : Addr) (dcap : List D) (SSl : VSp) (EX : XP) (M : Value → Value → Option Bool) (Xf : Value → Str → Prop) (C_TooMany : Addr) : VS :=
  vTryAs M EX (.ref C_TooMany) 1 (fun EX1 => vRet (vCallF EX1 0 f dcap SSl vNil)) (fun a cls fs => vRet (vTup (vCons (vVal (vC (.str "TooMany"))) (vCons (vVal (vXf Xf 1 a cls fs "what")) (vNil)))))
def v_k26_laid : VS :=
  vSeq (vSet 2 (vPrim listP (vCons (vPk 0) (vNil))))
    (vSeq (vSet 3 (vC (.int 0)))
    (vSeq (vWhile (vT (vBin gtP (vVal (vPrim sumP (vCons (vPk 2) (vNil)))) (vVal (vC (.int 0))))) (vSeq (vSet 4 (vLc (vItR1 (vCons (vVal (vPrim lenP (vCons (vPk 2) (vNil)))) (vNil))) (gN 6) (vT (vBin gtP (vVal (vBin ixP (vPk 2) (vPk 6))) (vVal (vC (.int 0))))) (vVar 6) [6]))
    (vSeq (vSet 4 (vIfE (vT (vBin gtP (vPk 1) (vVal (vC (.int 0))))) (vSl (vPk 4) (vNoPart) (vPart (vVar 1))) (vVar 4)))
    (vSeq (vSet 5 (vPrim minP (vCons (vVal (vLc (vItL (vVar 4)) (gN 6) (vYes) (vBin ixP (vPk 2) (vPk 6)) [6])) (vNil))))
    (vSeq (vFor (vItL (vVar 4)) (gN 6) (vSetL 2 (vVar 6) (vBin subP (vVal (vBin ixP (vPk 2) (vPk 6))) (vPk 5))))
    (vSet 3 (vBin addP (vPk 3) (vPk 5))))))))
    (vRet (vMv 3))))
def v_k26_least : VS :=
  vSeq (vIf (vOr (vNot (vTru (vVal (vPrim isiP (vCons (vPk 2) (vCons (vVal (vC (.opq (.ty "int")))) (vNil))))))) (vOr (vTru (vVal (vPrim isiP (vCons (vPk 2) (vCons (vVal (vC (.opq (.ty "bool")))) (vNil)))))) (vT (vBin ltP (vPk 2) (vVal (vC (.int 1))))))) (vRet (vC (.bl false))) (vNext))
    (vSeq (vSet 3 (vPrim sumP (vCons (vVal (vLc (vItL (vVar 0)) (gN 5) (vYes) (vPrim maxP (vCons (vVal (vC (.int 0))) (vCons (vVal (vBin subP (vPk 5) (vPk 2))) (vNil)))) [5])) (vNil))))
    (vSeq (vSet 4 (vPrim sumP (vCons (vVal (vLc (vItL (vVar 0)) (gN 5) (vYes) (vPrim maxP (vCons (vVal (vC (.int 0))) (vCons (vVal (vBin addP (vVal (vBin subP (vPk 5) (vPk 2))) (vVal (vC (.int 1))))) (vNil)))) [5])) (vNil))))
    (vRet (vAndV (vBin leP (vPk 3) (vVal (vBin mulP (vPk 1) (vPk 2)))) (vOrV (vBin eqP (vPk 2) (vVal (vC (.int 1)))) (vBin gtP (vPk 4) (vVal (vBin mulP (vPk 1) (vVal (vBin subP (vPk 2) (vVal (vC (.int 1)))))))))))))
def v_k26_groups : VS :=
  vSeq (vSet 2 (vC (.int 0)))
    (vSeq (vSet 3 (vPrim listP (vCons (vPk 0) (vNil))))
    (vSeq (vWhile (vT (vBin gtP (vVal (vPrim lenP (vCons (vPk 3) (vNil)))) (vVal (vC (.int 0))))) (vSeq (vSet 4 (vC (.int 1)))
    (vSeq (vWhile (vAnd (vT (vBin ltP (vPk 4) (vVal (vPrim lenP (vCons (vPk 3) (vNil)))))) (vT (vBin leP (vVal (vPrim sumP (vCons (vVal (vSl (vPk 3) (vPart (vC (.int 1))) (vPart (vBin addP (vPk 4) (vVal (vC (.int 1))))))) (vNil)))) (vPk 1)))) (vSet 4 (vBin addP (vPk 4) (vVal (vC (.int 1))))))
    (vSeq (vSet 3 (vSl (vPk 3) (vPart (vVar 4)) (vNoPart)))
    (vSet 2 (vBin addP (vPk 2) (vVal (vC (.int 1)))))))))
    (vRet (vMv 2))))
def v_k26_line_looks : VS :=
  vSeq (vSet 1 (vLst (vNil)))
    (vSeq (vFor (vItR1 (vCons (vVal (vPrim lenP (vCons (vPk 0) (vNil)))) (vNil))) (gN 2) (vSet 1 (vBin addP (vPk 1) (vVal (vLc (vItR1 (vCons (vVal (vBin ixP (vPk 0) (vPk 2))) (vNil))) (gN 3) (vYes) (vTup (vCons (vVal (vVar 2)) (vCons (vVal (vVar 3)) (vNil)))) [3])))))
    (vRet (vMv 1)))
def v_k26_line_sure : VS :=
  vSeq (vSet 2 (vLst (vNil)))
    (vSeq (vFor (vItR1 (vCons (vVal (vPrim lenP (vCons (vPk 0) (vNil)))) (vNil))) (gN 3) (vFor (vItR1 (vCons (vVal (vBin ixP (vPk 0) (vPk 3))) (vNil))) (gN 4) (vSeq (vExpr (vApp 2 (vTup (vCons (vVal (vVar 3)) (vCons (vVal (vVar 4)) (vNil))))))
    (vIf (vT (vBin (inEP true) (vVal (vTup (vCons (vVal (vVar 3)) (vCons (vVal (vVar 4)) (vNil))))) (vPk 1))) (vBreak) (vNext)))))
    (vRet (vMv 2)))
def v_k26_group_sure : VS :=
  vSeq (vSet 2 (vLst (vNil)))
    (vSeq (vFor (vItR1 (vCons (vVal (vPrim lenP (vCons (vPk 0) (vNil)))) (vNil))) (gN 3) (vSeq (vSet 4 (vLc (vItR1 (vCons (vVal (vBin ixP (vPk 0) (vPk 3))) (vNil))) (gN 5) (vYes) (vTup (vCons (vVal (vVar 3)) (vCons (vVal (vVar 5)) (vNil)))) [5]))
    (vSeq (vSet 2 (vBin addP (vPk 2) (vPk 4)))
    (vIf (vT (vBin neP (vVal (vLc (vItL (vVar 4)) (gN 6) (vT (vBin (inEP true) (vPk 6) (vPk 1))) (vVar 6) [6])) (vVal (vLst (vNil))))) (vBreak) (vNext)))))
    (vRet (vMv 2)))
def w_k26_small_1 (EX : XP) : VE := vCall S_k26_line_sure (vCons (vVal (vVar 0)) (vCons (vVal (vVar 1)) (vNil)))
def w_k26_small_2 (EX : XP) : VE := vCall S_k26_group_sure (vCons (vVal (vVar 0)) (vCons (vVal (vVar 1)) (vNil)))
def v_k26_small (EX : XP) : VS :=
  vSeq (vSet 1 (vSh (vLc (vItR1 (vCons (vVal (vBin addP (vVal (vC (.int 1))) (vVal (vCall S_pick (vCons (vPk 0) (vCons (vVal (vC (.int 3))) (vNil))))))) (vNil))) (gN 7) (vYes) (vBin addP (vVal (vC (.int 1))) (vVal (vCall S_pick (vCons (vPk 0) (vCons (vVal (vC (.int 3))) (vNil)))))) [7])))
    (vSeq (vWhile (vT (vBin gtP (vVal (vPrim sumP (vCons (vPk 1) (vNil)))) (vVal (vC (.int 5))))) (vSet 1 (vSh (vSl (vPk 1) (vPart (vC (.int 1))) (vNoPart)))))
    (vSeq (vSet 2 (vCall S_pick (vCons (vPk 0) (vCons (vVal (vC (.int 4))) (vNil)))))
    (vSeq (vSet 3 (vSh (vCall S_k26_line_looks (vCons (vVal (vVar 1)) (vNil)))))
    (vSeq (vSet 4 (vLamC [1] [some 3, none, some 2] (SG_e_turns (lamS 2 (w_k26_small_1)))))
    (vSeq (vSet 5 (vLamC [1] [some 3, none, some 2] (SG_e_turns (lamS 2 (w_k26_small_2)))))
    (vSeq (vSet 6 (vPrim listP (vCons (vPk 1) (vNil))))
    (vRet (vAndV (vBin eqP (vVal (vCallX EX S_line_turns (vCons (vVal (vVar 1)) (vCons (vVal (vVar 2)) (vNil))))) (vPk 4)) (vAndV (vBin eqP (vVal (vCallX EX S_group_turns (vCons (vVal (vVar 1)) (vCons (vVal (vVar 2)) (vNil))))) (vPk 5)) (vBin eqP (vPk 1) (vPk 6)))))))))))
def v_k26_large (EX : XP) : VS :=
  vSeq (vSet 1 (vCall S_choice (vCons (vPk 0) (vCons (vVal (vSh (vLst (vCons (vVal (vC (.int 4))) (vCons (vVal (vC (.int 9))) (vCons (vVal (vC (.int 100))) (vCons (vVal (vC (.int 1000))) (vNil)))))))) (vNil)))))
    (vSeq (vSet 2 (vLc (vItR1 (vCons (vVal (vCall S_pick (vCons (vPk 0) (vCons (vVal (vC (.int 9))) (vNil))))) (vNil))) (gN 5) (vYes) (vBin addP (vVal (vC (.int 1))) (vVal (vCall S_pick (vCons (vPk 0) (vCons (vVal (vVar 1)) (vNil)))))) [5]))
    (vSeq (vIf (vT (vBin eqP (vVal (vCall S_pick (vCons (vPk 0) (vCons (vVal (vC (.int 4))) (vNil))))) (vVal (vC (.int 0))))) (vSet 2 (vBin addP (vPk 2) (vVal (vLst (vCons (vVal (vC (.int 1000))) (vNil)))))) (vNext))
    (vSeq (vSet 3 (vCall S_choice (vCons (vPk 0) (vCons (vVal (vSh (vLst (vCons (vVal (vC (.int 0))) (vCons (vVal (vC (.int 1))) (vCons (vVal (vC (.int 2))) (vCons (vVal (vC (.int 5))) (vCons (vVal (vVar 1)) (vCons (vVal (vBin mulP (vVal (vC (.int 3))) (vPk 1))) (vNil)))))))))) (vNil)))))
    (vSeq (vSet 4 (vCall S_pick (vCons (vPk 0) (vCons (vVal (vC (.int 7))) (vNil)))))
    (vSeq (vIf (vOr (vNot (vTru (vVal (vCall S_same (vCons (vVal (vSh (vCallX EX S_hands_time (vCons (vVal (vSh (vPrim listP (vCons (vPk 2) (vNil))))) (vCons (vVal (vVar 4)) (vNil)))))) (vCons (vVal (vSh (vCall S_k26_laid (vCons (vVal (vVar 2)) (vCons (vVal (vVar 4)) (vNil)))))) (vNil))))))) (vNot (vTru (vVal (vCall S_same (vCons (vVal (vSh (vCallX EX S_group_turns (vCons (vVal (vSh (vPrim listP (vCons (vPk 2) (vNil))))) (vCons (vVal (vVar 3)) (vNil)))))) (vCons (vVal (vSh (vCall S_k26_groups (vCons (vVal (vVar 2)) (vCons (vVal (vVar 3)) (vNil)))))) (vNil)))))))) (vRet (vC (.bl false))) (vNext))
    (vRet (vCall S_k26_least (vCons (vVal (vVar 2)) (vCons (vVal (vVar 3)) (vCons (vVal (vSh (vCallX EX S_line_turns (vCons (vVal (vSh (vPrim listP (vCons (vPk 2) (vNil))))) (vCons (vVal (vVar 3)) (vNil)))))) (vNil)))))))))))
def w_k26_bounds_1 (EX : XP) : VE := vCallX EX S_hands_time (vCons (vVal (vSh (vPrim listP (vCons (vPk 0) (vNil))))) (vCons (vVal (vVar 1)) (vNil)))
def w_k26_bounds_2 (EX : XP) : VE := vCallX EX S_line_turns (vCons (vVal (vSh (vPrim listP (vCons (vPk 0) (vNil))))) (vCons (vVal (vC (.int 0))) (vNil)))
def w_k26_bounds_3 (EX : XP) : VE := vCallX EX S_group_turns (vCons (vVal (vSh (vPrim listP (vCons (vPk 0) (vNil))))) (vCons (vVal (vC (.int 3))) (vNil)))
def v_k26_bounds : VS :=
  vSeq (vSet 1 (vBin addP (vVal (vC (.int 40))) (vVal (vCall S_pick (vCons (vPk 0) (vCons (vVal (vC (.int 2))) (vNil)))))))
    (vSeq (vSet 2 (vBin mulP (vVal (vLst (vCons (vVal (vC (.int 1))) (vNil)))) (vPk 1)))
    (vSeq (vSet 3 (vCall S_pick (vCons (vPk 0) (vCons (vVal (vVar 1)) (vNil)))))
    (vSeq (vSet 4 (vBin eqP (vVal (vCall S_pick (vCons (vPk 0) (vCons (vVal (vC (.int 3))) (vNil))))) (vVal (vC (.int 0)))))
    (vSeq (vIf (vTru (vPk 4)) (vSetL 2 (vVar 3) (vC (.int 1001))) (vNext))
    (vSeq (vSet 5 (vBin addP (vVal (vC (.int 39))) (vVal (vCall S_pick (vCons (vPk 0) (vCons (vVal (vC (.int 3))) (vNil)))))))
    (vKnows 2 (vSeq (vSet 6 (vTup (vCons (vVal (vC (.str "TooMany"))) (vCons (vVal (vC (.str "lengths"))) (vNil)))))
    (vSeq (vSet 7 (vOrV (vVar 4) (vBin gtP (vPk 1) (vVal (vC (.int 40))))))
    (vSeq (vSet 8 (vIfE (vTru (vPk 7)) (vVar 6) (vIfE (vT (vBin gtP (vPk 5) (vVal (vC (.int 40))))) (vTup (vCons (vVal (vC (.str "TooMany"))) (vCons (vVal (vC (.str "hands"))) (vNil)))) (vIfE (vT (vBin eqP (vPk 5) (vVal (vC (.int 40))))) (vC (.int 1)) (vC (.int 2))))))
    (vSeq (vIf (vNot (vTru (vVal (vCall S_same (vCons (vVal (vSh (vLamC [2, 5] [none] (SG_k26_told (lamS 2 (w_k26_bounds_1)))))) (vCons (vVal (vVar 8)) (vNil))))))) (vRet (vC (.bl false))) (vNext))
    (vSeq (vSet 9 (vLamC [2] [none] (SG_k26_told (lamS 1 (w_k26_bounds_2)))))
    (vSeq (vSet 10 (vLamC [2] [none] (SG_k26_told (lamS 1 (w_k26_bounds_3)))))
    (vRet (vAndV (vCall S_same (vCons (vVal (vVar 9)) (vCons (vVal (vSh (vIfE (vTru (vPk 7)) (vVar 6) (vC (.int 1))))) (vNil)))) (vCall S_same (vCons (vVal (vVar 10)) (vCons (vVal (vSh (vIfE (vTru (vPk 7)) (vVar 6) (vC (.int 10))))) (vNil))))))))))))))))))
def v_law (EX : XP) : VS :=
  vSeq (vIf (vNot (vTru (vVal (vCall S_k26_small (vCons (vVal (vCall S_source (vCons (vVal (vVar 0)) (vCons (vVal (vC (.int 0))) (vNil))))) (vNil)))))) (vRet (vC (.bl false))) (vNext))
    (vSeq (vFor (vItR1 (vCons (vVal (vC (.int 3))) (vNil))) (gN 1) (vIf (vNot (vTru (vVal (vCall S_k26_large (vCons (vVal (vCall S_source (vCons (vVal (vVar 0)) (vCons (vVal (vSh (vBin addP (vVal (vC (.int 1))) (vPk 1)))) (vNil))))) (vNil)))))) (vRet (vC (.bl false))) (vNext)))
    (vRet (vAndV (vCall S_k26_bounds (vCons (vVal (vCall S_source (vCons (vVal (vVar 0)) (vCons (vVal (vC (.int 4))) (vNil))))) (vNil))) (vAndV (vBin eqP (vVal (vCallX EX S_hands_time (vCons (vVal (vSh (vLst (vNil)))) (vCons (vVal (vC (.int 3))) (vNil))))) (vVal (vC (.int 0)))) (vBin eqP (vVal (vCallX EX S_group_turns (vCons (vVal (vSh (vLst (vNil)))) (vCons (vVal (vC (.int 1))) (vNil))))) (vVal (vC (.int 0))))))))
end WL

set_option Elab.async false
set_option linter.all false
set_option maxRecDepth 100000
set_option maxHeartbeats 4000000
namespace WL
open PySem PySem.Spec PyProof.Rows L2
variable [TBs]
local macro_rules | `(tactic| walk_at "s") => `(tactic| first
  | ((with_reducible show vSeq _ _ _ _); refine u_seq ?_)
  | ((with_reducible show vSet _ _ _ _); refine u_set ?_)
  | ((with_reducible show kSet _ _ _ _); refine k_set rfl rfl ?_)
  | ((with_reducible show vRet _ _ _); refine u_ret ?_)
  | ((with_reducible show vIf _ _ _ _ _); refine u_if ?_)
  | ((with_reducible show vExpr _ _ _); refine u_expr ?_)
  | ((with_reducible show kExpr _ _ _); refine k_expr ?_)
  | ((with_reducible show vRetN _ _); refine u_retN ?_)
  | ((with_reducible show vAsg _ _ _ _); refine u_asg ?_)
  | ((with_reducible show kAsg _ _ _ _); refine k_asg rfl ?_)
  | ((with_reducible show vNext _ _); refine u_next ?_)
  | ((with_reducible show vBreak _ _); refine u_break ?_)
  | ((with_reducible show vCont _ _); refine u_cont ?_)
  | ((with_reducible show kIf _ _ _ _ _); (first | refine k_ifT ?_ | refine k_ifF ?_))
  | ((with_reducible show vVal _ _ _); refine u_val ?_)
  | ((with_reducible show kVal _ _ _); refine k_val ?_)
  | ((with_reducible show vPk _ _ _); refine u_pk rfl rfl ?_)
  | ((with_reducible show vC _ _ _); refine u_c ?_)
  | ((with_reducible show vVar _ _ _); (first | refine u_var rfl ?_ | refine u_varL rfl ?_ | refine u_varD rfl ?_ | refine u_varE rfl ?_))
  | ((with_reducible show vMv _ _ _); (first | refine u_mv rfl ?_ | refine u_mvO rfl ?_))
  | ((with_reducible show vBin _ _ _ _ _); refine u_bin ?_)
  | ((with_reducible show kBin1 _ _ _ _ _); refine k_bin1 ?_)
  | ((with_reducible show kBin2 _ _ _ _ _); refine k_bin2 rfl rfl ?_)
  | ((with_reducible show vUn _ _ _ _); refine u_un ?_)
  | ((with_reducible show kUn _ _ _ _); refine k_un rfl ?_)
  | ((with_reducible show vCons _ _ _ _); refine u_cons ?_)
  | ((with_reducible show kCons1 _ _ _ _); refine k_cons1 ?_)
  | ((with_reducible show vNil _ _); refine u_nil ?_)
  | ((with_reducible show kCons2 _ _ _ _); refine k_cons2 ?_)
  | ((with_reducible show vPrim _ _ _ _); refine u_prim ?_)
  | ((with_reducible show kPrim _ _ _ _); (first | refine k_prim1 rfl ?_ | refine k_prim2 rfl rfl ?_))
  | ((with_reducible show kRet _ _ _); (first | refine k_retV ?_ | refine k_retL ?_ | refine k_retT ?_ | refine k_retD ?_))
  | ((with_reducible show vSh _ _ _); refine u_sh ?_)
  | ((with_reducible show kSh _ _ _); (first | refine k_sh ?_ | refine k_shL ?_ | refine k_shD ?_))
  | ((with_reducible show vT _ _ _); refine u_t ?_)
  | ((with_reducible show kT _ _ _); refine k_t ?_)
  | ((with_reducible show vTru _ _ _); refine u_tru ?_)
  | ((with_reducible show kTru _ _ _); refine k_tru rfl rfl ?_)
  | ((with_reducible show vAnd _ _ _ _); refine u_and ?_)
  | ((with_reducible show kAnd _ _ _ _); (first | refine k_andT ?_ | refine k_andF ?_))
  | ((with_reducible show vOr _ _ _ _); refine u_or ?_)
  | ((with_reducible show kOr _ _ _ _); (first | refine k_orT ?_ | refine k_orF ?_))
  | ((with_reducible show vNot _ _ _); refine u_not ?_)
  | ((with_reducible show kNot _ _ _); refine k_not ?_)
  | ((with_reducible show vAndV _ _ _ _); refine u_andV ?_)
  | ((with_reducible show kAndV _ _ _ _); (first | refine k_andVT ?_ | refine k_andVF ?_))
  | ((with_reducible show kOrV _ _ _ _); (first | refine k_orVT ?_ | refine k_orVF ?_))
  | ((with_reducible show vOrV _ _ _ _); refine u_orV ?_)
  | ((with_reducible show vNotV _ _ _); refine u_notV ?_)
  | ((with_reducible show kNotV _ _ _); refine k_notV ?_)
  | ((with_reducible show vIfE _ _ _ _ _); refine u_ifE ?_)
  | ((with_reducible show kIfE _ _ _ _ _); (first | refine k_ifET ?_ | refine k_ifEF ?_))
  | ((with_reducible show vLst _ _ _); refine u_lst ?_)
  | ((with_reducible show kLst _ _ _); refine k_lst rfl (by simp only [List.length_cons, List.length_nil]; decide) ?_)
  | ((with_reducible show vTup _ _ _); refine u_tup ?_)
  | ((with_reducible show kTup _ _ _); refine k_tup rfl (by simp only [List.length_cons, List.length_nil]; decide) ?_)
  | ((with_reducible show vNewD _ _); refine u_newD ?_)
  | ((with_reducible show vSl _ _ _ _ _); refine u_sl ?_)
  | ((with_reducible show kSl0 _ _ _ _ _); refine k_sl0 ?_)
  | ((with_reducible show kSl1 _ _ _ _ _); refine k_sl1 ?_)
  | ((with_reducible show kSl2 _ _ _ _ _); refine k_sl2 rfl ?_)
  | ((with_reducible show vNoPart _ _); refine u_noPart ?_)
  | ((with_reducible show vPart _ _ _); refine u_part ?_)
  | ((with_reducible show kPart _ _ _); refine k_part ?_)
  | ((with_reducible show vApp _ _ _ _); refine u_app rfl ?_)
  | ((with_reducible show vPopAt _ _ _ _); refine u_popAt rfl ?_)
  | ((with_reducible show vExt _ _ _ _); refine u_ext rfl ?_)
  | ((with_reducible show vM1 _ _ _ _ _); refine u_m1 ?_)
  | ((with_reducible show kM1a _ _ _ _ _); refine k_m1a rfl ?_)
  | ((with_reducible show kM1b _ _ _ _ _); refine k_m1b rfl rfl ?_)
  | ((with_reducible show vGet2 _ _ _ _ _); refine u_get2 ?_)
  | ((with_reducible show kGet1 _ _ _ _ _); refine k_get1 rfl ?_)
  | ((with_reducible show kGet2 _ _ _ _ _); refine k_get2 ?_)
  | ((with_reducible show vSetL _ _ _ _ _); refine u_setL ?_)
  | ((with_reducible show kSetL1 _ _ _ _ _); refine k_setL1 rfl ?_)
  | ((with_reducible show kSetL2 _ _ _ _ _); (first | refine k_setL2j 0 rfl rfl (by simp) rfl ?_ | refine k_setL2j 1 rfl rfl (by simp) rfl ?_ | refine k_setL2j 2 rfl rfl (by simp) rfl ?_))
  | ((with_reducible show vPutD _ _ _ _ _); refine u_putD ?_)
  | ((with_reducible show kPutD1 _ _ _ _ _); refine k_putD1 rfl ?_)
  | ((with_reducible show vAugL _ _ _ _ _ _); refine u_augL rfl ?_)
  | ((with_reducible show kAugL1 _ _ _ _ _ _); (first | refine k_augL1j 0 rfl rfl rfl ?_ | refine k_augL1j 1 rfl rfl rfl ?_ | refine k_augL1j 2 rfl rfl rfl ?_))
  | ((with_reducible show kAugL2 _ _ _ _ _ _ _); refine k_augL2j rfl (by simp) ?_)
  | ((with_reducible show vAug _ _ _ _ _); refine u_aug rfl ?_)
  | ((with_reducible show kAug _ _ _ _ _ _); (first | refine k_augAdd rfl ?_ | refine k_augSub rfl ?_))
  | ((with_reducible show vCall _ _ _ _); refine u_call ?_)
  | ((with_reducible show gN _ _ _ _); refine u_gN rfl rfl ?_)
  | ((with_reducible show gT _ _ _ _); refine u_gT rfl ?_)
  | ((with_reducible show gL _ _ _ _); refine u_gL rfl rfl ?_)
  | ((with_reducible show gTs _ _ _ _); (first | refine u_gTs0 ?_ | refine u_gTs ?_))
  | ((with_reducible show vItL _ _ _); refine u_itL ?_)
  | ((with_reducible show kItL _ _ _); refine k_itL rfl rfl ?_)
  | ((with_reducible show vItT _ _ _); refine u_itT ?_)
  | ((with_reducible show kItT _ _ _); refine k_itT rfl rfl ?_)
  | ((with_reducible show vItR1 _ _ _); refine u_itR1 ?_)
  | ((with_reducible show vItR2 _ _ _); refine u_itR2 ?_)
  | ((with_reducible show vFor _ _ _ _ _); refine u_for ?_)
  | ((with_reducible show vLc _ _ _ _ _ _ _); refine u_lc ?_)
  | ((with_reducible show vLcK _ _ _ _ _ _ _); refine u_lcK rfl ?_)
  | ((with_reducible show vYes _ _); refine u_yes ?_)
  | ((with_reducible show kLcT _ _ _ _ _ _); refine k_lcTT ?_)
  | ((with_reducible show addP _ _); refine p_addI ?_)
  | ((with_reducible show subP _ _); refine p_subI ?_)
  | ((with_reducible show mulP _ _); (first | refine p_mulI (.inl (.inl (by omega))) ?_ | refine p_mulI (.inl (.inr (by omega))) ?_))
  | ((with_reducible show modP _ _); refine p_modI (by omega) ?_)
  | ((with_reducible show divP _ _); refine p_divI (.inl (by constructor <;> omega)) ?_)
  | ((with_reducible show negP _ _); refine p_negI ?_)
  | ((with_reducible show ltP _ _); refine p_ltI ?_)
  | ((with_reducible show leP _ _); refine p_leI ?_)
  | ((with_reducible show gtP _ _); refine p_gtI ?_)
  | ((with_reducible show geP _ _); refine p_geI ?_)
  | ((with_reducible show eqP _ _); (first | refine p_eqI ?_ | refine p_eqS ?_ | refine p_eqB ?_ | refine p_eqN ?_))
  | ((with_reducible show neP _ _); (first | refine p_neI ?_ | refine p_neS ?_ | refine p_neB ?_))
  | ((with_reducible show isNP _ _); (first | refine p_isNn ?_ | refine p_isNi ?_ | refine p_isNs ?_ | refine p_isNb ?_ | refine p_isNl ?_ | refine p_isNt ?_ | refine p_isNd ?_))
  | ((with_reducible show notNP _ _); (first | refine p_notNn ?_ | refine p_notNi ?_ | refine p_notNs ?_ | refine p_notNb ?_ | refine p_notNl ?_ | refine p_notNt ?_ | refine p_notNd ?_))
  | ((with_reducible show isiP _ _); refine p_isi rfl rfl ?_)
  | ((with_reducible show isiTP _ _); refine p_isiT rfl rfl ?_)
  | ((with_reducible show reprP _ _); (first | refine p_reprB ?_ | refine p_reprN ?_))
  | ((with_reducible show lenP _ _); (first | refine p_lenL ?_ | refine p_lenF ?_ | refine p_lenT ?_ | refine p_lenD ?_))
  | ((with_reducible show absP _ _); refine p_absI ?_)
  | ((with_reducible show intP _ _); refine p_intI ?_)
  | ((with_reducible show listP _ _); (first | refine p_listL ?_ | refine p_listF ?_ | refine p_listD ?_))
  | ((with_reducible show ixP _ _); (first | refine p_ixLj 0 rfl rfl ?_ | refine p_ixLj 1 rfl rfl ?_ | refine p_ixLj 2 rfl rfl ?_ | refine p_ixLj 3 rfl rfl ?_ | refine p_ixTj 0 rfl rfl ?_ | refine p_ixTj 1 rfl rfl ?_ | refine p_ixTj 2 rfl rfl ?_ | refine p_ixTj 3 rfl rfl ?_))
  | ((with_reducible show inP _ _ _); (first | refine p_inS0 ?_ | refine p_inS1 ?_ | refine p_inI0 ?_ | refine p_inI1 ?_ | refine p_inD0 rfl ?_ | refine p_inD1 rfl ?_))
  | ((with_reducible show slP _ _ _ _); (first | refine p_slL ?_ | refine p_slF ?_))
  | ((with_reducible show sumP _ _); refine p_sum ?_)
  | ((with_reducible show maxP _ _); refine p_max2 ?_)
  | ((with_reducible show minP _ _); refine p_min2 ?_)
  | ((with_reducible show allP _ _); refine p_all ?_)
  | ((with_reducible show anyP _ _); refine p_any ?_))
local macro_rules | `(tactic| walk_at "ss") => `(tactic| repeat walk_at "s")
local macro_rules | `(tactic| walk_at "back") => `(tactic| refine k_back ?_ (by dsimp only [takeBack, backS, List.set, List.getElem?_cons_zero, List.getElem?_cons_succ]))
local macro_rules | `(tactic| walk_at "s") => `(tactic| first
  | ((with_reducible show vCallX _ _ _ _ _); refine u_callX ?_)
  | ((with_reducible show vRaise _ _ _ _ _ _); refine u_raise ?_)
  | ((with_reducible show kRaise _ _ _ _ _); refine k_raise rfl rfl (by simp) ?_)
  | ((with_reducible show vNewKs _ _); refine u_newKs ?_))
/-! K26A: bounds. -/
theorem maxD0_le {c : Int} : ∀ {ns : List Int}, (∀ x ∈ ns, x ≤ maxD0 c ns) ∧ (ns ≠ [] → maxD0 c ns ∈ ns)
  | [] => ⟨(fun x hx => by cases hx), fun h => absurd rfl h⟩
  | y :: ys => by
    have key : ∀ (l : List Int) (a : Int), (a ≤ l.foldl max a ∧ ∀ x ∈ l, x ≤ l.foldl max a) ∧ (l.foldl max a = a ∨ l.foldl max a ∈ l) := by
      intro l
      induction l with
      | nil => intro a; exact ⟨⟨Int.le_refl _, (fun x hx => by cases hx)⟩, .inl rfl⟩
      | cons b l ih =>
        intro a
        obtain ⟨⟨h1, h2⟩, h3⟩ := ih (max a b)
        refine ⟨⟨Int.le_trans (Int.le_max_left a b) h1, fun x hx => ?_⟩, ?_⟩
        · rcases List.mem_cons.mp hx with rfl | hx
          · exact Int.le_trans (Int.le_max_right a x) h1
          · exact h2 x hx
        · show (l.foldl max (max a b) = a ∨ l.foldl max (max a b) ∈ b :: l)
          rcases h3 with h3 | h3
          · rw [h3]
            by_cases hab : a ≤ b
            · rw [Int.max_eq_right hab]; exact .inr (List.mem_cons_self ..)
            · rw [Int.max_eq_left (by omega)]; exact .inl rfl
          · exact .inr (List.mem_cons_of_mem _ h3)
    obtain ⟨⟨h1, h2⟩, h3⟩ := key ys y
    refine ⟨fun x hx => ?_, fun _ => ?_⟩
    · rcases List.mem_cons.mp hx with rfl | hx
      · exact h1
      · exact h2 x hx
    · rcases h3 with h3 | h3
      · show ys.foldl max y ∈ y :: ys
        rw [h3]; exact List.mem_cons_self ..
      · exact List.mem_cons_of_mem _ h3
theorem rd_bound : Reads S_bound (fun EX => v_bound EX (TBs.exc "TooMany")) 0 := fun ρs R RX h => by
  obtain ⟨what, n, rfl, hw, h1, h2⟩ := h
  unfold v_bound
  show vIf _ _ _ _ [.sh (.str what), .sh (.int n)]
  have hm : (what, (40 : Int)) ∈ [(("lengths" : Str), (40 : Int)), (("hands" : Str), 40)] := by
    rcases hw with rfl | rfl
    · exact List.mem_cons_self ..
    · exact List.mem_cons_of_mem _ (List.mem_cons_self ..)
  walk_at "ss"
  refine u_kd rfl hm ?_
  walk_at "ss"
  refine ⟨fun hb => ?_, fun hb => ?_⟩
  · walk_at "ss"
    exact h2 (by simpa using hb)
  · walk_at "ss"
    exact h1 (by simpa using hb)
theorem rd_check_lengths : Reads S_check_lengths (fun EX => v_check_lengths EX (TBs.exc "TooMany")) 0 := fun ρs R RX h => by
  obtain ⟨ns, rfl, hz, h1, h2⟩ := h
  unfold v_check_lengths
  show vSeq _ _ _ [.sh (iL ns)]
  walk_at "ss"
  refine k_callX rfl ⟨"lengths", _, rfl, .inl rfl, fun hn => ?_, fun hn => ?_⟩
  · walk_at "back"
    walk_at "ss"
    refine u_maxD rfl rfl ?_
    walk_at "ss"
    rw [List.length_map] at hn
    refine ⟨fun hb => ?_, fun hb => ?_⟩
    · walk_at "ss"
      have hb : 1000 < maxD0 0 ns := by simpa using hb
      exact h2 fun z => by have := z.2; omega
    · walk_at "ss"
      have hb : maxD0 0 ns ≤ 1000 := by simpa using hb
      exact h1 ⟨hn, hb⟩
  · rw [List.length_map] at hn
    exact h2 fun z => by have := z.1; omega
end WL

set_option Elab.async false
set_option linter.all false
set_option maxRecDepth 100000
set_option maxHeartbeats 4000000
namespace WL
open PySem PySem.Spec PyProof.Rows L2
variable [TBs]
local macro_rules | `(tactic| walk_at "s") => `(tactic| first
  | ((with_reducible show vSeq _ _ _ _); refine u_seq ?_)
  | ((with_reducible show vSet _ _ _ _); refine u_set ?_)
  | ((with_reducible show kSet _ _ _ _); (first | refine k_set rfl rfl ?_ | refine k_set rfl (by assumption) ?_))
  | ((with_reducible show vRet _ _ _); refine u_ret ?_)
  | ((with_reducible show vIf _ _ _ _ _); refine u_if ?_)
  | ((with_reducible show vExpr _ _ _); refine u_expr ?_)
  | ((with_reducible show kExpr _ _ _); refine k_expr ?_)
  | ((with_reducible show vRetN _ _); refine u_retN ?_)
  | ((with_reducible show vAsg _ _ _ _); refine u_asg ?_)
  | ((with_reducible show kAsg _ _ _ _); refine k_asg rfl ?_)
  | ((with_reducible show vNext _ _); refine u_next ?_)
  | ((with_reducible show vBreak _ _); refine u_break ?_)
  | ((with_reducible show vCont _ _); refine u_cont ?_)
  | ((with_reducible show kIf _ _ _ _ _); (first | refine k_ifT ?_ | refine k_ifF ?_))
  | ((with_reducible show vVal _ _ _); refine u_val ?_)
  | ((with_reducible show kVal _ _ _); refine k_val ?_)
  | ((with_reducible show vPk _ _ _); refine u_pk rfl rfl ?_)
  | ((with_reducible show vC _ _ _); refine u_c ?_)
  | ((with_reducible show vVar _ _ _); (first | refine u_var rfl ?_ | refine u_varL rfl ?_ | refine u_varD rfl ?_ | refine u_varE rfl ?_))
  | ((with_reducible show vMv _ _ _); (first | refine u_mv rfl ?_ | refine u_mvO rfl ?_))
  | ((with_reducible show vBin _ _ _ _ _); refine u_bin ?_)
  | ((with_reducible show kBin1 _ _ _ _ _); refine k_bin1 ?_)
  | ((with_reducible show kBin2 _ _ _ _ _); refine k_bin2 rfl rfl ?_)
  | ((with_reducible show vUn _ _ _ _); refine u_un ?_)
  | ((with_reducible show kUn _ _ _ _); refine k_un rfl ?_)
  | ((with_reducible show vCons _ _ _ _); refine u_cons ?_)
  | ((with_reducible show kCons1 _ _ _ _); refine k_cons1 ?_)
  | ((with_reducible show vNil _ _); refine u_nil ?_)
  | ((with_reducible show kCons2 _ _ _ _); refine k_cons2 ?_)
  | ((with_reducible show vPrim _ _ _ _); refine u_prim ?_)
  | ((with_reducible show kPrim _ _ _ _); (first | refine k_prim1 rfl ?_ | refine k_prim2 rfl rfl ?_))
  | ((with_reducible show kRet _ _ _); (first | refine k_retV ?_ | refine k_retL ?_ | refine k_retT ?_ | refine k_retD ?_))
  | ((with_reducible show vSh _ _ _); refine u_sh ?_)
  | ((with_reducible show kSh _ _ _); (first | refine k_sh ?_ | refine k_shL ?_ | refine k_shD ?_))
  | ((with_reducible show vT _ _ _); refine u_t ?_)
  | ((with_reducible show kT _ _ _); refine k_t ?_)
  | ((with_reducible show vTru _ _ _); refine u_tru ?_)
  | ((with_reducible show kTru _ _ _); refine k_tru rfl rfl ?_)
  | ((with_reducible show vAnd _ _ _ _); refine u_and ?_)
  | ((with_reducible show kAnd _ _ _ _); (first | refine k_andT ?_ | refine k_andF ?_))
  | ((with_reducible show vOr _ _ _ _); refine u_or ?_)
  | ((with_reducible show kOr _ _ _ _); (first | refine k_orT ?_ | refine k_orF ?_))
  | ((with_reducible show vNot _ _ _); refine u_not ?_)
  | ((with_reducible show kNot _ _ _); refine k_not ?_)
  | ((with_reducible show vAndV _ _ _ _); refine u_andV ?_)
  | ((with_reducible show kAndV _ _ _ _); (first | refine k_andVT ?_ | refine k_andVF ?_))
  | ((with_reducible show kOrV _ _ _ _); (first | refine k_orVT ?_ | refine k_orVF ?_))
  | ((with_reducible show vOrV _ _ _ _); refine u_orV ?_)
  | ((with_reducible show vNotV _ _ _); refine u_notV ?_)
  | ((with_reducible show kNotV _ _ _); refine k_notV ?_)
  | ((with_reducible show vIfE _ _ _ _ _); refine u_ifE ?_)
  | ((with_reducible show kIfE _ _ _ _ _); (first | refine k_ifET ?_ | refine k_ifEF ?_))
  | ((with_reducible show vLst _ _ _); refine u_lst ?_)
  | ((with_reducible show kLst _ _ _); refine k_lst rfl (by simp only [List.length_cons, List.length_nil]; decide) ?_)
  | ((with_reducible show vTup _ _ _); refine u_tup ?_)
  | ((with_reducible show kTup _ _ _); refine k_tup rfl (by simp only [List.length_cons, List.length_nil]; decide) ?_)
  | ((with_reducible show vNewD _ _); refine u_newD ?_)
  | ((with_reducible show vSl _ _ _ _ _); refine u_sl ?_)
  | ((with_reducible show kSl0 _ _ _ _ _); refine k_sl0 ?_)
  | ((with_reducible show kSl1 _ _ _ _ _); refine k_sl1 ?_)
  | ((with_reducible show kSl2 _ _ _ _ _); refine k_sl2 rfl ?_)
  | ((with_reducible show vNoPart _ _); refine u_noPart ?_)
  | ((with_reducible show vPart _ _ _); refine u_part ?_)
  | ((with_reducible show kPart _ _ _); refine k_part ?_)
  | ((with_reducible show vApp _ _ _ _); refine u_app rfl ?_)
  | ((with_reducible show vPopAt _ _ _ _); refine u_popAt rfl ?_)
  | ((with_reducible show vExt _ _ _ _); refine u_ext rfl ?_)
  | ((with_reducible show vM1 _ _ _ _ _); refine u_m1 ?_)
  | ((with_reducible show kM1a _ _ _ _ _); refine k_m1a rfl ?_)
  | ((with_reducible show kM1b _ _ _ _ _); refine k_m1b rfl rfl ?_)
  | ((with_reducible show vGet2 _ _ _ _ _); refine u_get2 ?_)
  | ((with_reducible show kGet1 _ _ _ _ _); refine k_get1 rfl ?_)
  | ((with_reducible show kGet2 _ _ _ _ _); refine k_get2 ?_)
  | ((with_reducible show vSetL _ _ _ _ _); refine u_setL ?_)
  | ((with_reducible show kSetL1 _ _ _ _ _); refine k_setL1 rfl ?_)
  | ((with_reducible show kSetL2 _ _ _ _ _); (first | refine k_setL2j 0 rfl rfl (by simp) rfl ?_ | refine k_setL2j 1 rfl rfl (by simp) rfl ?_ | refine k_setL2j 2 rfl rfl (by simp) rfl ?_))
  | ((with_reducible show vPutD _ _ _ _ _); refine u_putD ?_)
  | ((with_reducible show kPutD1 _ _ _ _ _); refine k_putD1 rfl ?_)
  | ((with_reducible show vAugL _ _ _ _ _ _); refine u_augL rfl ?_)
  | ((with_reducible show kAugL1 _ _ _ _ _ _); (first | refine k_augL1j 0 rfl rfl rfl ?_ | refine k_augL1j 1 rfl rfl rfl ?_ | refine k_augL1j 2 rfl rfl rfl ?_))
  | ((with_reducible show kAugL2 _ _ _ _ _ _ _); refine k_augL2j rfl (by simp) ?_)
  | ((with_reducible show vAug _ _ _ _ _); refine u_aug rfl ?_)
  | ((with_reducible show kAug _ _ _ _ _ _); (first | refine k_augAdd rfl ?_ | refine k_augSub rfl ?_))
  | ((with_reducible show vCall _ _ _ _); refine u_call ?_)
  | ((with_reducible show gN _ _ _ _); (first | refine u_gN rfl rfl ?_ | refine u_gN rfl (by assumption) ?_))
  | ((with_reducible show gT _ _ _ _); refine u_gT rfl ?_)
  | ((with_reducible show gL _ _ _ _); refine u_gL rfl rfl ?_)
  | ((with_reducible show gTs _ _ _ _); (first | refine u_gTs0 ?_ | refine u_gTs ?_))
  | ((with_reducible show vItL _ _ _); refine u_itL ?_)
  | ((with_reducible show kItL _ _ _); refine k_itL rfl rfl ?_)
  | ((with_reducible show vItT _ _ _); refine u_itT ?_)
  | ((with_reducible show kItT _ _ _); refine k_itT rfl rfl ?_)
  | ((with_reducible show vItR1 _ _ _); refine u_itR1 ?_)
  | ((with_reducible show vItR2 _ _ _); refine u_itR2 ?_)
  | ((with_reducible show vFor _ _ _ _ _); refine u_for ?_)
  | ((with_reducible show vLc _ _ _ _ _ _ _); refine u_lc ?_)
  | ((with_reducible show vLcK _ _ _ _ _ _ _); refine u_lcK rfl ?_)
  | ((with_reducible show vYes _ _); refine u_yes ?_)
  | ((with_reducible show kLcT _ _ _ _ _ _); refine k_lcTT ?_)
  | ((with_reducible show addP _ _); refine p_addI ?_)
  | ((with_reducible show subP _ _); refine p_subI ?_)
  | ((with_reducible show mulP _ _); (first | refine p_mulI (.inl (.inl (by omega))) ?_ | refine p_mulI (.inl (.inr (by omega))) ?_))
  | ((with_reducible show modP _ _); refine p_modI (by omega) ?_)
  | ((with_reducible show divP _ _); refine p_divI (.inl (by constructor <;> omega)) ?_)
  | ((with_reducible show negP _ _); refine p_negI ?_)
  | ((with_reducible show ltP _ _); refine p_ltI ?_)
  | ((with_reducible show leP _ _); refine p_leI ?_)
  | ((with_reducible show gtP _ _); refine p_gtI ?_)
  | ((with_reducible show geP _ _); refine p_geI ?_)
  | ((with_reducible show eqP _ _); (first | refine p_eqI ?_ | refine p_eqS ?_ | refine p_eqB ?_ | refine p_eqN ?_))
  | ((with_reducible show neP _ _); (first | refine p_neI ?_ | refine p_neS ?_ | refine p_neB ?_))
  | ((with_reducible show isNP _ _); (first | refine p_isNn ?_ | refine p_isNi ?_ | refine p_isNs ?_ | refine p_isNb ?_ | refine p_isNl ?_ | refine p_isNt ?_ | refine p_isNd ?_))
  | ((with_reducible show notNP _ _); (first | refine p_notNn ?_ | refine p_notNi ?_ | refine p_notNs ?_ | refine p_notNb ?_ | refine p_notNl ?_ | refine p_notNt ?_ | refine p_notNd ?_))
  | ((with_reducible show isiP _ _); refine p_isi rfl rfl ?_)
  | ((with_reducible show isiTP _ _); refine p_isiT rfl rfl ?_)
  | ((with_reducible show reprP _ _); (first | refine p_reprB ?_ | refine p_reprN ?_))
  | ((with_reducible show lenP _ _); (first | refine p_lenL ?_ | refine p_lenF ?_ | refine p_lenT ?_ | refine p_lenD ?_))
  | ((with_reducible show absP _ _); refine p_absI ?_)
  | ((with_reducible show intP _ _); refine p_intI ?_)
  | ((with_reducible show listP _ _); (first | refine p_listL ?_ | refine p_listF ?_ | refine p_listD ?_))
  | ((with_reducible show ixP _ _); (first | refine p_ixLj 0 rfl rfl ?_ | refine p_ixLj 1 rfl rfl ?_ | refine p_ixLj 2 rfl rfl ?_ | refine p_ixLj 3 rfl rfl ?_ | refine p_ixTj 0 rfl rfl ?_ | refine p_ixTj 1 rfl rfl ?_ | refine p_ixTj 2 rfl rfl ?_ | refine p_ixTj 3 rfl rfl ?_))
  | ((with_reducible show inP _ _ _); (first | refine p_inS0 ?_ | refine p_inS1 ?_ | refine p_inI0 ?_ | refine p_inI1 ?_ | refine p_inD0 rfl ?_ | refine p_inD1 rfl ?_))
  | ((with_reducible show slP _ _ _ _); (first | refine p_slL ?_ | refine p_slF ?_))
  | ((with_reducible show sumP _ _); refine p_sum ?_)
  | ((with_reducible show maxP _ _); refine p_max2 ?_)
  | ((with_reducible show minP _ _); refine p_min2 ?_)
  | ((with_reducible show allP _ _); refine p_all ?_)
  | ((with_reducible show anyP _ _); refine p_any ?_))
local macro_rules | `(tactic| walk_at "ss") => `(tactic| repeat walk_at "s")
local macro_rules | `(tactic| walk_at "back") => `(tactic| refine k_back ?_ (by dsimp only [takeBack, backS, List.set, List.getElem?_cons_zero, List.getElem?_cons_succ]))
local macro_rules | `(tactic| walk_at "s") => `(tactic| first
  | ((with_reducible show vCallX _ _ _ _ _); refine u_callX ?_)
  | ((with_reducible show vRaise _ _ _ _ _ _); refine u_raise ?_)
  | ((with_reducible show kRaise _ _ _ _ _); refine k_raise rfl rfl (by simp) ?_)
  | ((with_reducible show vNewKs _ _); refine u_newKs ?_))
/-! K26B: line_turns. -/
theorem over_cons (x : Int) (ns : List Int) (t : Int) : over (x :: ns) t = (if x - t > 0 then x - t else 0) + over ns t := by
  unfold over; rw [List.map_cons, List.sum_cons]
theorem over_zero {t : Int} : ∀ {ns : List Int}, (∀ x ∈ ns, x ≤ t) → over ns t = 0
  | [], _ => rfl
  | x :: ns, h => by
    have hx := h x (List.mem_cons_self ..)
    rw [over_cons, if_neg (by omega), over_zero fun y hy => h y (List.mem_cons_of_mem _ hy)]; rfl
theorem rd_line_turns : Reads S_line_turns (fun EX => v_line_turns EX) 4 := fun ρs R RX h => by
  obtain ⟨ns, w, rfl, hz, hn, w0, w1, q, qx⟩ := h
  unfold v_line_turns
  show vSeq _ _ _ [.sh (iL ns), .sh (.int w), .un, .un, .un, .un]
  walk_at "ss"
  refine k_callX rfl ⟨ns, rfl, hz, fun ok => ?_, fun nok => qx nok⟩
  walk_at "back"
  walk_at "ss"
  refine u_maxD rfl rfl ?_
  walk_at "ss"
  obtain ⟨m1, m2⟩ := maxD0_le (c := 1) (ns := ns)
  have hM : 1 ≤ maxD0 1 ns ∧ maxD0 1 ns ≤ 100000 := by
    by_cases e : ns = []
    · subst e; exact ⟨Int.le_refl _, by decide⟩
    · exact hn _ (m2 e)
  have hP : over ns (maxD0 1 ns) ≤ w * maxD0 1 ns := by
    rw [over_zero m1]
    exact Int.mul_nonneg w0 (by omega)
  refine u_while1 (fun m ρ => ∃ lo hi s4 s5, ρ = [.sh (iL ns), .sh (.int w), .sh (.int lo), .sh (.int hi), s4, s5] ∧ s4.free = true ∧ s5.free = true ∧ 1 ≤ lo ∧ lo ≤ hi ∧ hi ≤ 100000 ∧ over ns hi ≤ w * hi ∧ (lo = 1 ∨ over ns (lo - 1) > w * (lo - 1)) ∧ (m : Int) = hi - lo) (maxD0 1 ns - 1).toNat
    ⟨1, maxD0 1 ns, .un, .un, rfl, rfl, rfl, by omega, hM.1, hM.2, hP, .inl rfl, by omega⟩ ?_
  rintro m ρ' ⟨lo, hi, s4, s5, rfl, f4, f5, l1, l2, l3, p1, p2, em⟩
  walk_at "ss"
  refine k_while (fun hb => ?_) (fun hb => ?_)
  · have hlt : lo < hi := by simpa using hb
    walk_at "ss"
    refine k_lcM ns D.int (fun _ => true) (fun l => D.int (if l - (lo + hi) / 2 > 0 then l - (lo + hi) / 2 else 0)) [.sh (iL ns), .sh (.int w), .sh (.int lo), .sh (.int hi), .sh (.int ((lo + hi) / 2)), .un] rfl (small16 (by omega)) (free1 rfl f5) rfl ?_ ?_
    · intro x acc I hx _ a1 a2
      walk_at "ss"
      exact k_lcE rfl (by assumption) (a1 rfl)
    · rw [filt_true]
      have e : (ns.map fun l => D.int (if l - (lo + hi) / 2 > 0 then l - (lo + hi) / 2 else 0)) = (ns.map fun l => if l - (lo + hi) / 2 > 0 then l - (lo + hi) / 2 else 0).map D.int := by rw [List.map_map]; rfl
      rw [e]
      walk_at "ss"
      refine ⟨fun hc => ?_, fun hc => ?_⟩
      · have hc : over ns ((lo + hi) / 2) ≤ w * ((lo + hi) / 2) := by simpa [over] using hc
        walk_at "ss"
        exact ⟨((lo + hi) / 2 - lo).toNat, by omega, lo, (lo + hi) / 2, _, _, rfl, rfl, rfl, l1, by omega, by omega, hc, p2, by omega⟩
      · have hc : w * ((lo + hi) / 2) < over ns ((lo + hi) / 2) := by simpa [over] using hc
        walk_at "ss"
        refine ⟨(hi - ((lo + hi) / 2 + 1)).toNat, by omega, (lo + hi) / 2 + 1, hi, _, _, rfl, rfl, rfl, by omega, by omega, by omega, p1, .inr ?_, by omega⟩
        rw [show (lo + hi) / 2 + 1 - 1 = (lo + hi) / 2 by omega]; exact hc
  · have hge : ¬ lo < hi := by simpa using hb
    have e : lo = hi := by omega
    subst e
    walk_at "ss"
    exact q ok lo ⟨l1, p1, p2⟩
end WL

set_option Elab.async false
set_option linter.all false
set_option maxRecDepth 100000
set_option maxHeartbeats 4000000
namespace WL
open PySem PySem.Spec PyProof.Rows L2
variable [TBs]
local macro_rules | `(tactic| walk_at "s") => `(tactic| first
  | ((with_reducible show vSeq _ _ _ _); refine u_seq ?_)
  | ((with_reducible show vSet _ _ _ _); refine u_set ?_)
  | ((with_reducible show kSet _ _ _ _); (first | refine k_set rfl rfl ?_ | refine k_set rfl (by assumption) ?_))
  | ((with_reducible show vRet _ _ _); refine u_ret ?_)
  | ((with_reducible show vIf _ _ _ _ _); refine u_if ?_)
  | ((with_reducible show vExpr _ _ _); refine u_expr ?_)
  | ((with_reducible show kExpr _ _ _); refine k_expr ?_)
  | ((with_reducible show vRetN _ _); refine u_retN ?_)
  | ((with_reducible show vAsg _ _ _ _); refine u_asg ?_)
  | ((with_reducible show kAsg _ _ _ _); refine k_asg rfl ?_)
  | ((with_reducible show vNext _ _); refine u_next ?_)
  | ((with_reducible show vBreak _ _); refine u_break ?_)
  | ((with_reducible show vCont _ _); refine u_cont ?_)
  | ((with_reducible show kIf _ _ _ _ _); (first | refine k_ifT ?_ | refine k_ifF ?_))
  | ((with_reducible show vVal _ _ _); refine u_val ?_)
  | ((with_reducible show kVal _ _ _); refine k_val ?_)
  | ((with_reducible show vPk _ _ _); refine u_pk rfl rfl ?_)
  | ((with_reducible show vC _ _ _); refine u_c ?_)
  | ((with_reducible show vVar _ _ _); (first | refine u_var rfl ?_ | refine u_varL rfl ?_ | refine u_varD rfl ?_ | refine u_varE rfl ?_))
  | ((with_reducible show vMv _ _ _); (first | refine u_mv rfl ?_ | refine u_mvO rfl ?_))
  | ((with_reducible show vBin _ _ _ _ _); refine u_bin ?_)
  | ((with_reducible show kBin1 _ _ _ _ _); refine k_bin1 ?_)
  | ((with_reducible show kBin2 _ _ _ _ _); refine k_bin2 rfl rfl ?_)
  | ((with_reducible show vUn _ _ _ _); refine u_un ?_)
  | ((with_reducible show kUn _ _ _ _); refine k_un rfl ?_)
  | ((with_reducible show vCons _ _ _ _); refine u_cons ?_)
  | ((with_reducible show kCons1 _ _ _ _); refine k_cons1 ?_)
  | ((with_reducible show vNil _ _); refine u_nil ?_)
  | ((with_reducible show kCons2 _ _ _ _); refine k_cons2 ?_)
  | ((with_reducible show vPrim _ _ _ _); refine u_prim ?_)
  | ((with_reducible show kPrim _ _ _ _); (first | refine k_prim1 rfl ?_ | refine k_prim2 rfl rfl ?_))
  | ((with_reducible show kRet _ _ _); (first | refine k_retV ?_ | refine k_retL ?_ | refine k_retT ?_ | refine k_retD ?_))
  | ((with_reducible show vSh _ _ _); refine u_sh ?_)
  | ((with_reducible show kSh _ _ _); (first | refine k_sh ?_ | refine k_shL ?_ | refine k_shD ?_))
  | ((with_reducible show vT _ _ _); refine u_t ?_)
  | ((with_reducible show kT _ _ _); refine k_t ?_)
  | ((with_reducible show vTru _ _ _); refine u_tru ?_)
  | ((with_reducible show kTru _ _ _); refine k_tru rfl rfl ?_)
  | ((with_reducible show vAnd _ _ _ _); refine u_and ?_)
  | ((with_reducible show kAnd _ _ _ _); (first | refine k_andT ?_ | refine k_andF ?_))
  | ((with_reducible show vOr _ _ _ _); refine u_or ?_)
  | ((with_reducible show kOr _ _ _ _); (first | refine k_orT ?_ | refine k_orF ?_))
  | ((with_reducible show vNot _ _ _); refine u_not ?_)
  | ((with_reducible show kNot _ _ _); refine k_not ?_)
  | ((with_reducible show vAndV _ _ _ _); refine u_andV ?_)
  | ((with_reducible show kAndV _ _ _ _); (first | refine k_andVT ?_ | refine k_andVF ?_))
  | ((with_reducible show kOrV _ _ _ _); (first | refine k_orVT ?_ | refine k_orVF ?_))
  | ((with_reducible show vOrV _ _ _ _); refine u_orV ?_)
  | ((with_reducible show vNotV _ _ _); refine u_notV ?_)
  | ((with_reducible show kNotV _ _ _); refine k_notV ?_)
  | ((with_reducible show vIfE _ _ _ _ _); refine u_ifE ?_)
  | ((with_reducible show kIfE _ _ _ _ _); (first | refine k_ifET ?_ | refine k_ifEF ?_))
  | ((with_reducible show vLst _ _ _); refine u_lst ?_)
  | ((with_reducible show kLst _ _ _); refine k_lst rfl (by simp only [List.length_cons, List.length_nil]; decide) ?_)
  | ((with_reducible show vTup _ _ _); refine u_tup ?_)
  | ((with_reducible show kTup _ _ _); refine k_tup rfl (by simp only [List.length_cons, List.length_nil]; decide) ?_)
  | ((with_reducible show vNewD _ _); refine u_newD ?_)
  | ((with_reducible show vSl _ _ _ _ _); refine u_sl ?_)
  | ((with_reducible show kSl0 _ _ _ _ _); refine k_sl0 ?_)
  | ((with_reducible show kSl1 _ _ _ _ _); refine k_sl1 ?_)
  | ((with_reducible show kSl2 _ _ _ _ _); refine k_sl2 rfl ?_)
  | ((with_reducible show vNoPart _ _); refine u_noPart ?_)
  | ((with_reducible show vPart _ _ _); refine u_part ?_)
  | ((with_reducible show kPart _ _ _); refine k_part ?_)
  | ((with_reducible show vApp _ _ _ _); refine u_app rfl ?_)
  | ((with_reducible show vPopAt _ _ _ _); refine u_popAt rfl ?_)
  | ((with_reducible show vExt _ _ _ _); refine u_ext rfl ?_)
  | ((with_reducible show vM1 _ _ _ _ _); refine u_m1 ?_)
  | ((with_reducible show kM1a _ _ _ _ _); refine k_m1a rfl ?_)
  | ((with_reducible show kM1b _ _ _ _ _); refine k_m1b rfl rfl ?_)
  | ((with_reducible show vGet2 _ _ _ _ _); refine u_get2 ?_)
  | ((with_reducible show kGet1 _ _ _ _ _); refine k_get1 rfl ?_)
  | ((with_reducible show kGet2 _ _ _ _ _); refine k_get2 ?_)
  | ((with_reducible show vSetL _ _ _ _ _); refine u_setL ?_)
  | ((with_reducible show kSetL1 _ _ _ _ _); refine k_setL1 rfl ?_)
  | ((with_reducible show kSetL2 _ _ _ _ _); (first | refine k_setL2j 0 rfl rfl (by simp) rfl ?_ | refine k_setL2j 1 rfl rfl (by simp) rfl ?_ | refine k_setL2j 2 rfl rfl (by simp) rfl ?_))
  | ((with_reducible show vPutD _ _ _ _ _); refine u_putD ?_)
  | ((with_reducible show kPutD1 _ _ _ _ _); refine k_putD1 rfl ?_)
  | ((with_reducible show vAugL _ _ _ _ _ _); refine u_augL rfl ?_)
  | ((with_reducible show kAugL1 _ _ _ _ _ _); (first | refine k_augL1j 0 rfl rfl rfl ?_ | refine k_augL1j 1 rfl rfl rfl ?_ | refine k_augL1j 2 rfl rfl rfl ?_))
  | ((with_reducible show kAugL2 _ _ _ _ _ _ _); refine k_augL2j rfl (by simp) ?_)
  | ((with_reducible show vAug _ _ _ _ _); refine u_aug rfl ?_)
  | ((with_reducible show kAug _ _ _ _ _ _); (first | refine k_augAdd rfl ?_ | refine k_augSub rfl ?_))
  | ((with_reducible show vCall _ _ _ _); refine u_call ?_)
  | ((with_reducible show gN _ _ _ _); (first | refine u_gN rfl rfl ?_ | refine u_gN rfl (by assumption) ?_))
  | ((with_reducible show gT _ _ _ _); refine u_gT rfl ?_)
  | ((with_reducible show gL _ _ _ _); refine u_gL rfl rfl ?_)
  | ((with_reducible show gTs _ _ _ _); (first | refine u_gTs0 ?_ | refine u_gTs ?_))
  | ((with_reducible show vItL _ _ _); refine u_itL ?_)
  | ((with_reducible show kItL _ _ _); refine k_itL rfl rfl ?_)
  | ((with_reducible show vItT _ _ _); refine u_itT ?_)
  | ((with_reducible show kItT _ _ _); refine k_itT rfl rfl ?_)
  | ((with_reducible show vItR1 _ _ _); refine u_itR1 ?_)
  | ((with_reducible show vItR2 _ _ _); refine u_itR2 ?_)
  | ((with_reducible show vFor _ _ _ _ _); refine u_for ?_)
  | ((with_reducible show vLc _ _ _ _ _ _ _); refine u_lc ?_)
  | ((with_reducible show vLcK _ _ _ _ _ _ _); refine u_lcK rfl ?_)
  | ((with_reducible show vYes _ _); refine u_yes ?_)
  | ((with_reducible show kLcT _ _ _ _ _ _); refine k_lcTT ?_)
  | ((with_reducible show addP _ _); refine p_addI ?_)
  | ((with_reducible show subP _ _); refine p_subI ?_)
  | ((with_reducible show mulP _ _); (first | refine p_mulI (.inl (.inl (by omega))) ?_ | refine p_mulI (.inl (.inr (by omega))) ?_))
  | ((with_reducible show modP _ _); refine p_modI (by omega) ?_)
  | ((with_reducible show divP _ _); refine p_divI (.inl (by constructor <;> omega)) ?_)
  | ((with_reducible show negP _ _); refine p_negI ?_)
  | ((with_reducible show ltP _ _); refine p_ltI ?_)
  | ((with_reducible show leP _ _); refine p_leI ?_)
  | ((with_reducible show gtP _ _); refine p_gtI ?_)
  | ((with_reducible show geP _ _); refine p_geI ?_)
  | ((with_reducible show eqP _ _); (first | refine p_eqI ?_ | refine p_eqS ?_ | refine p_eqB ?_ | refine p_eqN ?_))
  | ((with_reducible show neP _ _); (first | refine p_neI ?_ | refine p_neS ?_ | refine p_neB ?_))
  | ((with_reducible show isNP _ _); (first | refine p_isNn ?_ | refine p_isNi ?_ | refine p_isNs ?_ | refine p_isNb ?_ | refine p_isNl ?_ | refine p_isNt ?_ | refine p_isNd ?_))
  | ((with_reducible show notNP _ _); (first | refine p_notNn ?_ | refine p_notNi ?_ | refine p_notNs ?_ | refine p_notNb ?_ | refine p_notNl ?_ | refine p_notNt ?_ | refine p_notNd ?_))
  | ((with_reducible show isiP _ _); refine p_isi rfl rfl ?_)
  | ((with_reducible show isiTP _ _); refine p_isiT rfl rfl ?_)
  | ((with_reducible show reprP _ _); (first | refine p_reprB ?_ | refine p_reprN ?_))
  | ((with_reducible show lenP _ _); (first | refine p_lenL ?_ | refine p_lenF ?_ | refine p_lenT ?_ | refine p_lenD ?_))
  | ((with_reducible show absP _ _); refine p_absI ?_)
  | ((with_reducible show intP _ _); refine p_intI ?_)
  | ((with_reducible show listP _ _); (first | refine p_listL ?_ | refine p_listF ?_ | refine p_listD ?_))
  | ((with_reducible show ixP _ _); (first | refine p_ixLj 0 rfl rfl ?_ | refine p_ixLj 1 rfl rfl ?_ | refine p_ixLj 2 rfl rfl ?_ | refine p_ixLj 3 rfl rfl ?_ | refine p_ixTj 0 rfl rfl ?_ | refine p_ixTj 1 rfl rfl ?_ | refine p_ixTj 2 rfl rfl ?_ | refine p_ixTj 3 rfl rfl ?_))
  | ((with_reducible show inP _ _ _); (first | refine p_inS0 ?_ | refine p_inS1 ?_ | refine p_inI0 ?_ | refine p_inI1 ?_ | refine p_inD0 rfl ?_ | refine p_inD1 rfl ?_))
  | ((with_reducible show slP _ _ _ _); (first | refine p_slL ?_ | refine p_slF ?_))
  | ((with_reducible show sumP _ _); refine p_sum ?_)
  | ((with_reducible show maxP _ _); refine p_max2 ?_)
  | ((with_reducible show minP _ _); refine p_min2 ?_)
  | ((with_reducible show allP _ _); refine p_all ?_)
  | ((with_reducible show anyP _ _); refine p_any ?_))
local macro_rules | `(tactic| walk_at "ss") => `(tactic| repeat walk_at "s")
local macro_rules | `(tactic| walk_at "back") => `(tactic| refine k_back ?_ (by dsimp only [takeBack, backS, List.set, List.getElem?_cons_zero, List.getElem?_cons_succ]))
local macro_rules | `(tactic| walk_at "s") => `(tactic| first
  | ((with_reducible show vCallX _ _ _ _ _); refine u_callX ?_)
  | ((with_reducible show vRaise _ _ _ _ _ _); refine u_raise ?_)
  | ((with_reducible show kRaise _ _ _ _ _); refine k_raise rfl rfl (by simp) ?_)
  | ((with_reducible show vNewKs _ _); refine u_newKs ?_))
/-! K26C: group_turns, by the program and by the law. -/
theorem gRun_len : ∀ (xs : List Int) (l : Int), (gRun l xs).length ≤ xs.length
  | [], _ => Nat.le_refl _
  | x :: xs, l => by
    unfold gRun
    split
    · exact Nat.le_succ_of_le (gRun_len xs _)
    · exact Nat.le_refl _
theorem gTn_fuel (w : Int) : ∀ (n m : Nat) (xs : List Int), xs.length ≤ n → xs.length ≤ m → gTn w n xs = gTn w m xs
  | 0, 0, _, _, _ => rfl
  | 0, m + 1, [], _, _ => rfl
  | 0, _ + 1, _ :: _, h, _ => by simp at h
  | n + 1, 0, [], _, _ => rfl
  | _ + 1, 0, _ :: _, _, h => by simp at h
  | n + 1, m + 1, [], _, _ => rfl
  | n + 1, m + 1, x :: xs, h1, h2 => by
    have := gRun_len xs w
    show 1 + gTn w n (gRun w xs) = 1 + gTn w m (gRun w xs)
    rw [gTn_fuel w n m (gRun w xs) (by simp at h1; omega) (by simp at h2; omega)]
theorem grT_nil (w : Int) : grT w [] = 0 := rfl
theorem grT_cons (w x : Int) (xs : List Int) : grT w (x :: xs) = 1 + grT w (gRun w xs) := by
  show 1 + gTn w xs.length (gRun w xs) = 1 + gTn w (gRun w xs).length (gRun w xs)
  rw [gTn_fuel w _ _ _ (gRun_len xs w) (Nat.le_refl _)]
theorem gRun_stop {l x : Int} {xs : List Int} (h : l < x) : gRun l (x :: xs) = x :: xs := by unfold gRun; rw [if_neg (by omega)]
theorem gRun_go {l x : Int} {xs : List Int} (h : x ≤ l) : gRun l (x :: xs) = gRun (l - x) xs := by
  conv => lhs; unfold gRun
  rw [if_pos h]
theorem drop_at {ns : List Int} {j : Nat} (h : j < ns.length) : ∃ x, ns[j]? = some x ∧ ns.drop j = x :: ns.drop (j + 1) := ⟨ns[j], List.getElem?_eq_getElem h, List.drop_eq_getElem_cons h⟩
theorem rd_group_turns : Reads S_group_turns (fun EX => v_group_turns EX) 3 := fun ρs R RX h => by
  obtain ⟨ns, w, rfl, hz, q, qx⟩ := h
  unfold v_group_turns
  show vSeq _ _ _ [.sh (iL ns), .sh (.int w), .un, .un, .un]
  walk_at "ss"
  refine k_callX rfl ⟨ns, rfl, hz, fun ok => ?_, fun nok => qx nok⟩
  walk_at "back"
  walk_at "ss"
  refine u_while1 (fun m ρ => ∃ (t : Int) (j : Nat) (s4 : Slot), ρ = [.sh (iL ns), .sh (.int w), .sh (.int t), .sh (.int j), s4] ∧ s4.free = true ∧ j ≤ ns.length ∧ t + grT w (ns.drop j) = grT w ns ∧ m = ns.length - j) ns.length
    ⟨0, 0, .un, rfl, rfl, Nat.zero_le _, by simp, by simp⟩ ?_
  rintro m ρ' ⟨t, j, s4, rfl, f4, hj, et, em⟩
  walk_at "ss"
  refine k_while (fun hb => ?_) (fun hb => ?_)
  · rw [List.length_map] at hb
    have hlt : j < ns.length := by have : (j : Int) < ns.length := by simpa using hb
                                   omega
    obtain ⟨x, hx, ed⟩ := drop_at hlt
    rw [ed, grT_cons] at et
    walk_at "ss"
    refine u_while1 (fun m ρ => ∃ (i : Nat) (l : Int), ρ = [.sh (iL ns), .sh (.int w), .sh (.int (t + 1)), .sh (.int i), .sh (.int l)] ∧ j < i ∧ i ≤ ns.length ∧ gRun l (ns.drop i) = gRun w (ns.drop (j + 1)) ∧ m = ns.length - i) (ns.length - (j + 1))
      ⟨j + 1, w, rfl, by omega, by omega, rfl, rfl⟩ ?_
    rintro m2 ρ2 ⟨i, l, rfl, i1, i2, er, em2⟩
    walk_at "ss"
    by_cases hi : i < ns.length
    · obtain ⟨y, hy, ed2⟩ := drop_at hi
      have hb1 : decide ((i : Int) < ((ns.map D.int).length : Int)) = true := by rw [List.length_map]; exact decide_eq_true (by omega)
      rw [hb1]
      walk_at "ss"
      refine p_ixLj i rfl (by rw [List.getElem?_map, hy]; rfl) ?_
      walk_at "ss"
      refine k_while (fun hc => ?_) (fun hc => ?_)
      · have hc : y ≤ l := by simpa using hc
        walk_at "ss"
        refine p_ixLj i rfl (by rw [List.getElem?_map, hy]; rfl) ?_
        walk_at "ss"
        rw [ed2, gRun_go hc] at er
        exact ⟨ns.length - (i + 1), by omega, i + 1, l - y, rfl, by omega, by omega, er, rfl⟩
      · have hc : ¬ y ≤ l := by simpa using hc
        rw [ed2, gRun_stop (by omega)] at er
        exact ⟨ns.length - i, by omega, t + 1, i, _, rfl, rfl, i2, by rw [ed2, er]; omega, rfl⟩
    · have hb1 : decide ((i : Int) < ((ns.map D.int).length : Int)) = false := by rw [List.length_map]; exact decide_eq_false (by omega)
      rw [hb1]
      walk_at "ss"
      refine k_while (fun hc => by cases hc) (fun _ => ?_)
      have e : ns.drop i = [] := List.drop_eq_nil_of_le (by omega)
      have er' := er
      rw [e] at er'
      exact ⟨ns.length - i, by omega, t + 1, i, _, rfl, rfl, i2, by rw [e]; rw [← er', show gRun l [] = [] from rfl] at et; omega, rfl⟩
  · rw [List.length_map] at hb
    have hge : ns.length ≤ j := by have : ¬ ((j : Int) < ns.length) := by simpa using hb
                                   omega
    rw [List.drop_eq_nil_of_le hge, grT_nil] at et
    walk_at "ss"
    have e : t = grT w ns := by omega
    rw [e]
    exact q ok
end WL

set_option Elab.async false
set_option linter.all false
set_option maxRecDepth 100000
set_option maxHeartbeats 4000000
namespace WL
open PySem PySem.Spec PyProof.Rows L2
variable [TBs]
local macro_rules | `(tactic| walk_at "s") => `(tactic| first
  | ((with_reducible show vSeq _ _ _ _); refine u_seq ?_)
  | ((with_reducible show vSet _ _ _ _); refine u_set ?_)
  | ((with_reducible show kSet _ _ _ _); (first | refine k_set rfl rfl ?_ | refine k_set rfl (by assumption) ?_))
  | ((with_reducible show vRet _ _ _); refine u_ret ?_)
  | ((with_reducible show vIf _ _ _ _ _); refine u_if ?_)
  | ((with_reducible show vExpr _ _ _); refine u_expr ?_)
  | ((with_reducible show kExpr _ _ _); refine k_expr ?_)
  | ((with_reducible show vRetN _ _); refine u_retN ?_)
  | ((with_reducible show vAsg _ _ _ _); refine u_asg ?_)
  | ((with_reducible show kAsg _ _ _ _); refine k_asg rfl ?_)
  | ((with_reducible show vNext _ _); refine u_next ?_)
  | ((with_reducible show vBreak _ _); refine u_break ?_)
  | ((with_reducible show vCont _ _); refine u_cont ?_)
  | ((with_reducible show kIf _ _ _ _ _); (first | refine k_ifT ?_ | refine k_ifF ?_))
  | ((with_reducible show vVal _ _ _); refine u_val ?_)
  | ((with_reducible show kVal _ _ _); refine k_val ?_)
  | ((with_reducible show vPk _ _ _); refine u_pk rfl rfl ?_)
  | ((with_reducible show vC _ _ _); refine u_c ?_)
  | ((with_reducible show vVar _ _ _); (first | refine u_var rfl ?_ | refine u_varL rfl ?_ | refine u_varD rfl ?_ | refine u_varE rfl ?_))
  | ((with_reducible show vMv _ _ _); (first | refine u_mv rfl ?_ | refine u_mvO rfl ?_))
  | ((with_reducible show vBin _ _ _ _ _); refine u_bin ?_)
  | ((with_reducible show kBin1 _ _ _ _ _); refine k_bin1 ?_)
  | ((with_reducible show kBin2 _ _ _ _ _); refine k_bin2 rfl rfl ?_)
  | ((with_reducible show vUn _ _ _ _); refine u_un ?_)
  | ((with_reducible show kUn _ _ _ _); refine k_un rfl ?_)
  | ((with_reducible show vCons _ _ _ _); refine u_cons ?_)
  | ((with_reducible show kCons1 _ _ _ _); refine k_cons1 ?_)
  | ((with_reducible show vNil _ _); refine u_nil ?_)
  | ((with_reducible show kCons2 _ _ _ _); refine k_cons2 ?_)
  | ((with_reducible show vPrim _ _ _ _); refine u_prim ?_)
  | ((with_reducible show kPrim _ _ _ _); (first | refine k_prim1 rfl ?_ | refine k_prim2 rfl rfl ?_))
  | ((with_reducible show kRet _ _ _); (first | refine k_retV ?_ | refine k_retL ?_ | refine k_retT ?_ | refine k_retD ?_))
  | ((with_reducible show vSh _ _ _); refine u_sh ?_)
  | ((with_reducible show kSh _ _ _); (first | refine k_sh ?_ | refine k_shL ?_ | refine k_shD ?_))
  | ((with_reducible show vT _ _ _); refine u_t ?_)
  | ((with_reducible show kT _ _ _); refine k_t ?_)
  | ((with_reducible show vTru _ _ _); refine u_tru ?_)
  | ((with_reducible show kTru _ _ _); refine k_tru rfl rfl ?_)
  | ((with_reducible show vAnd _ _ _ _); refine u_and ?_)
  | ((with_reducible show kAnd _ _ _ _); (first | refine k_andT ?_ | refine k_andF ?_))
  | ((with_reducible show vOr _ _ _ _); refine u_or ?_)
  | ((with_reducible show kOr _ _ _ _); (first | refine k_orT ?_ | refine k_orF ?_))
  | ((with_reducible show vNot _ _ _); refine u_not ?_)
  | ((with_reducible show kNot _ _ _); refine k_not ?_)
  | ((with_reducible show vAndV _ _ _ _); refine u_andV ?_)
  | ((with_reducible show kAndV _ _ _ _); (first | refine k_andVT ?_ | refine k_andVF ?_))
  | ((with_reducible show kOrV _ _ _ _); (first | refine k_orVT ?_ | refine k_orVF ?_))
  | ((with_reducible show vOrV _ _ _ _); refine u_orV ?_)
  | ((with_reducible show vNotV _ _ _); refine u_notV ?_)
  | ((with_reducible show kNotV _ _ _); refine k_notV ?_)
  | ((with_reducible show vIfE _ _ _ _ _); refine u_ifE ?_)
  | ((with_reducible show kIfE _ _ _ _ _); (first | refine k_ifET ?_ | refine k_ifEF ?_))
  | ((with_reducible show vLst _ _ _); refine u_lst ?_)
  | ((with_reducible show kLst _ _ _); refine k_lst rfl (by simp only [List.length_cons, List.length_nil]; decide) ?_)
  | ((with_reducible show vTup _ _ _); refine u_tup ?_)
  | ((with_reducible show kTup _ _ _); refine k_tup rfl (by simp only [List.length_cons, List.length_nil]; decide) ?_)
  | ((with_reducible show vNewD _ _); refine u_newD ?_)
  | ((with_reducible show vSl _ _ _ _ _); refine u_sl ?_)
  | ((with_reducible show kSl0 _ _ _ _ _); refine k_sl0 ?_)
  | ((with_reducible show kSl1 _ _ _ _ _); refine k_sl1 ?_)
  | ((with_reducible show kSl2 _ _ _ _ _); refine k_sl2 rfl ?_)
  | ((with_reducible show vNoPart _ _); refine u_noPart ?_)
  | ((with_reducible show vPart _ _ _); refine u_part ?_)
  | ((with_reducible show kPart _ _ _); refine k_part ?_)
  | ((with_reducible show vApp _ _ _ _); refine u_app rfl ?_)
  | ((with_reducible show vPopAt _ _ _ _); refine u_popAt rfl ?_)
  | ((with_reducible show vExt _ _ _ _); refine u_ext rfl ?_)
  | ((with_reducible show vM1 _ _ _ _ _); refine u_m1 ?_)
  | ((with_reducible show kM1a _ _ _ _ _); refine k_m1a rfl ?_)
  | ((with_reducible show kM1b _ _ _ _ _); refine k_m1b rfl rfl ?_)
  | ((with_reducible show vGet2 _ _ _ _ _); refine u_get2 ?_)
  | ((with_reducible show kGet1 _ _ _ _ _); refine k_get1 rfl ?_)
  | ((with_reducible show kGet2 _ _ _ _ _); refine k_get2 ?_)
  | ((with_reducible show vSetL _ _ _ _ _); refine u_setL ?_)
  | ((with_reducible show kSetL1 _ _ _ _ _); refine k_setL1 rfl ?_)
  | ((with_reducible show kSetL2 _ _ _ _ _); (first | refine k_setL2j 0 rfl rfl (by simp) rfl ?_ | refine k_setL2j 1 rfl rfl (by simp) rfl ?_ | refine k_setL2j 2 rfl rfl (by simp) rfl ?_))
  | ((with_reducible show vPutD _ _ _ _ _); refine u_putD ?_)
  | ((with_reducible show kPutD1 _ _ _ _ _); refine k_putD1 rfl ?_)
  | ((with_reducible show vAugL _ _ _ _ _ _); refine u_augL rfl ?_)
  | ((with_reducible show kAugL1 _ _ _ _ _ _); (first | refine k_augL1j 0 rfl rfl rfl ?_ | refine k_augL1j 1 rfl rfl rfl ?_ | refine k_augL1j 2 rfl rfl rfl ?_))
  | ((with_reducible show kAugL2 _ _ _ _ _ _ _); refine k_augL2j rfl (by simp) ?_)
  | ((with_reducible show vAug _ _ _ _ _); refine u_aug rfl ?_)
  | ((with_reducible show kAug _ _ _ _ _ _); (first | refine k_augAdd rfl ?_ | refine k_augSub rfl ?_))
  | ((with_reducible show vCall _ _ _ _); refine u_call ?_)
  | ((with_reducible show gN _ _ _ _); (first | refine u_gN rfl rfl ?_ | refine u_gN rfl (by assumption) ?_))
  | ((with_reducible show gT _ _ _ _); refine u_gT rfl ?_)
  | ((with_reducible show gL _ _ _ _); refine u_gL rfl rfl ?_)
  | ((with_reducible show gTs _ _ _ _); (first | refine u_gTs0 ?_ | refine u_gTs ?_))
  | ((with_reducible show vItL _ _ _); refine u_itL ?_)
  | ((with_reducible show kItL _ _ _); refine k_itL rfl rfl ?_)
  | ((with_reducible show vItT _ _ _); refine u_itT ?_)
  | ((with_reducible show kItT _ _ _); refine k_itT rfl rfl ?_)
  | ((with_reducible show vItR1 _ _ _); refine u_itR1 ?_)
  | ((with_reducible show vItR2 _ _ _); refine u_itR2 ?_)
  | ((with_reducible show vFor _ _ _ _ _); refine u_for ?_)
  | ((with_reducible show vLc _ _ _ _ _ _ _); refine u_lc ?_)
  | ((with_reducible show vLcK _ _ _ _ _ _ _); refine u_lcK rfl ?_)
  | ((with_reducible show vYes _ _); refine u_yes ?_)
  | ((with_reducible show kLcT _ _ _ _ _ _); refine k_lcTT ?_)
  | ((with_reducible show addP _ _); refine p_addI ?_)
  | ((with_reducible show subP _ _); refine p_subI ?_)
  | ((with_reducible show mulP _ _); (first | refine p_mulI (.inl (.inl (by omega))) ?_ | refine p_mulI (.inl (.inr (by omega))) ?_))
  | ((with_reducible show modP _ _); refine p_modI (by omega) ?_)
  | ((with_reducible show divP _ _); refine p_divI (.inl (by constructor <;> omega)) ?_)
  | ((with_reducible show negP _ _); refine p_negI ?_)
  | ((with_reducible show ltP _ _); refine p_ltI ?_)
  | ((with_reducible show leP _ _); refine p_leI ?_)
  | ((with_reducible show gtP _ _); refine p_gtI ?_)
  | ((with_reducible show geP _ _); refine p_geI ?_)
  | ((with_reducible show eqP _ _); (first | refine p_eqI ?_ | refine p_eqS ?_ | refine p_eqB ?_ | refine p_eqN ?_))
  | ((with_reducible show neP _ _); (first | refine p_neI ?_ | refine p_neS ?_ | refine p_neB ?_))
  | ((with_reducible show isNP _ _); (first | refine p_isNn ?_ | refine p_isNi ?_ | refine p_isNs ?_ | refine p_isNb ?_ | refine p_isNl ?_ | refine p_isNt ?_ | refine p_isNd ?_))
  | ((with_reducible show notNP _ _); (first | refine p_notNn ?_ | refine p_notNi ?_ | refine p_notNs ?_ | refine p_notNb ?_ | refine p_notNl ?_ | refine p_notNt ?_ | refine p_notNd ?_))
  | ((with_reducible show isiP _ _); refine p_isi rfl rfl ?_)
  | ((with_reducible show isiTP _ _); refine p_isiT rfl rfl ?_)
  | ((with_reducible show reprP _ _); (first | refine p_reprB ?_ | refine p_reprN ?_))
  | ((with_reducible show lenP _ _); (first | refine p_lenL ?_ | refine p_lenF ?_ | refine p_lenT ?_ | refine p_lenD ?_))
  | ((with_reducible show absP _ _); refine p_absI ?_)
  | ((with_reducible show intP _ _); refine p_intI ?_)
  | ((with_reducible show listP _ _); (first | refine p_listL ?_ | refine p_listF ?_ | refine p_listD ?_))
  | ((with_reducible show ixP _ _); (first | refine p_ixLj 0 rfl rfl ?_ | refine p_ixLj 1 rfl rfl ?_ | refine p_ixLj 2 rfl rfl ?_ | refine p_ixLj 3 rfl rfl ?_ | refine p_ixTj 0 rfl rfl ?_ | refine p_ixTj 1 rfl rfl ?_ | refine p_ixTj 2 rfl rfl ?_ | refine p_ixTj 3 rfl rfl ?_))
  | ((with_reducible show inP _ _ _); (first | refine p_inS0 ?_ | refine p_inS1 ?_ | refine p_inI0 ?_ | refine p_inI1 ?_ | refine p_inD0 rfl ?_ | refine p_inD1 rfl ?_))
  | ((with_reducible show slP _ _ _ _); (first | refine p_slL ?_ | refine p_slF ?_))
  | ((with_reducible show sumP _ _); refine p_sum ?_)
  | ((with_reducible show maxP _ _); refine p_max2 ?_)
  | ((with_reducible show minP _ _); refine p_min2 ?_)
  | ((with_reducible show allP _ _); refine p_all ?_)
  | ((with_reducible show anyP _ _); refine p_any ?_))
local macro_rules | `(tactic| walk_at "ss") => `(tactic| repeat walk_at "s")
local macro_rules | `(tactic| walk_at "back") => `(tactic| refine k_back ?_ (by dsimp only [takeBack, backS, List.set, List.getElem?_cons_zero, List.getElem?_cons_succ]))
local macro_rules | `(tactic| walk_at "s") => `(tactic| first
  | ((with_reducible show vCallX _ _ _ _ _); refine u_callX ?_)
  | ((with_reducible show vRaise _ _ _ _ _ _); refine u_raise ?_)
  | ((with_reducible show kRaise _ _ _ _ _); refine k_raise rfl rfl (by simp) ?_)
  | ((with_reducible show vNewKs _ _); refine u_newKs ?_))
/-! K26D: hands_time. -/
theorem minIx_spec : ∀ {l : List Int}, l ≠ [] → ∃ m, l[minIx l]? = some m ∧ (∀ y ∈ l, m ≤ y) ∧ ∀ i, i < minIx l → l[i]? ≠ some m
  | [], h => absurd rfl h
  | [x], _ => ⟨x, rfl, (fun y hy => by rw [List.mem_singleton.mp hy]; exact Int.le_refl _), fun i hi => absurd hi (Nat.not_lt_zero _)⟩
  | x :: y :: r, _ => by
    have key : ∀ (l : List Int) (a : Int), l.foldl min a ≤ a ∧ (∀ z ∈ l, l.foldl min a ≤ z) ∧ (l.foldl min a = a ∨ l.foldl min a ∈ l) := by
      intro l
      induction l with
      | nil => intro a; exact ⟨Int.le_refl _, (fun x hx => by cases hx), .inl rfl⟩
      | cons b l ih =>
        intro a
        obtain ⟨h1, h2, h3⟩ := ih (min a b)
        refine ⟨Int.le_trans h1 (Int.min_le_left a b), fun z hz => ?_, ?_⟩
        · rcases List.mem_cons.mp hz with rfl | hz
          · exact Int.le_trans h1 (Int.min_le_right a z)
          · exact h2 z hz
        · show (l.foldl min (min a b) = a ∨ l.foldl min (min a b) ∈ b :: l)
          rcases h3 with h3 | h3
          · rw [h3]
            by_cases hab : a ≤ b
            · rw [Int.min_eq_left hab]; exact .inl rfl
            · rw [Int.min_eq_right (by omega)]; exact .inr (List.mem_cons_self ..)
          · exact .inr (List.mem_cons_of_mem _ h3)
    obtain ⟨k1, k2, k3⟩ := key (y :: r) y
    obtain ⟨m, h1, h2, h3⟩ := minIx_spec (l := y :: r) (by simp)
    have em : m = (y :: r).foldl min y := by
      have a1 := k2 m (List.mem_of_getElem? h1)
      have a2 : m ≤ (y :: r).foldl min y := by
        rcases k3 with k3 | k3
        · rw [k3]; exact h2 y (List.mem_cons_self ..)
        · exact h2 _ k3
      omega
    by_cases hx : x ≤ (y :: r).foldl min y
    · have e : minIx (x :: y :: r) = 0 := by unfold minIx; exact if_pos hx
      rw [e]
      refine ⟨x, rfl, fun z hz => ?_, fun i hi => absurd hi (Nat.not_lt_zero _)⟩
      rcases List.mem_cons.mp hz with rfl | hz
      · exact Int.le_refl _
      · exact Int.le_trans hx (k2 z hz)
    · have e : minIx (x :: y :: r) = minIx (y :: r) + 1 := by
        conv => lhs; unfold minIx
        exact if_neg hx
      rw [e]
      refine ⟨m, h1, fun z hz => ?_, fun i hi => ?_⟩
      · rcases List.mem_cons.mp hz with rfl | hz
        · omega
        · exact h2 z hz
      · cases i with
        | zero => intro z; have : x = m := by simpa using z
                  omega
        | succ i => exact h3 i (by omega)
theorem minIx_lt {l : List Int} (h : l ≠ []) : minIx l < l.length := by
  obtain ⟨m, h1, _⟩ := minIx_spec h
  exact (List.getElem?_eq_some_iff.mp h1).1
/-- the place at which .index finds the least -/
theorem minIx_eq {l : List Int} {m : Int} {j : Nat} (hm : m ∈ l) (hl : ∀ y ∈ l, m ≤ y) (hj : l[j]? = some m) (hf : ∀ i, i < j → l[i]? ≠ some m) : minIx l = j := by
  obtain ⟨m', h1, h2, h3⟩ := minIx_spec (l := l) (fun z => by rw [z] at hm; cases hm)
  have e : m' = m := by
    have := h2 m hm
    have := hl m' (List.mem_of_getElem? h1)
    omega
  subst e
  by_cases h : minIx l < j
  · exact absurd h1 (hf _ h)
  · by_cases h' : j < minIx l
    · exact absurd hj (h3 _ h')
    · omega
theorem hStep_len (free : List Int) (l : Int) : (hStep free l).length = free.length := by unfold hStep; rw [List.length_set]
theorem foldl_len : ∀ (ns free : List Int), (ns.foldl hStep free).length = free.length
  | [], _ => rfl
  | x :: ns, free => by rw [List.foldl_cons, foldl_len ns, hStep_len]
theorem maxD0_uniq {c m : Int} {ns : List Int} (hm : m ∈ ns) (h : ∀ y ∈ ns, y ≤ m) : maxD0 c ns = m := by
  obtain ⟨h1, h2⟩ := maxD0_le (c := c) (ns := ns)
  have := h1 m hm
  have := h _ (h2 fun z => by rw [z] at hm; cases hm)
  omega
theorem rd_hands_time : Reads S_hands_time (fun EX => v_hands_time EX) 3 := fun ρs R RX h => by
  obtain ⟨ns, k, rfl, hz, k0, k1, q, qx, qh⟩ := h
  unfold v_hands_time
  show vSeq _ _ _ [.sh (iL ns), .sh (.int k), .un, .un, .un]
  walk_at "ss"
  refine k_callX rfl ⟨ns, rfl, hz, fun ok => ?_, fun nok => qx nok⟩
  walk_at "back"
  walk_at "ss"
  refine k_callX rfl ⟨"hands", k, rfl, .inr rfl, fun hk => ?_, fun hk => qh ok hk⟩
  walk_at "back"
  walk_at "ss"
  refine k_itR1 rfl ⟨by omega, by omega⟩ ?_
  refine k_lcM (List.range k.toNat) (fun i => D.int (0 + (i : Int))) (fun _ => true) (fun _ => D.int 0) [.sh (iL ns), .sh (.int k), .un, .un, .un] rfl (small16 (by rw [List.length_range]; omega)) (free1 rfl rfl) rfl ?_ ?_
  · intro x acc I hx _ a1 a2
    walk_at "ss"
    exact k_lcE rfl (by assumption) (a1 rfl)
  · rw [filt_true]
    have e0 : ((List.range k.toNat).map fun _ => D.int 0) = (List.replicate k.toNat (0 : Int)).map D.int := by
      rw [List.map_replicate]
      refine List.ext_getElem (by simp) fun i h1 h2 => by simp
    rw [e0]
    walk_at "ss"
    refine ⟨fun hb => ?_, fun hb => ?_⟩
    · have hb : k = 0 := by simpa using hb
      walk_at "ss"
      refine u_maxD rfl rfl ?_
      have e : hT ns k = maxD0 0 ns := by unfold hT; rw [if_pos hb]
      rw [← e]
      exact q ok hk
    · have hb : ¬ k = 0 := by simpa using hb
      walk_at "ss"
      refine k_for (fun j ρ => ∃ s3 s4, ρ = [.sh (iL ns), .sh (.int k), .ow false (.lst (((ns.take j).foldl hStep (List.replicate k.toNat 0)).map D.int)), s3, s4] ∧ s3.free = true ∧ s4.free = true) ⟨.un, .un, rfl, rfl, rfl⟩ ?_ ?_
      · rintro j d ρ' hj ⟨s3, s4, rfl, f3, f4⟩
        rw [List.getElem?_map] at hj
        obtain ⟨x, hx, ed⟩ := Option.map_eq_some_iff.mp hj
        subst ed
        have et : (ns.take (j + 1)).foldl hStep (List.replicate k.toNat 0) = hStep ((ns.take j).foldl hStep (List.replicate k.toNat 0)) x := by
          rw [List.take_add_one, hx, List.foldl_append]; rfl
        have hl := foldl_len (ns.take j) (List.replicate k.toNat 0)
        rw [List.length_replicate] at hl
        rw [et]
        generalize (ns.take j).foldl hStep (List.replicate k.toNat 0) = free at hl
        have hne : free ≠ [] := fun z => by rw [z] at hl; simp at hl; omega
        walk_at "ss"
        refine u_idxI rfl rfl rfl ?_
        walk_at "ss"
        refine p_minL hne fun m hm hmin => ?_
        walk_at "ss"
        refine k_idxI rfl rfl rfl hm fun jx h1 h2 => ?_
        have ej := minIx_eq hm hmin h1 h2
        walk_at "ss"
        have hj' : (free.map D.int)[jx]? = some (D.int m) := by rw [List.getElem?_map, h1]; rfl
        refine k_augL1j jx rfl rfl hj' ?_
        refine u_var rfl ?_
        have eh : hStep free x = free.set jx (m + x) := by unfold hStep; rw [ej, List.getD_eq_getElem?_getD, h1]; rfl
        refine k_augL2j rfl (by simpa using (List.getElem?_eq_some_iff.mp h1).1) ?_
        exact ⟨_, _, by rw [eh, List.map_set], rfl, rfl⟩
      · rintro ρ' ⟨s3, s4, rfl, f3, f4⟩
        rw [show (ns.map D.int).length = ns.length by simp, List.take_length]
        have hl := foldl_len ns (List.replicate k.toNat 0)
        rw [List.length_replicate] at hl
        walk_at "ss"
        refine p_maxL (fun z => by rw [z] at hl; simp at hl; omega) fun m hm hmax => ?_
        have e : hT ns k = m := by unfold hT; rw [if_neg hb]; exact maxD0_uniq hm hmax
        walk_at "ss"
        rw [← e]
        exact q ok hk
end WL

set_option Elab.async false
set_option linter.all false
set_option maxRecDepth 100000
set_option maxHeartbeats 4000000
namespace WL
open PySem PySem.Spec PyProof.Rows L2
variable [TBs]
local macro_rules | `(tactic| walk_at "s") => `(tactic| first
  | ((with_reducible show vSeq _ _ _ _); refine u_seq ?_)
  | ((with_reducible show vSet _ _ _ _); refine u_set ?_)
  | ((with_reducible show kSet _ _ _ _); (first | refine k_set rfl rfl ?_ | refine k_set rfl (by assumption) ?_))
  | ((with_reducible show vRet _ _ _); refine u_ret ?_)
  | ((with_reducible show vIf _ _ _ _ _); refine u_if ?_)
  | ((with_reducible show vExpr _ _ _); refine u_expr ?_)
  | ((with_reducible show kExpr _ _ _); refine k_expr ?_)
  | ((with_reducible show vRetN _ _); refine u_retN ?_)
  | ((with_reducible show vAsg _ _ _ _); refine u_asg ?_)
  | ((with_reducible show kAsg _ _ _ _); refine k_asg rfl ?_)
  | ((with_reducible show vNext _ _); refine u_next ?_)
  | ((with_reducible show vBreak _ _); refine u_break ?_)
  | ((with_reducible show vCont _ _); refine u_cont ?_)
  | ((with_reducible show kIf _ _ _ _ _); (first | refine k_ifT ?_ | refine k_ifF ?_))
  | ((with_reducible show vVal _ _ _); refine u_val ?_)
  | ((with_reducible show kVal _ _ _); refine k_val ?_)
  | ((with_reducible show vPk _ _ _); refine u_pk rfl rfl ?_)
  | ((with_reducible show vC _ _ _); refine u_c ?_)
  | ((with_reducible show vVar _ _ _); (first | refine u_var rfl ?_ | refine u_varL rfl ?_ | refine u_varD rfl ?_ | refine u_varE rfl ?_))
  | ((with_reducible show vMv _ _ _); (first | refine u_mv rfl ?_ | refine u_mvO rfl ?_))
  | ((with_reducible show vBin _ _ _ _ _); refine u_bin ?_)
  | ((with_reducible show kBin1 _ _ _ _ _); refine k_bin1 ?_)
  | ((with_reducible show kBin2 _ _ _ _ _); refine k_bin2 rfl rfl ?_)
  | ((with_reducible show vUn _ _ _ _); refine u_un ?_)
  | ((with_reducible show kUn _ _ _ _); refine k_un rfl ?_)
  | ((with_reducible show vCons _ _ _ _); refine u_cons ?_)
  | ((with_reducible show kCons1 _ _ _ _); refine k_cons1 ?_)
  | ((with_reducible show vNil _ _); refine u_nil ?_)
  | ((with_reducible show kCons2 _ _ _ _); refine k_cons2 ?_)
  | ((with_reducible show vPrim _ _ _ _); refine u_prim ?_)
  | ((with_reducible show kPrim _ _ _ _); (first | refine k_prim1 rfl ?_ | refine k_prim2 rfl rfl ?_))
  | ((with_reducible show kRet _ _ _); (first | refine k_retV ?_ | refine k_retL ?_ | refine k_retT ?_ | refine k_retD ?_))
  | ((with_reducible show vSh _ _ _); refine u_sh ?_)
  | ((with_reducible show kSh _ _ _); (first | refine k_sh ?_ | refine k_shL ?_ | refine k_shD ?_))
  | ((with_reducible show vT _ _ _); refine u_t ?_)
  | ((with_reducible show kT _ _ _); refine k_t ?_)
  | ((with_reducible show vTru _ _ _); refine u_tru ?_)
  | ((with_reducible show kTru _ _ _); refine k_tru rfl rfl ?_)
  | ((with_reducible show vAnd _ _ _ _); refine u_and ?_)
  | ((with_reducible show kAnd _ _ _ _); (first | refine k_andT ?_ | refine k_andF ?_))
  | ((with_reducible show vOr _ _ _ _); refine u_or ?_)
  | ((with_reducible show kOr _ _ _ _); (first | refine k_orT ?_ | refine k_orF ?_))
  | ((with_reducible show vNot _ _ _); refine u_not ?_)
  | ((with_reducible show kNot _ _ _); refine k_not ?_)
  | ((with_reducible show vAndV _ _ _ _); refine u_andV ?_)
  | ((with_reducible show kAndV _ _ _ _); (first | refine k_andVT ?_ | refine k_andVF ?_))
  | ((with_reducible show kOrV _ _ _ _); (first | refine k_orVT ?_ | refine k_orVF ?_))
  | ((with_reducible show vOrV _ _ _ _); refine u_orV ?_)
  | ((with_reducible show vNotV _ _ _); refine u_notV ?_)
  | ((with_reducible show kNotV _ _ _); refine k_notV ?_)
  | ((with_reducible show vIfE _ _ _ _ _); refine u_ifE ?_)
  | ((with_reducible show kIfE _ _ _ _ _); (first | refine k_ifET ?_ | refine k_ifEF ?_))
  | ((with_reducible show vLst _ _ _); refine u_lst ?_)
  | ((with_reducible show kLst _ _ _); refine k_lst rfl (by simp only [List.length_cons, List.length_nil]; decide) ?_)
  | ((with_reducible show vTup _ _ _); refine u_tup ?_)
  | ((with_reducible show kTup _ _ _); refine k_tup rfl (by simp only [List.length_cons, List.length_nil]; decide) ?_)
  | ((with_reducible show vNewD _ _); refine u_newD ?_)
  | ((with_reducible show vSl _ _ _ _ _); refine u_sl ?_)
  | ((with_reducible show kSl0 _ _ _ _ _); refine k_sl0 ?_)
  | ((with_reducible show kSl1 _ _ _ _ _); refine k_sl1 ?_)
  | ((with_reducible show kSl2 _ _ _ _ _); refine k_sl2 rfl ?_)
  | ((with_reducible show vNoPart _ _); refine u_noPart ?_)
  | ((with_reducible show vPart _ _ _); refine u_part ?_)
  | ((with_reducible show kPart _ _ _); refine k_part ?_)
  | ((with_reducible show vApp _ _ _ _); refine u_app rfl ?_)
  | ((with_reducible show vPopAt _ _ _ _); refine u_popAt rfl ?_)
  | ((with_reducible show vExt _ _ _ _); refine u_ext rfl ?_)
  | ((with_reducible show vM1 _ _ _ _ _); refine u_m1 ?_)
  | ((with_reducible show kM1a _ _ _ _ _); refine k_m1a rfl ?_)
  | ((with_reducible show kM1b _ _ _ _ _); refine k_m1b rfl rfl ?_)
  | ((with_reducible show vGet2 _ _ _ _ _); refine u_get2 ?_)
  | ((with_reducible show kGet1 _ _ _ _ _); refine k_get1 rfl ?_)
  | ((with_reducible show kGet2 _ _ _ _ _); refine k_get2 ?_)
  | ((with_reducible show vSetL _ _ _ _ _); refine u_setL ?_)
  | ((with_reducible show kSetL1 _ _ _ _ _); refine k_setL1 rfl ?_)
  | ((with_reducible show kSetL2 _ _ _ _ _); (first | refine k_setL2j 0 rfl rfl (by simp) rfl ?_ | refine k_setL2j 1 rfl rfl (by simp) rfl ?_ | refine k_setL2j 2 rfl rfl (by simp) rfl ?_))
  | ((with_reducible show vPutD _ _ _ _ _); refine u_putD ?_)
  | ((with_reducible show kPutD1 _ _ _ _ _); refine k_putD1 rfl ?_)
  | ((with_reducible show vAugL _ _ _ _ _ _); refine u_augL rfl ?_)
  | ((with_reducible show kAugL1 _ _ _ _ _ _); (first | refine k_augL1j 0 rfl rfl rfl ?_ | refine k_augL1j 1 rfl rfl rfl ?_ | refine k_augL1j 2 rfl rfl rfl ?_))
  | ((with_reducible show kAugL2 _ _ _ _ _ _ _); refine k_augL2j rfl (by simp) ?_)
  | ((with_reducible show vAug _ _ _ _ _); refine u_aug rfl ?_)
  | ((with_reducible show kAug _ _ _ _ _ _); (first | refine k_augAdd rfl ?_ | refine k_augSub rfl ?_))
  | ((with_reducible show vCall _ _ _ _); refine u_call ?_)
  | ((with_reducible show gN _ _ _ _); (first | refine u_gN rfl rfl ?_ | refine u_gN rfl (by assumption) ?_))
  | ((with_reducible show gT _ _ _ _); refine u_gT rfl ?_)
  | ((with_reducible show gL _ _ _ _); refine u_gL rfl rfl ?_)
  | ((with_reducible show gTs _ _ _ _); (first | refine u_gTs0 ?_ | refine u_gTs ?_))
  | ((with_reducible show vItL _ _ _); refine u_itL ?_)
  | ((with_reducible show kItL _ _ _); refine k_itL rfl rfl ?_)
  | ((with_reducible show vItT _ _ _); refine u_itT ?_)
  | ((with_reducible show kItT _ _ _); refine k_itT rfl rfl ?_)
  | ((with_reducible show vItR1 _ _ _); refine u_itR1 ?_)
  | ((with_reducible show vItR2 _ _ _); refine u_itR2 ?_)
  | ((with_reducible show vFor _ _ _ _ _); refine u_for ?_)
  | ((with_reducible show vLc _ _ _ _ _ _ _); refine u_lc ?_)
  | ((with_reducible show vLcK _ _ _ _ _ _ _); refine u_lcK rfl ?_)
  | ((with_reducible show vYes _ _); refine u_yes ?_)
  | ((with_reducible show kLcT _ _ _ _ _ _); refine k_lcTT ?_)
  | ((with_reducible show addP _ _); refine p_addI ?_)
  | ((with_reducible show subP _ _); refine p_subI ?_)
  | ((with_reducible show mulP _ _); (first | refine p_mulI (.inl (.inl (by omega))) ?_ | refine p_mulI (.inl (.inr (by omega))) ?_))
  | ((with_reducible show modP _ _); refine p_modI (by omega) ?_)
  | ((with_reducible show divP _ _); refine p_divI (.inl (by constructor <;> omega)) ?_)
  | ((with_reducible show negP _ _); refine p_negI ?_)
  | ((with_reducible show ltP _ _); refine p_ltI ?_)
  | ((with_reducible show leP _ _); refine p_leI ?_)
  | ((with_reducible show gtP _ _); refine p_gtI ?_)
  | ((with_reducible show geP _ _); refine p_geI ?_)
  | ((with_reducible show eqP _ _); (first | refine p_eqI ?_ | refine p_eqS ?_ | refine p_eqB ?_ | refine p_eqN ?_))
  | ((with_reducible show neP _ _); (first | refine p_neI ?_ | refine p_neS ?_ | refine p_neB ?_))
  | ((with_reducible show isNP _ _); (first | refine p_isNn ?_ | refine p_isNi ?_ | refine p_isNs ?_ | refine p_isNb ?_ | refine p_isNl ?_ | refine p_isNt ?_ | refine p_isNd ?_))
  | ((with_reducible show notNP _ _); (first | refine p_notNn ?_ | refine p_notNi ?_ | refine p_notNs ?_ | refine p_notNb ?_ | refine p_notNl ?_ | refine p_notNt ?_ | refine p_notNd ?_))
  | ((with_reducible show isiP _ _); refine p_isi rfl rfl ?_)
  | ((with_reducible show isiTP _ _); refine p_isiT rfl rfl ?_)
  | ((with_reducible show reprP _ _); (first | refine p_reprB ?_ | refine p_reprN ?_))
  | ((with_reducible show lenP _ _); (first | refine p_lenL ?_ | refine p_lenF ?_ | refine p_lenT ?_ | refine p_lenD ?_))
  | ((with_reducible show absP _ _); refine p_absI ?_)
  | ((with_reducible show intP _ _); refine p_intI ?_)
  | ((with_reducible show listP _ _); (first | refine p_listL ?_ | refine p_listF ?_ | refine p_listD ?_))
  | ((with_reducible show ixP _ _); (first | refine p_ixLj 0 rfl rfl ?_ | refine p_ixLj 1 rfl rfl ?_ | refine p_ixLj 2 rfl rfl ?_ | refine p_ixLj 3 rfl rfl ?_ | refine p_ixTj 0 rfl rfl ?_ | refine p_ixTj 1 rfl rfl ?_ | refine p_ixTj 2 rfl rfl ?_ | refine p_ixTj 3 rfl rfl ?_))
  | ((with_reducible show inP _ _ _); (first | refine p_inS0 ?_ | refine p_inS1 ?_ | refine p_inI0 ?_ | refine p_inI1 ?_ | refine p_inD0 rfl ?_ | refine p_inD1 rfl ?_))
  | ((with_reducible show slP _ _ _ _); (first | refine p_slL ?_ | refine p_slF ?_))
  | ((with_reducible show sumP _ _); refine p_sum ?_)
  | ((with_reducible show maxP _ _); refine p_max2 ?_)
  | ((with_reducible show minP _ _); refine p_min2 ?_)
  | ((with_reducible show allP _ _); refine p_all ?_)
  | ((with_reducible show anyP _ _); refine p_any ?_))
local macro_rules | `(tactic| walk_at "ss") => `(tactic| repeat walk_at "s")
local macro_rules | `(tactic| walk_at "back") => `(tactic| refine k_back ?_ (by dsimp only [takeBack, backS, List.set, List.getElem?_cons_zero, List.getElem?_cons_succ]))
local macro_rules | `(tactic| walk_at "s") => `(tactic| first
  | ((with_reducible show vCallX _ _ _ _ _); refine u_callX ?_)
  | ((with_reducible show vRaise _ _ _ _ _ _); refine u_raise ?_)
  | ((with_reducible show kRaise _ _ _ _ _); refine k_raise rfl rfl (by simp) ?_)
  | ((with_reducible show vNewKs _ _); refine u_newKs ?_))
/-! K26E: least turns, groups. -/
theorem sum_take_one (rest : List Int) (m : Nat) (x : Int) (h : (rest.drop 1)[m]? = some x) : ((rest.drop 1).take (m + 1)).sum = ((rest.drop 1).take m).sum + x := by
  rw [List.take_add_one, h, List.sum_append]; simp
theorem rd_k26_least : Reads S_k26_least (fun _ => v_k26_least) 3 := fun ρs R _ h => by
  obtain ⟨ns, w, t, rfl, hz, w0, w1, ⟨t1, o1, o2⟩, q⟩ := h
  unfold v_k26_least
  show vSeq _ _ _ [.sh (iL ns), .sh (.int w), .sh (.int t), .un, .un, .un]
  walk_at "ss"
  have e1 : decide (t < 1) = false := decide_eq_false (by omega)
  rw [e1]
  walk_at "ss"
  refine k_lcM ns D.int (fun _ => true) (fun l => D.int (if l - t > 0 then l - t else 0)) [.sh (iL ns), .sh (.int w), .sh (.int t), .un, .un, .un] rfl (small16 (by omega)) (free1 rfl rfl) rfl ?_ ?_
  · intro x acc I hx _ a1 a2
    walk_at "ss"
    exact k_lcE rfl (by assumption) (a1 rfl)
  · rw [filt_true, show (ns.map fun l => D.int (if l - t > 0 then l - t else 0)) = (ns.map fun l => if l - t > 0 then l - t else 0).map D.int by rw [List.map_map]; rfl]
    walk_at "ss"
    refine k_lcM ns D.int (fun _ => true) (fun l => D.int (if l - t + 1 > 0 then l - t + 1 else 0)) [.sh (iL ns), .sh (.int w), .sh (.int t), .sh (.int (over ns t)), .un, .un] rfl (small16 (by omega)) (free1 rfl rfl) rfl ?_ ?_
    · intro x acc I hx _ a1 a2
      walk_at "ss"
      exact k_lcE rfl (by assumption) (a1 rfl)
    · have e2 : (ns.map fun l => D.int (if l - t + 1 > 0 then l - t + 1 else 0)) = (ns.map fun l => if l - (t - 1) > 0 then l - (t - 1) else 0).map D.int := by
        rw [List.map_map]
        refine List.map_congr_left fun x _ => ?_
        show D.int _ = D.int _
        rw [show x - t + 1 = x - (t - 1) by omega]
      rw [filt_true, e2]
      walk_at "ss"
      rw [decide_eq_true o1]
      walk_at "ss"
      rcases o2 with o2 | o2
      · rw [decide_eq_true o2]
        walk_at "ss"
        exact q
      · by_cases ht : t = 1
        · rw [decide_eq_true ht]
          walk_at "ss"
          exact q
        · rw [decide_eq_false ht]
          walk_at "ss"
          rw [decide_eq_true (show w * (t - 1) < (ns.map fun l => if l - (t - 1) > 0 then l - (t - 1) else 0).sum from o2)]
          exact q
theorem take_sum_cut (rest : List Int) (m : Nat) : cutL (rest.map D.int) (some 1) (some ((m : Int) + 1)) = ((rest.drop 1).take m).map D.int := by
  unfold cutL
  have e1 : HT.sIx (rest.map D.int).length 0 (some 1) = min 1 rest.length := by
    rw [show (1 : Int) = ((1 : Nat) : Int) from rfl, HT.sIx_nat, List.length_map]
  have e2 : HT.sIx (rest.map D.int).length (rest.map D.int).length (some ((m : Int) + 1)) = min (m + 1) rest.length := by
    rw [show (m : Int) + 1 = ((m + 1 : Nat) : Int) by omega, HT.sIx_nat, List.length_map]
  rw [e1, e2, ← List.map_drop, ← List.map_take]
  congr 1
  by_cases h : 1 ≤ rest.length
  · rw [Nat.min_eq_left h]
    by_cases h2 : m + 1 ≤ rest.length
    · rw [Nat.min_eq_left h2]; rfl
    · rw [Nat.min_eq_right (by omega), List.take_of_length_le (by simp), List.take_of_length_le (by simp; omega)]
  · have : rest = [] := List.length_eq_zero_iff.mp (by omega)
    subst this; simp
theorem cut_fromI (rest : List Int) (m : Nat) : cutL (rest.map D.int) (some (m : Int)) none = (rest.drop m).map D.int := by
  unfold cutL
  rw [HT.sIx_nat, show HT.sIx (rest.map D.int).length (rest.map D.int).length none = (rest.map D.int).length from rfl, List.length_map, ← List.map_drop, ← List.map_take]
  congr 1
  by_cases h : m ≤ rest.length
  · rw [Nat.min_eq_left h, List.take_of_length_le (by simp)]
  · rw [Nat.min_eq_right (by omega), List.drop_of_length_le (Nat.le_refl _), List.drop_of_length_le (by omega)]; simp
theorem rd_k26_groups : Reads S_k26_groups (fun _ => v_k26_groups) 3 := fun ρs R _ h => by
  obtain ⟨ns, w, rfl, hz, q⟩ := h
  unfold v_k26_groups
  show vSeq _ _ _ [.sh (iL ns), .sh (.int w), .un, .un, .un]
  walk_at "ss"
  refine u_while1 (fun m ρ => ∃ (t : Int) (rest : List Int) (s4 : Slot), ρ = [.sh (iL ns), .sh (.int w), .sh (.int t), .ow false (.lst (rest.map D.int)), s4] ∧ s4.free = true ∧ rest.length ≤ ns.length ∧ t + grT w rest = grT w ns ∧ m = rest.length) ns.length
    ⟨0, ns, .un, rfl, rfl, Nat.le_refl _, by simp, rfl⟩ ?_
  rintro m ρ' ⟨t, rest, s4, rfl, f4, hl, et, em⟩
  walk_at "ss"
  refine k_while (fun hb => ?_) (fun hb => ?_)
  · rw [List.length_map] at hb
    have hlt : 0 < rest.length := by have : (0 : Int) < rest.length := by simpa using hb
                                     omega
    obtain ⟨x, xs, rfl⟩ : ∃ x xs, rest = x :: xs := by
      cases rest with
      | nil => simp at hlt
      | cons x xs => exact ⟨x, xs, rfl⟩
    rw [grT_cons] at et
    walk_at "ss"
    refine u_while1 (fun m ρ => ∃ (i : Nat), ρ = [.sh (iL ns), .sh (.int w), .sh (.int t), .ow false (.lst ((x :: xs).map D.int)), .sh (.int ((i : Int) + 1))] ∧ i ≤ xs.length ∧ gRun (w - (xs.take i).sum) (xs.drop i) = gRun w xs ∧ m = xs.length - i) xs.length
      ⟨0, rfl, Nat.zero_le _, by simp, by simp⟩ ?_
    rintro m2 ρ2 ⟨i, rfl, i2, er, em2⟩
    walk_at "ss"
    by_cases hi : i < xs.length
    · obtain ⟨y, hy, ed2⟩ := drop_at hi
      have hb1 : decide ((i : Int) + 1 < (((x :: xs).map D.int).length : Int)) = true := by rw [List.length_map, List.length_cons]; exact decide_eq_true (by omega)
      rw [hb1]
      walk_at "ss"
      have hcut : cutL ((x :: xs).map D.int) (some 1) (some ((i : Int) + 1 + 1)) = (xs.take (i + 1)).map D.int := take_sum_cut (x :: xs) (i + 1)
      rw [hcut]
      walk_at "ss"
      have hs : (xs.take (i + 1)).sum = (xs.take i).sum + y := sum_take_one (x :: xs) i y hy
      refine k_while (fun hc => ?_) (fun hc => ?_)
      · have hc : (xs.take (i + 1)).sum ≤ w := by simpa using hc
        walk_at "ss"
        rw [ed2, gRun_go (by omega)] at er
        exact ⟨xs.length - (i + 1), by omega, i + 1, by rw [show ((i + 1 : Nat) : Int) = (i : Int) + 1 from rfl], by omega, by rw [hs, ← er]; congr 1; omega, rfl⟩
      · have hc : ¬ (xs.take (i + 1)).sum ≤ w := by simpa using hc
        rw [ed2, gRun_stop (by omega)] at er
        walk_at "ss"
        have hd : cutL ((x :: xs).map D.int) (some ((i : Int) + 1)) none = (xs.drop i).map D.int := cut_fromI (x :: xs) (i + 1)
        rw [hd]
        exact ⟨(xs.drop i).length, by rw [em, List.length_drop, List.length_cons]; omega, t + 1, xs.drop i, _, rfl, rfl, by rw [List.length_drop]; simp at hl; omega, by rw [ed2, er]; omega, rfl⟩
    · have hb1 : decide ((i : Int) + 1 < (((x :: xs).map D.int).length : Int)) = false := by rw [List.length_map, List.length_cons]; exact decide_eq_false (by omega)
      rw [hb1]
      walk_at "ss"
      refine k_while (fun hc => by cases hc) (fun _ => ?_)
      have e : xs.drop i = [] := List.drop_eq_nil_of_le (by omega)
      rw [e] at er
      walk_at "ss"
      have hd : cutL ((x :: xs).map D.int) (some ((i : Int) + 1)) none = (xs.drop i).map D.int := cut_fromI (x :: xs) (i + 1)
      rw [hd]
      exact ⟨(xs.drop i).length, by rw [em, List.length_drop, List.length_cons]; omega, t + 1, xs.drop i, _, rfl, rfl, by rw [List.length_drop]; simp at hl; omega, by rw [e, show ([] : List Int) = gRun w xs from er]; omega, rfl⟩
  · rw [List.length_map] at hb
    have hge : rest = [] := List.length_eq_zero_iff.mp (by have : ¬ ((0 : Int) < rest.length) := by simpa using hb
                                                           omega)
    subst hge
    rw [grT_nil] at et
    walk_at "ss"
    have e : t = grT w ns := by omega
    rw [e]
    exact q
end WL

set_option Elab.async false
set_option linter.all false
set_option maxRecDepth 100000
set_option maxHeartbeats 4000000
namespace WL
open PySem PySem.Spec PyProof.Rows L2
variable [TBs]
local macro_rules | `(tactic| walk_at "s") => `(tactic| first
  | ((with_reducible show vSeq _ _ _ _); refine u_seq ?_)
  | ((with_reducible show vSet _ _ _ _); refine u_set ?_)
  | ((with_reducible show kSet _ _ _ _); (first | refine k_set rfl rfl ?_ | refine k_set rfl (by assumption) ?_))
  | ((with_reducible show vRet _ _ _); refine u_ret ?_)
  | ((with_reducible show vIf _ _ _ _ _); refine u_if ?_)
  | ((with_reducible show vExpr _ _ _); refine u_expr ?_)
  | ((with_reducible show kExpr _ _ _); refine k_expr ?_)
  | ((with_reducible show vRetN _ _); refine u_retN ?_)
  | ((with_reducible show vAsg _ _ _ _); refine u_asg ?_)
  | ((with_reducible show kAsg _ _ _ _); refine k_asg rfl ?_)
  | ((with_reducible show vNext _ _); refine u_next ?_)
  | ((with_reducible show vBreak _ _); refine u_break ?_)
  | ((with_reducible show vCont _ _); refine u_cont ?_)
  | ((with_reducible show kIf _ _ _ _ _); (first | refine k_ifT ?_ | refine k_ifF ?_))
  | ((with_reducible show vVal _ _ _); refine u_val ?_)
  | ((with_reducible show kVal _ _ _); refine k_val ?_)
  | ((with_reducible show vPk _ _ _); refine u_pk rfl rfl ?_)
  | ((with_reducible show vC _ _ _); refine u_c ?_)
  | ((with_reducible show vVar _ _ _); (first | refine u_var rfl ?_ | refine u_varL rfl ?_ | refine u_varD rfl ?_ | refine u_varE rfl ?_))
  | ((with_reducible show vMv _ _ _); (first | refine u_mv rfl ?_ | refine u_mvO rfl ?_))
  | ((with_reducible show vBin _ _ _ _ _); refine u_bin ?_)
  | ((with_reducible show kBin1 _ _ _ _ _); refine k_bin1 ?_)
  | ((with_reducible show kBin2 _ _ _ _ _); refine k_bin2 rfl rfl ?_)
  | ((with_reducible show vUn _ _ _ _); refine u_un ?_)
  | ((with_reducible show kUn _ _ _ _); refine k_un rfl ?_)
  | ((with_reducible show vCons _ _ _ _); refine u_cons ?_)
  | ((with_reducible show kCons1 _ _ _ _); refine k_cons1 ?_)
  | ((with_reducible show vNil _ _); refine u_nil ?_)
  | ((with_reducible show kCons2 _ _ _ _); refine k_cons2 ?_)
  | ((with_reducible show vPrim _ _ _ _); refine u_prim ?_)
  | ((with_reducible show kPrim _ _ _ _); (first | refine k_prim1 rfl ?_ | refine k_prim2 rfl rfl ?_))
  | ((with_reducible show kRet _ _ _); (first | refine k_retV ?_ | refine k_retL ?_ | refine k_retT ?_ | refine k_retD ?_))
  | ((with_reducible show vSh _ _ _); refine u_sh ?_)
  | ((with_reducible show kSh _ _ _); (first | refine k_sh ?_ | refine k_shL ?_ | refine k_shD ?_))
  | ((with_reducible show vT _ _ _); refine u_t ?_)
  | ((with_reducible show kT _ _ _); refine k_t ?_)
  | ((with_reducible show vTru _ _ _); refine u_tru ?_)
  | ((with_reducible show kTru _ _ _); refine k_tru rfl rfl ?_)
  | ((with_reducible show vAnd _ _ _ _); refine u_and ?_)
  | ((with_reducible show kAnd _ _ _ _); (first | refine k_andT ?_ | refine k_andF ?_))
  | ((with_reducible show vOr _ _ _ _); refine u_or ?_)
  | ((with_reducible show kOr _ _ _ _); (first | refine k_orT ?_ | refine k_orF ?_))
  | ((with_reducible show vNot _ _ _); refine u_not ?_)
  | ((with_reducible show kNot _ _ _); refine k_not ?_)
  | ((with_reducible show vAndV _ _ _ _); refine u_andV ?_)
  | ((with_reducible show kAndV _ _ _ _); (first | refine k_andVT ?_ | refine k_andVF ?_))
  | ((with_reducible show kOrV _ _ _ _); (first | refine k_orVT ?_ | refine k_orVF ?_))
  | ((with_reducible show vOrV _ _ _ _); refine u_orV ?_)
  | ((with_reducible show vNotV _ _ _); refine u_notV ?_)
  | ((with_reducible show kNotV _ _ _); refine k_notV ?_)
  | ((with_reducible show vIfE _ _ _ _ _); refine u_ifE ?_)
  | ((with_reducible show kIfE _ _ _ _ _); (first | refine k_ifET ?_ | refine k_ifEF ?_))
  | ((with_reducible show vLst _ _ _); refine u_lst ?_)
  | ((with_reducible show kLst _ _ _); refine k_lst rfl (by simp only [List.length_cons, List.length_nil]; decide) ?_)
  | ((with_reducible show vTup _ _ _); refine u_tup ?_)
  | ((with_reducible show kTup _ _ _); refine k_tup rfl (by simp only [List.length_cons, List.length_nil]; decide) ?_)
  | ((with_reducible show vNewD _ _); refine u_newD ?_)
  | ((with_reducible show vSl _ _ _ _ _); refine u_sl ?_)
  | ((with_reducible show kSl0 _ _ _ _ _); refine k_sl0 ?_)
  | ((with_reducible show kSl1 _ _ _ _ _); refine k_sl1 ?_)
  | ((with_reducible show kSl2 _ _ _ _ _); refine k_sl2 rfl ?_)
  | ((with_reducible show vNoPart _ _); refine u_noPart ?_)
  | ((with_reducible show vPart _ _ _); refine u_part ?_)
  | ((with_reducible show kPart _ _ _); refine k_part ?_)
  | ((with_reducible show vApp _ _ _ _); refine u_app rfl ?_)
  | ((with_reducible show vPopAt _ _ _ _); refine u_popAt rfl ?_)
  | ((with_reducible show vExt _ _ _ _); refine u_ext rfl ?_)
  | ((with_reducible show vM1 _ _ _ _ _); refine u_m1 ?_)
  | ((with_reducible show kM1a _ _ _ _ _); refine k_m1a rfl ?_)
  | ((with_reducible show kM1b _ _ _ _ _); refine k_m1b rfl rfl ?_)
  | ((with_reducible show vGet2 _ _ _ _ _); refine u_get2 ?_)
  | ((with_reducible show kGet1 _ _ _ _ _); refine k_get1 rfl ?_)
  | ((with_reducible show kGet2 _ _ _ _ _); refine k_get2 ?_)
  | ((with_reducible show vSetL _ _ _ _ _); refine u_setL ?_)
  | ((with_reducible show kSetL1 _ _ _ _ _); refine k_setL1 rfl ?_)
  | ((with_reducible show kSetL2 _ _ _ _ _); (first | refine k_setL2j 0 rfl rfl (by simp) rfl ?_ | refine k_setL2j 1 rfl rfl (by simp) rfl ?_ | refine k_setL2j 2 rfl rfl (by simp) rfl ?_))
  | ((with_reducible show vPutD _ _ _ _ _); refine u_putD ?_)
  | ((with_reducible show kPutD1 _ _ _ _ _); refine k_putD1 rfl ?_)
  | ((with_reducible show vAugL _ _ _ _ _ _); refine u_augL rfl ?_)
  | ((with_reducible show kAugL1 _ _ _ _ _ _); (first | refine k_augL1j 0 rfl rfl rfl ?_ | refine k_augL1j 1 rfl rfl rfl ?_ | refine k_augL1j 2 rfl rfl rfl ?_))
  | ((with_reducible show kAugL2 _ _ _ _ _ _ _); refine k_augL2j rfl (by simp) ?_)
  | ((with_reducible show vAug _ _ _ _ _); refine u_aug rfl ?_)
  | ((with_reducible show kAug _ _ _ _ _ _); (first | refine k_augAdd rfl ?_ | refine k_augSub rfl ?_))
  | ((with_reducible show vCall _ _ _ _); refine u_call ?_)
  | ((with_reducible show gN _ _ _ _); (first | refine u_gN rfl rfl ?_ | refine u_gN rfl (by assumption) ?_))
  | ((with_reducible show gT _ _ _ _); refine u_gT rfl ?_)
  | ((with_reducible show gL _ _ _ _); refine u_gL rfl rfl ?_)
  | ((with_reducible show gTs _ _ _ _); (first | refine u_gTs0 ?_ | refine u_gTs ?_))
  | ((with_reducible show vItL _ _ _); refine u_itL ?_)
  | ((with_reducible show kItL _ _ _); refine k_itL rfl rfl ?_)
  | ((with_reducible show vItT _ _ _); refine u_itT ?_)
  | ((with_reducible show kItT _ _ _); refine k_itT rfl rfl ?_)
  | ((with_reducible show vItR1 _ _ _); refine u_itR1 ?_)
  | ((with_reducible show vItR2 _ _ _); refine u_itR2 ?_)
  | ((with_reducible show vFor _ _ _ _ _); refine u_for ?_)
  | ((with_reducible show vLc _ _ _ _ _ _ _); refine u_lc ?_)
  | ((with_reducible show vLcK _ _ _ _ _ _ _); refine u_lcK rfl ?_)
  | ((with_reducible show vYes _ _); refine u_yes ?_)
  | ((with_reducible show kLcT _ _ _ _ _ _); refine k_lcTT ?_)
  | ((with_reducible show addP _ _); refine p_addI ?_)
  | ((with_reducible show subP _ _); refine p_subI ?_)
  | ((with_reducible show mulP _ _); (first | refine p_mulI (.inl (.inl (by omega))) ?_ | refine p_mulI (.inl (.inr (by omega))) ?_))
  | ((with_reducible show modP _ _); refine p_modI (by omega) ?_)
  | ((with_reducible show divP _ _); refine p_divI (.inl (by constructor <;> omega)) ?_)
  | ((with_reducible show negP _ _); refine p_negI ?_)
  | ((with_reducible show ltP _ _); refine p_ltI ?_)
  | ((with_reducible show leP _ _); refine p_leI ?_)
  | ((with_reducible show gtP _ _); refine p_gtI ?_)
  | ((with_reducible show geP _ _); refine p_geI ?_)
  | ((with_reducible show eqP _ _); (first | refine p_eqI ?_ | refine p_eqS ?_ | refine p_eqB ?_ | refine p_eqN ?_))
  | ((with_reducible show neP _ _); (first | refine p_neI ?_ | refine p_neS ?_ | refine p_neB ?_))
  | ((with_reducible show isNP _ _); (first | refine p_isNn ?_ | refine p_isNi ?_ | refine p_isNs ?_ | refine p_isNb ?_ | refine p_isNl ?_ | refine p_isNt ?_ | refine p_isNd ?_))
  | ((with_reducible show notNP _ _); (first | refine p_notNn ?_ | refine p_notNi ?_ | refine p_notNs ?_ | refine p_notNb ?_ | refine p_notNl ?_ | refine p_notNt ?_ | refine p_notNd ?_))
  | ((with_reducible show isiP _ _); refine p_isi rfl rfl ?_)
  | ((with_reducible show isiTP _ _); refine p_isiT rfl rfl ?_)
  | ((with_reducible show reprP _ _); (first | refine p_reprB ?_ | refine p_reprN ?_))
  | ((with_reducible show lenP _ _); (first | refine p_lenL ?_ | refine p_lenF ?_ | refine p_lenT ?_ | refine p_lenD ?_))
  | ((with_reducible show absP _ _); refine p_absI ?_)
  | ((with_reducible show intP _ _); refine p_intI ?_)
  | ((with_reducible show listP _ _); (first | refine p_listL ?_ | refine p_listF ?_ | refine p_listD ?_))
  | ((with_reducible show ixP _ _); (first | refine p_ixLj 0 rfl rfl ?_ | refine p_ixLj 1 rfl rfl ?_ | refine p_ixLj 2 rfl rfl ?_ | refine p_ixLj 3 rfl rfl ?_ | refine p_ixTj 0 rfl rfl ?_ | refine p_ixTj 1 rfl rfl ?_ | refine p_ixTj 2 rfl rfl ?_ | refine p_ixTj 3 rfl rfl ?_))
  | ((with_reducible show inP _ _ _); (first | refine p_inS0 ?_ | refine p_inS1 ?_ | refine p_inI0 ?_ | refine p_inI1 ?_ | refine p_inD0 rfl ?_ | refine p_inD1 rfl ?_))
  | ((with_reducible show slP _ _ _ _); (first | refine p_slL ?_ | refine p_slF ?_))
  | ((with_reducible show sumP _ _); refine p_sum ?_)
  | ((with_reducible show maxP _ _); refine p_max2 ?_)
  | ((with_reducible show minP _ _); refine p_min2 ?_)
  | ((with_reducible show allP _ _); refine p_all ?_)
  | ((with_reducible show anyP _ _); refine p_any ?_))
local macro_rules | `(tactic| walk_at "ss") => `(tactic| repeat walk_at "s")
local macro_rules | `(tactic| walk_at "back") => `(tactic| refine k_back ?_ (by dsimp only [takeBack, backS, List.set, List.getElem?_cons_zero, List.getElem?_cons_succ]))
local macro_rules | `(tactic| walk_at "s") => `(tactic| first
  | ((with_reducible show vCallX _ _ _ _ _); refine u_callX ?_)
  | ((with_reducible show vRaise _ _ _ _ _ _); refine u_raise ?_)
  | ((with_reducible show kRaise _ _ _ _ _); refine k_raise rfl rfl (by simp) ?_)
  | ((with_reducible show vNewKs _ _); refine u_newKs ?_))
/-! K26F: what the lambdas ask, told. -/
theorem takeBack_nil (ρ : Rho) (ss : List Slot) : takeBack ρ [] ss = ρ := by cases ss <;> rfl
theorem rd_k26_told {M : Value → Value → Option Bool} {Xf : Value → Str → Prop} (hM : M TM (.ref (TBs.exc "TooMany")) = some true) (hX : Xf TM "what") (SSl : VSp) (f : Addr) (dcap : List D) (ρs : List Slot) (R : Slot → List Slot → Prop) (RX : Value → List (Str × D) → List Slot → Prop) (h : SG_k26_told SSl f dcap ρs R RX) :
    (fun EX => v_k26_told f dcap SSl EX M Xf (TBs.exc "TooMany")) (fun cls fs ρ' => RX cls fs (fin ρs ρ')) { nx := fun ρ' => R (.sh .non) (fin ρs ρ'), rt := fun r ρ' => R r (fin ρs ρ') } (ρs ++ uns 1) := by
  obtain ⟨rfl, q⟩ := h
  unfold v_k26_told
  show vTryAs _ _ _ _ _ _ _ [.sh (.opq (.ref f)), .un]
  refine ⟨⟨.un, rfl, rfl⟩, ?_⟩
  walk_at "ss"
  refine u_callF rfl ?_
  walk_at "ss"
  refine k_callF rfl ?_
  rw [List.append_nil]
  simp only [takeBack_nil]
  refine q _ _ (fun n ss hr => hr) (fun d ss hr => ⟨.un, true, rfl, rfl, hM, fun _ a => ?_, fun z => by cases z⟩)
  show vRet _ _ [.sh (.opq (.ref f)), .sh (.opq (.ref a))]
  walk_at "ss"
  refine ⟨rfl, hX, d, rfl, ?_⟩
  walk_at "ss"
  exact hr
/-! ### the looks -/
theorem nat_rangeD (n : Nat) : rangeD 0 n = (List.range n).map fun i => D.int (Int.ofNat i) := by
  unfold rangeD
  exact List.map_congr_left fun i _ => by rw [Int.zero_add]; rfl
theorem prs_app (a b : List (Int × Int)) : prs (a ++ b) = prs a ++ prs b := by unfold prs; rw [List.map_append]
theorem prs_len (a : List (Int × Int)) : (prs a).length = a.length := by unfold prs; rw [List.length_map]
def rowL (ns : List Int) (a : Nat) : List (Int × Int) := (List.range (ns.getD a 0).toNat).map fun p => (Int.ofNat a, Int.ofNat p)
theorem flat_take {β : Type} (f : Nat → List β) (n j : Nat) (hj : j < n) : ((List.range n).take (j + 1)).flatMap f = ((List.range n).take j).flatMap f ++ f j := by
  rw [List.take_add_one, List.getElem?_range hj, List.flatMap_append]; simp
theorem smallL.at {ns : List Int} (h : smallL ns) {a : Nat} (ha : a < ns.length) : ∃ x, ns[a]? = some x ∧ ns.getD a 0 = x ∧ 1 ≤ x ∧ x ≤ 3 := by
  have := h.2 ns[a] (List.getElem_mem ha)
  exact ⟨ns[a], List.getElem?_eq_getElem ha, by rw [List.getD_eq_getElem?_getD, List.getElem?_eq_getElem ha]; rfl, this⟩
theorem rows_len {ns : List Int} (h : smallL ns) (f : Nat → List (Int × Int)) (hf : ∀ a, a < ns.length → (f a).length ≤ 3) : ∀ j, j ≤ ns.length → (((List.range ns.length).take j).flatMap f).length ≤ 3 * j
  | 0, _ => by simp
  | j + 1, hj => by
    rw [flat_take f _ j (by omega), List.length_append]
    have := rows_len h f hf j (by omega)
    have := hf j (by omega)
    omega
theorem rowL_len {ns : List Int} (h : smallL ns) (a : Nat) (ha : a < ns.length) : (rowL ns a).length ≤ 3 := by
  obtain ⟨x, _, e, _, h3⟩ := h.at ha
  unfold rowL
  rw [List.length_map, List.length_range, e]; omega
theorem rd_k26_line_looks : Reads S_k26_line_looks (fun _ => v_k26_line_looks) 3 := fun ρs R _ h => by
  obtain ⟨ns, rfl, sm, q⟩ := h
  unfold v_k26_line_looks
  show vSeq _ _ _ [.sh (iL ns), .un, .un, .un]
  have hl := sm.1
  walk_at "ss"
  refine k_itR1 rfl (by simp; omega) ?_
  rw [show (((ns.map D.int).length : Int)).toNat = ns.length by simp, nat_rangeD]
  refine k_for (fun j ρ => ∃ s2 s3, ρ = [.sh (iL ns), .ow false (.lst (prs (((List.range ns.length).take j).flatMap (rowL ns)))), s2, s3] ∧ s2.free = true ∧ s3.free = true) ⟨.un, .un, by simp [prs], rfl, rfl⟩ ?_ ?_
  · rintro j d ρ' hj ⟨s2, s3, rfl, f2, f3⟩
    rw [List.getElem?_map] at hj
    obtain ⟨a, ha, ed⟩ := Option.map_eq_some_iff.mp hj
    have hjl : j < ns.length := by have := (List.getElem?_eq_some_iff.mp ha).1; simpa using this
    rw [List.getElem?_range hjl] at ha
    cases ha
    subst ed
    obtain ⟨x, hx, ex, x1, x3⟩ := sm.at hjl
    have hlen := rows_len sm (rowL ns) (fun a ha => rowL_len sm a ha) j (by omega)
    have hlen2 := rowL_len sm j hjl
    rw [flat_take (rowL ns) _ j hjl, prs_app]
    generalize ((List.range ns.length).take j).flatMap (rowL ns) = acc at hlen
    walk_at "ss"
    refine p_ixLj j rfl (by rw [List.getElem?_map, hx]; rfl) ?_
    walk_at "ss"
    refine k_itR1 rfl ⟨by omega, by omega⟩ ?_
    rw [nat_rangeD]
    refine k_lcM (List.range x.toNat) (fun i => D.int (Int.ofNat i)) (fun _ => true) (fun p => D.tup [.int (Int.ofNat j), .int (Int.ofNat p)]) [.sh (iL ns), .ow false (.lst (prs acc)), .sh (.int (Int.ofNat j)), .un] rfl (small16 (by rw [List.length_range]; omega)) (free1 rfl f3) rfl ?_ ?_
    · intro y acc I hy _ a1 a2
      walk_at "ss"
      exact k_lcE rfl (by assumption) (a1 rfl)
    · rw [filt_true]
      have e : ((List.range x.toNat).map fun p => D.tup [.int (Int.ofNat j), .int (Int.ofNat p)]) = prs (rowL ns j) := by
        unfold rowL prs
        rw [ex, List.map_map]; rfl
      rw [e]
      walk_at "ss"
      refine p_addL (by rw [prs_len, prs_len]; exact small16' (by omega)) ?_
      walk_at "ss"
      exact ⟨_, _, rfl, rfl, rfl⟩
  · rintro ρ' ⟨s2, s3, rfl, f2, f3⟩
    rw [show ((List.range ns.length).map fun i => D.int (Int.ofNat i)).length = (List.range ns.length).length by simp, List.take_length]
    walk_at "ss"
    exact q
end WL

set_option Elab.async false
set_option linter.all false
set_option maxRecDepth 100000
set_option maxHeartbeats 4000000
namespace WL
open PySem PySem.Spec PyProof.Rows L2
variable [TBs]
local macro_rules | `(tactic| walk_at "s") => `(tactic| first
  | ((with_reducible show vSeq _ _ _ _); refine u_seq ?_)
  | ((with_reducible show vSet _ _ _ _); refine u_set ?_)
  | ((with_reducible show kSet _ _ _ _); (first | refine k_set rfl rfl ?_ | refine k_set rfl (by assumption) ?_))
  | ((with_reducible show vRet _ _ _); refine u_ret ?_)
  | ((with_reducible show vIf _ _ _ _ _); refine u_if ?_)
  | ((with_reducible show vExpr _ _ _); refine u_expr ?_)
  | ((with_reducible show kExpr _ _ _); refine k_expr ?_)
  | ((with_reducible show vRetN _ _); refine u_retN ?_)
  | ((with_reducible show vAsg _ _ _ _); refine u_asg ?_)
  | ((with_reducible show kAsg _ _ _ _); refine k_asg rfl ?_)
  | ((with_reducible show vNext _ _); refine u_next ?_)
  | ((with_reducible show vBreak _ _); refine u_break ?_)
  | ((with_reducible show vCont _ _); refine u_cont ?_)
  | ((with_reducible show kIf _ _ _ _ _); (first | refine k_ifT ?_ | refine k_ifF ?_))
  | ((with_reducible show vVal _ _ _); refine u_val ?_)
  | ((with_reducible show kVal _ _ _); refine k_val ?_)
  | ((with_reducible show vPk _ _ _); refine u_pk rfl rfl ?_)
  | ((with_reducible show vC _ _ _); refine u_c ?_)
  | ((with_reducible show vVar _ _ _); (first | refine u_var rfl ?_ | refine u_varL rfl ?_ | refine u_varD rfl ?_ | refine u_varE rfl ?_))
  | ((with_reducible show vMv _ _ _); (first | refine u_mv rfl ?_ | refine u_mvO rfl ?_))
  | ((with_reducible show vBin _ _ _ _ _); refine u_bin ?_)
  | ((with_reducible show kBin1 _ _ _ _ _); refine k_bin1 ?_)
  | ((with_reducible show kBin2 _ _ _ _ _); refine k_bin2 rfl rfl ?_)
  | ((with_reducible show vUn _ _ _ _); refine u_un ?_)
  | ((with_reducible show kUn _ _ _ _); refine k_un rfl ?_)
  | ((with_reducible show vCons _ _ _ _); refine u_cons ?_)
  | ((with_reducible show kCons1 _ _ _ _); refine k_cons1 ?_)
  | ((with_reducible show vNil _ _); refine u_nil ?_)
  | ((with_reducible show kCons2 _ _ _ _); refine k_cons2 ?_)
  | ((with_reducible show vPrim _ _ _ _); refine u_prim ?_)
  | ((with_reducible show kPrim _ _ _ _); (first | refine k_prim1 rfl ?_ | refine k_prim2 rfl rfl ?_))
  | ((with_reducible show kRet _ _ _); (first | refine k_retV ?_ | refine k_retL ?_ | refine k_retT ?_ | refine k_retD ?_))
  | ((with_reducible show vSh _ _ _); refine u_sh ?_)
  | ((with_reducible show kSh _ _ _); (first | refine k_sh ?_ | refine k_shL ?_ | refine k_shD ?_))
  | ((with_reducible show vT _ _ _); refine u_t ?_)
  | ((with_reducible show kT _ _ _); refine k_t ?_)
  | ((with_reducible show vTru _ _ _); refine u_tru ?_)
  | ((with_reducible show kTru _ _ _); refine k_tru rfl rfl ?_)
  | ((with_reducible show vAnd _ _ _ _); refine u_and ?_)
  | ((with_reducible show kAnd _ _ _ _); (first | refine k_andT ?_ | refine k_andF ?_))
  | ((with_reducible show vOr _ _ _ _); refine u_or ?_)
  | ((with_reducible show kOr _ _ _ _); (first | refine k_orT ?_ | refine k_orF ?_))
  | ((with_reducible show vNot _ _ _); refine u_not ?_)
  | ((with_reducible show kNot _ _ _); refine k_not ?_)
  | ((with_reducible show vAndV _ _ _ _); refine u_andV ?_)
  | ((with_reducible show kAndV _ _ _ _); (first | refine k_andVT ?_ | refine k_andVF ?_))
  | ((with_reducible show kOrV _ _ _ _); (first | refine k_orVT ?_ | refine k_orVF ?_))
  | ((with_reducible show vOrV _ _ _ _); refine u_orV ?_)
  | ((with_reducible show vNotV _ _ _); refine u_notV ?_)
  | ((with_reducible show kNotV _ _ _); refine k_notV ?_)
  | ((with_reducible show vIfE _ _ _ _ _); refine u_ifE ?_)
  | ((with_reducible show kIfE _ _ _ _ _); (first | refine k_ifET ?_ | refine k_ifEF ?_))
  | ((with_reducible show vLst _ _ _); refine u_lst ?_)
  | ((with_reducible show kLst _ _ _); refine k_lst rfl (by simp only [List.length_cons, List.length_nil]; decide) ?_)
  | ((with_reducible show vTup _ _ _); refine u_tup ?_)
  | ((with_reducible show kTup _ _ _); refine k_tup rfl (by simp only [List.length_cons, List.length_nil]; decide) ?_)
  | ((with_reducible show vNewD _ _); refine u_newD ?_)
  | ((with_reducible show vSl _ _ _ _ _); refine u_sl ?_)
  | ((with_reducible show kSl0 _ _ _ _ _); refine k_sl0 ?_)
  | ((with_reducible show kSl1 _ _ _ _ _); refine k_sl1 ?_)
  | ((with_reducible show kSl2 _ _ _ _ _); refine k_sl2 rfl ?_)
  | ((with_reducible show vNoPart _ _); refine u_noPart ?_)
  | ((with_reducible show vPart _ _ _); refine u_part ?_)
  | ((with_reducible show kPart _ _ _); refine k_part ?_)
  | ((with_reducible show vApp _ _ _ _); refine u_app rfl ?_)
  | ((with_reducible show vPopAt _ _ _ _); refine u_popAt rfl ?_)
  | ((with_reducible show vExt _ _ _ _); refine u_ext rfl ?_)
  | ((with_reducible show vM1 _ _ _ _ _); refine u_m1 ?_)
  | ((with_reducible show kM1a _ _ _ _ _); refine k_m1a rfl ?_)
  | ((with_reducible show kM1b _ _ _ _ _); refine k_m1b rfl rfl ?_)
  | ((with_reducible show vGet2 _ _ _ _ _); refine u_get2 ?_)
  | ((with_reducible show kGet1 _ _ _ _ _); refine k_get1 rfl ?_)
  | ((with_reducible show kGet2 _ _ _ _ _); refine k_get2 ?_)
  | ((with_reducible show vSetL _ _ _ _ _); refine u_setL ?_)
  | ((with_reducible show kSetL1 _ _ _ _ _); refine k_setL1 rfl ?_)
  | ((with_reducible show kSetL2 _ _ _ _ _); (first | refine k_setL2j 0 rfl rfl (by simp) rfl ?_ | refine k_setL2j 1 rfl rfl (by simp) rfl ?_ | refine k_setL2j 2 rfl rfl (by simp) rfl ?_))
  | ((with_reducible show vPutD _ _ _ _ _); refine u_putD ?_)
  | ((with_reducible show kPutD1 _ _ _ _ _); refine k_putD1 rfl ?_)
  | ((with_reducible show vAugL _ _ _ _ _ _); refine u_augL rfl ?_)
  | ((with_reducible show kAugL1 _ _ _ _ _ _); (first | refine k_augL1j 0 rfl rfl rfl ?_ | refine k_augL1j 1 rfl rfl rfl ?_ | refine k_augL1j 2 rfl rfl rfl ?_))
  | ((with_reducible show kAugL2 _ _ _ _ _ _ _); refine k_augL2j rfl (by simp) ?_)
  | ((with_reducible show vAug _ _ _ _ _); refine u_aug rfl ?_)
  | ((with_reducible show kAug _ _ _ _ _ _); (first | refine k_augAdd rfl ?_ | refine k_augSub rfl ?_))
  | ((with_reducible show vCall _ _ _ _); refine u_call ?_)
  | ((with_reducible show gN _ _ _ _); (first | refine u_gN rfl rfl ?_ | refine u_gN rfl (by assumption) ?_))
  | ((with_reducible show gT _ _ _ _); refine u_gT rfl ?_)
  | ((with_reducible show gL _ _ _ _); refine u_gL rfl rfl ?_)
  | ((with_reducible show gTs _ _ _ _); (first | refine u_gTs0 ?_ | refine u_gTs ?_))
  | ((with_reducible show vItL _ _ _); refine u_itL ?_)
  | ((with_reducible show kItL _ _ _); refine k_itL rfl rfl ?_)
  | ((with_reducible show vItT _ _ _); refine u_itT ?_)
  | ((with_reducible show kItT _ _ _); refine k_itT rfl rfl ?_)
  | ((with_reducible show vItR1 _ _ _); refine u_itR1 ?_)
  | ((with_reducible show vItR2 _ _ _); refine u_itR2 ?_)
  | ((with_reducible show vFor _ _ _ _ _); refine u_for ?_)
  | ((with_reducible show vLc _ _ _ _ _ _ _); refine u_lc ?_)
  | ((with_reducible show vLcK _ _ _ _ _ _ _); refine u_lcK rfl ?_)
  | ((with_reducible show vYes _ _); refine u_yes ?_)
  | ((with_reducible show kLcT _ _ _ _ _ _); refine k_lcTT ?_)
  | ((with_reducible show addP _ _); refine p_addI ?_)
  | ((with_reducible show subP _ _); refine p_subI ?_)
  | ((with_reducible show mulP _ _); (first | refine p_mulI (.inl (.inl (by omega))) ?_ | refine p_mulI (.inl (.inr (by omega))) ?_))
  | ((with_reducible show modP _ _); refine p_modI (by omega) ?_)
  | ((with_reducible show divP _ _); refine p_divI (.inl (by constructor <;> omega)) ?_)
  | ((with_reducible show negP _ _); refine p_negI ?_)
  | ((with_reducible show ltP _ _); refine p_ltI ?_)
  | ((with_reducible show leP _ _); refine p_leI ?_)
  | ((with_reducible show gtP _ _); refine p_gtI ?_)
  | ((with_reducible show geP _ _); refine p_geI ?_)
  | ((with_reducible show eqP _ _); (first | refine p_eqI ?_ | refine p_eqS ?_ | refine p_eqB ?_ | refine p_eqN ?_))
  | ((with_reducible show neP _ _); (first | refine p_neI ?_ | refine p_neS ?_ | refine p_neB ?_))
  | ((with_reducible show isNP _ _); (first | refine p_isNn ?_ | refine p_isNi ?_ | refine p_isNs ?_ | refine p_isNb ?_ | refine p_isNl ?_ | refine p_isNt ?_ | refine p_isNd ?_))
  | ((with_reducible show notNP _ _); (first | refine p_notNn ?_ | refine p_notNi ?_ | refine p_notNs ?_ | refine p_notNb ?_ | refine p_notNl ?_ | refine p_notNt ?_ | refine p_notNd ?_))
  | ((with_reducible show isiP _ _); refine p_isi rfl rfl ?_)
  | ((with_reducible show isiTP _ _); refine p_isiT rfl rfl ?_)
  | ((with_reducible show reprP _ _); (first | refine p_reprB ?_ | refine p_reprN ?_))
  | ((with_reducible show lenP _ _); (first | refine p_lenL ?_ | refine p_lenF ?_ | refine p_lenT ?_ | refine p_lenD ?_))
  | ((with_reducible show absP _ _); refine p_absI ?_)
  | ((with_reducible show intP _ _); refine p_intI ?_)
  | ((with_reducible show listP _ _); (first | refine p_listL ?_ | refine p_listF ?_ | refine p_listD ?_))
  | ((with_reducible show ixP _ _); (first | refine p_ixLj 0 rfl rfl ?_ | refine p_ixLj 1 rfl rfl ?_ | refine p_ixLj 2 rfl rfl ?_ | refine p_ixLj 3 rfl rfl ?_ | refine p_ixTj 0 rfl rfl ?_ | refine p_ixTj 1 rfl rfl ?_ | refine p_ixTj 2 rfl rfl ?_ | refine p_ixTj 3 rfl rfl ?_))
  | ((with_reducible show inP _ _ _); (first | refine p_inS0 ?_ | refine p_inS1 ?_ | refine p_inI0 ?_ | refine p_inI1 ?_ | refine p_inD0 rfl ?_ | refine p_inD1 rfl ?_))
  | ((with_reducible show slP _ _ _ _); (first | refine p_slL ?_ | refine p_slF ?_))
  | ((with_reducible show sumP _ _); refine p_sum ?_)
  | ((with_reducible show maxP _ _); refine p_max2 ?_)
  | ((with_reducible show minP _ _); refine p_min2 ?_)
  | ((with_reducible show allP _ _); refine p_all ?_)
  | ((with_reducible show anyP _ _); refine p_any ?_))
local macro_rules | `(tactic| walk_at "ss") => `(tactic| repeat walk_at "s")
local macro_rules | `(tactic| walk_at "back") => `(tactic| refine k_back ?_ (by dsimp only [takeBack, backS, List.set, List.getElem?_cons_zero, List.getElem?_cons_succ]))
local macro_rules | `(tactic| walk_at "s") => `(tactic| first
  | ((with_reducible show vCallX _ _ _ _ _); refine u_callX ?_)
  | ((with_reducible show vRaise _ _ _ _ _ _); refine u_raise ?_)
  | ((with_reducible show kRaise _ _ _ _ _); refine k_raise rfl rfl (by simp) ?_)
  | ((with_reducible show vNewKs _ _); refine u_newKs ?_))
/-! K26G: what is sure. -/
theorem pys_of {n : Nat} : ∀ {ds : List D}, (∀ x ∈ ds, keyB n x = true) → ∃ ps, toPys ds = some ps ∧ PyData.canLayAll0 ps = true ∧ PyData.depthAll ps ≤ n ∧ ∀ d p, keyB n d = true → toPy d = some p → ((ps.any fun z => PyData.eqv z p) = true ↔ d ∈ ds)
  | [], _ => ⟨[], by unfold toPys; rfl, rfl, Nat.zero_le _, fun d p _ _ => by simp⟩
  | x :: ds, h => by
    obtain ⟨px, a1, a2, a3⟩ := key_py n x (h x (List.mem_cons_self ..))
    obtain ⟨ps, b1, b2, b3, b4⟩ := pys_of fun y hy => h y (List.mem_cons_of_mem _ hy)
    refine ⟨px :: ps, by unfold toPys; rw [a1, b1], by unfold PyData.canLayAll0; rw [a2, b2]; rfl, by unfold PyData.depthAll; exact Nat.max_le.mpr ⟨a3, b3⟩, fun d p hd hp => ?_⟩
    rw [List.any_cons, Bool.or_eq_true, b4 d p hd hp, key_eqv n x d (h x (List.mem_cons_self ..)) hd px p a1 hp, List.mem_cons]
    exact ⟨fun z => z.elim (fun e => .inl e.symm) .inr, fun z => z.elim (fun e => .inl e.symm) .inr⟩
def prD (p : Int × Int) : D := .tup [.int p.1, .int p.2]
theorem prs_map (ps : List (Int × Int)) : prs ps = ps.map prD := rfl
theorem prD_key (n : Nat) (p : Int × Int) : keyB (n + 1) (prD p) = true := by
  unfold prD keyB
  exact all_keyBs fun x hx => by
    rcases List.mem_cons.mp hx with rfl | hx
    · cases n <;> (unfold keyB; rfl)
    · rw [List.mem_singleton.mp hx]
      cases n <;> (unfold keyB; rfl)
theorem prD_inj {p q : Int × Int} (h : prD p = prD q) : p = q := by
  unfold prD at h
  injection h with h
  injection h with h1 h2
  injection h2 with h2 _
  injection h1 with h1
  injection h2 with h2
  exact Prod.ext h1 h2
theorem mem_prs {p : Int × Int} {ps : List (Int × Int)} : prD p ∈ prs ps ↔ p ∈ ps := by
  rw [prs_map]
  constructor
  · intro h
    obtain ⟨q, hq, e⟩ := List.mem_map.mp h
    rw [← prD_inj e]; exact hq
  · exact List.mem_map_of_mem
theorem shapedP {d : PyData} (h : d.canLay0 = true) (h2 : d.depth ≤ 64) : SeqAt.shaped d = true := by
  unfold SeqAt.shaped; rw [h, decide_eq_true h2]; rfl
theorem any_prs {p : Int × Int} {ps : List (Int × Int)} : ∃ px pys, toPy (prD p) = some px ∧ toPys (prs ps) = some pys ∧ SeqAt.shaped px = true ∧ SeqAt.shaped (.list pys) = true ∧ (pys.any fun z => PyData.eqv z px) = decide (p ∈ ps) := by
  obtain ⟨px, a1, a2, a3⟩ := key_py 1 (prD p) (prD_key 0 p)
  obtain ⟨pys, b1, b2, b3, b4⟩ := pys_of (n := 1) (ds := prs ps) fun x hx => by
    rw [prs_map] at hx
    obtain ⟨q, _, rfl⟩ := List.mem_map.mp hx
    exact prD_key 0 q
  refine ⟨px, pys, a1, b1, shapedP a2 (by omega), shapedP (by unfold PyData.canLay0; exact b2) (by unfold PyData.depth; omega), ?_⟩
  have := (b4 (prD p) px (prD_key 0 p) a1).trans mem_prs
  by_cases h : p ∈ ps
  · rw [decide_eq_true h]; exact this.mpr h
  · rw [decide_eq_false h]
    cases hv : pys.any fun z => PyData.eqv z px with
    | false => rfl
    | true => exact absurd (this.mp hv) h
theorem p_inPT {b : Bool} {p : Int × Int} {ps : List (Int × Int)} {R : Ret → Prop} (h : R (.val (.bl (ifN b (decide (p ∈ ps)))))) : inEP b [.tup [.int p.1, .int p.2], .tup (prs ps)] R := by
  obtain ⟨px, pys, h1, h2, h3, h4, h5⟩ := any_prs (p := p) (ps := ps)
  exact .inr ⟨_, _, _, px, pys, rfl, rfl, h1, h2, h3, h4, by rw [h5]; exact h⟩
theorem p_inPL {b : Bool} {p : Int × Int} {ps : List (Int × Int)} {R : Ret → Prop} (h : R (.val (.bl (ifN b (decide (p ∈ ps)))))) : inEP b [.tup [.int p.1, .int p.2], .lst (prs ps)] R := by
  obtain ⟨px, pys, h1, h2, h3, h4, h5⟩ := any_prs (p := p) (ps := ps)
  exact .inl (.inr ⟨_, _, _, px, pys, rfl, rfl, h1, h2, h3, h4, by rw [h5]; exact h⟩)
/-- the row a of what is sure, behind its first j places, none unknown so far -/
theorem lsRow_len (known : List (Int × Int)) (a : Int) : ∀ l : List Int, (lsRow known a l).length ≤ l.length
  | [] => Nat.le_refl _
  | p :: ps => by
    unfold lsRow
    rw [List.length_cons, List.length_cons]
    split
    · have := lsRow_len known a ps; omega
    · simp
def lrow (ns : List Int) (known : List (Int × Int)) (a : Nat) : List (Int × Int) := lsRow known (Int.ofNat a) ((List.range (ns.getD a 0).toNat).map fun p => Int.ofNat p)
theorem lrow_len {ns : List Int} (h : smallL ns) (known : List (Int × Int)) (a : Nat) (ha : a < ns.length) : (lrow ns known a).length ≤ 3 := by
  obtain ⟨x, _, e, _, h3⟩ := h.at ha
  have := lsRow_len known (Int.ofNat a) ((List.range (ns.getD a 0).toNat).map fun p => Int.ofNat p)
  rw [List.length_map, List.length_range, e] at this
  unfold lrow
  rw [e]; omega
theorem lsRow_cons (known : List (Int × Int)) (a p : Int) (ps : List Int) : lsRow known a (p :: ps) = (a, p) :: (if (a, p) ∈ known then lsRow known a ps else []) := by rw [lsRow]
theorem rd_k26_line_sure : Reads S_k26_line_sure (fun _ => v_k26_line_sure) 3 := fun ρs R _ h => by
  obtain ⟨ns, known, rfl, sm, hk, q⟩ := h
  unfold v_k26_line_sure
  show vSeq _ _ _ [.sh (iL ns), .sh (.tup (prs known)), .un, .un, .un]
  have hl := sm.1
  walk_at "ss"
  refine k_itR1 rfl (by simp; omega) ?_
  rw [show (((ns.map D.int).length : Int)).toNat = ns.length by simp, nat_rangeD]
  refine k_for (fun j ρ => ∃ s3 s4, ρ = [.sh (iL ns), .sh (.tup (prs known)), .ow false (.lst (prs (((List.range ns.length).take j).flatMap (lrow ns known)))), s3, s4] ∧ s3.free = true ∧ s4.free = true) ⟨.un, .un, by simp [prs], rfl, rfl⟩ ?_ ?_
  · rintro j d ρ' hj ⟨s3, s4, rfl, f3, f4⟩
    rw [List.getElem?_map] at hj
    obtain ⟨a, ha, ed⟩ := Option.map_eq_some_iff.mp hj
    have hjl : j < ns.length := by have := (List.getElem?_eq_some_iff.mp ha).1; simpa using this
    rw [List.getElem?_range hjl] at ha
    cases ha
    subst ed
    obtain ⟨x, hx, ex, x1, x3⟩ := sm.at hjl
    have hlen := rows_len sm (lrow ns known) (fun a ha => lrow_len sm known a ha) j (by omega)
    have hlen2 := lrow_len sm known j hjl
    rw [flat_take (lrow ns known) _ j hjl, prs_app]
    generalize ((List.range ns.length).take j).flatMap (lrow ns known) = acc at hlen
    walk_at "ss"
    refine p_ixLj j rfl (by rw [List.getElem?_map, hx]; rfl) ?_
    walk_at "ss"
    refine k_itR1 rfl ⟨by omega, by omega⟩ ?_
    rw [nat_rangeD]
    have el : lrow ns known j = lsRow known (Int.ofNat j) ((List.range x.toNat).map fun p => Int.ofNat p) := by unfold lrow; rw [ex]
    rw [el] at hlen2 ⊢
    generalize hL : (List.range x.toNat).map (fun p => Int.ofNat p) = L at hlen2 ⊢
    have hD : ((List.range x.toNat).map fun i => D.int (Int.ofNat i)) = L.map D.int := by rw [← hL, List.map_map]; rfl
    rw [hD]
    have hLl : L.length ≤ 3 := by rw [← hL]; simp; omega
    refine k_for (fun i ρ => ∃ s4, ∃ pre : List (Int × Int), ρ = [.sh (iL ns), .sh (.tup (prs known)), .ow false (.lst (prs acc ++ prs pre)), .sh (.int (Int.ofNat j)), s4] ∧ s4.free = true ∧ pre.length ≤ i ∧ pre ++ lsRow known (Int.ofNat j) (L.drop i) = lsRow known (Int.ofNat j) L) ⟨s4, [], by simp [prs], f4, Nat.le_refl _, by simp⟩ ?_ ?_
    · rintro i d ρ' hi ⟨s4, pre, rfl, f4, hpl, hpre⟩
      rw [List.getElem?_map] at hi
      obtain ⟨p, hp, ed⟩ := Option.map_eq_some_iff.mp hi
      subst ed
      have hil : i < L.length := (List.getElem?_eq_some_iff.mp hp).1
      obtain ⟨p', hp', edr⟩ := drop_at hil
      rw [hp] at hp'; cases hp'
      rw [edr, lsRow_cons] at hpre
      walk_at "ss"
      refine k_app rfl rfl (by rw [List.length_append, prs_len, prs_len]; exact small16 (by omega)) ?_
      walk_at "ss"
      refine p_inPT (p := (Int.ofNat j, p)) ?_
      walk_at "ss"
      have eA : prs acc ++ prs pre ++ [D.tup [.int (Int.ofNat j), .int p]] = prs acc ++ prs (pre ++ [(Int.ofNat j, p)]) := by rw [prs_app, List.append_assoc]; rfl
      refine ⟨fun hb => ?_, fun hb => ?_⟩
      · have hb : ¬ (Int.ofNat j, p) ∈ known := by simpa [ifN] using hb
        rw [if_neg hb] at hpre
        walk_at "ss"
        rw [eA, hpre]
        exact ⟨_, _, rfl, rfl, rfl⟩
      · have hb : (Int.ofNat j, p) ∈ known := by simpa [ifN] using hb
        rw [if_pos hb] at hpre
        walk_at "ss"
        exact ⟨_, pre ++ [(Int.ofNat j, p)], by rw [eA], rfl, by rw [List.length_append]; simp; omega, by rw [List.append_assoc]; exact hpre⟩
    · rintro ρ' ⟨s4, pre, rfl, f4, hpl, hpre⟩
      rw [show (L.map D.int).length = L.length by simp, List.drop_length] at hpre
      have e : pre = lsRow known (Int.ofNat j) L := by rw [← hpre]; simp [lsRow]
      exact ⟨_, _, by rw [e], rfl, f4⟩
  · rintro ρ' ⟨s3, s4, rfl, f3, f4⟩
    rw [show ((List.range ns.length).map fun i => D.int (Int.ofNat i)).length = (List.range ns.length).length by simp, List.take_length]
    walk_at "ss"
    exact q
/-! ### groups -/
def grows (ns : List Int) : List (List (Int × Int)) := (List.range ns.length).map (rowL ns)
theorem gsRows_cons (known : List (Int × Int)) (g : List (Int × Int)) (gs : List (List (Int × Int))) : gsRows known (g :: gs) = g ++ (if (g.filter fun x => !decide (x ∈ known)) = [] then gsRows known gs else []) := by rw [gsRows]
theorem grows_drop {ns : List Int} {j : Nat} (h : j < ns.length) : (grows ns).drop j = rowL ns j :: (grows ns).drop (j + 1) := by
  have hl : j < (grows ns).length := by unfold grows; simpa using h
  rw [List.drop_eq_getElem_cons hl]
  congr 1
  simp [grows]
theorem p_nePE {ps : List (Int × Int)} {R : Ret → Prop} (hl : ps.length ≤ 1000) (h : R (.val (.bl (!decide (ps = []))))) : neP [.lst (prs ps), .lst []] R := by
  obtain ⟨pys, b1, b2, b3, _⟩ := pys_of (n := 1) (ds := prs ps) fun x hx => by
    rw [prs_map] at hx
    obtain ⟨q, _, rfl⟩ := List.mem_map.mp hx
    exact prD_key 0 q
  refine ⟨.list pys, .list [], by unfold toPy; rw [b1]; rfl, by unfold toPy toPys; rfl, shapedP (by unfold PyData.canLay0; exact b2) (by unfold PyData.depth; omega), by decide, ?_⟩
  cases ps with
  | nil =>
    have : toPys (prs []) = some [] := by show toPys [] = some []; unfold toPys; rfl
    rw [this] at b1; cases b1
    rw [decide_eq_true rfl] at h
    exact h
  | cons p ps =>
    obtain ⟨p1, ps1, _, _, e⟩ := toPys_cons (show toPys (prD p :: prs ps) = some pys from b1)
    subst e
    rw [decide_eq_false (by simp)] at h
    exact h
theorem eqv_ints : ∀ ns : List Int, PyData.eqvAll (ns.map PyData.int) (ns.map PyData.int) = true
  | [] => rfl
  | n :: ns => by
    show (PyData.eqv (.int n) (.int n) && PyData.eqvAll (ns.map PyData.int) (ns.map PyData.int)) = true
    rw [eqv_ints ns]; simp [PyData.eqv]
theorem toPys_ints : ∀ ns : List Int, toPys (ns.map D.int) = some (ns.map PyData.int)
  | [] => by unfold toPys; rfl
  | n :: ns => by
    show toPys (D.int n :: ns.map D.int) = _
    unfold toPys
    rw [toPys_ints ns, show toPy (.int n) = some (.int n) by unfold toPy; rfl]; rfl
theorem lay_ints : ∀ ns : List Int, PyData.canLayAll0 (ns.map PyData.int) = true
  | [] => rfl
  | n :: ns => by
    show (PyData.canLay0 (.int n) && PyData.canLayAll0 (ns.map PyData.int)) = true
    rw [lay_ints ns]; rfl
theorem p_eqIL {ns : List Int} {R : Ret → Prop} (h : R (.val (.bl true))) : eqP [iL ns, iL ns] R := by
  have e : toPy (iL ns) = some (.list (ns.map PyData.int)) := by unfold toPy; rw [toPys_ints]; rfl
  have hs : SeqAt.shaped (.list (ns.map PyData.int)) = true := shapedP (by unfold PyData.canLay0; exact lay_ints ns) (by unfold PyData.depth; have := ints_depth ns; omega)
  exact ⟨_, _, e, e, hs, hs, by
    rw [show PyData.eqv (.list (ns.map PyData.int)) (.list (ns.map PyData.int)) = true from eqv_ints ns]; exact h⟩
theorem rd_k26_group_sure : Reads S_k26_group_sure (fun _ => v_k26_group_sure) 5 := fun ρs R _ h => by
  obtain ⟨ns, known, rfl, sm, hk, q⟩ := h
  unfold v_k26_group_sure
  show vSeq _ _ _ [.sh (iL ns), .sh (.tup (prs known)), .un, .un, .un, .un, .un]
  have hl := sm.1
  walk_at "ss"
  refine k_itR1 rfl (by simp; omega) ?_
  rw [show (((ns.map D.int).length : Int)).toNat = ns.length by simp, nat_rangeD]
  refine k_for (fun j ρ => ∃ s3 s4 s5 s6, ∃ pre : List (Int × Int), ρ = [.sh (iL ns), .sh (.tup (prs known)), .ow false (.lst (prs pre)), s3, s4, s5, s6] ∧ s3.free = true ∧ s4.free = true ∧ s5.free = true ∧ s6.free = true ∧ pre.length ≤ 3 * j ∧ pre ++ gsRows known ((grows ns).drop j) = groupSure ns known)
    ⟨.un, .un, .un, .un, [], rfl, rfl, rfl, rfl, rfl, by simp, rfl⟩ ?_ ?_
  · rintro j d ρ' hj ⟨s3, s4, s5, s6, pre, rfl, f3, f4, f5, f6, hpl, hpre⟩
    rw [List.getElem?_map] at hj
    obtain ⟨a, ha, ed⟩ := Option.map_eq_some_iff.mp hj
    have hjl : j < ns.length := by have := (List.getElem?_eq_some_iff.mp ha).1; simpa using this
    rw [List.getElem?_range hjl] at ha
    cases ha
    subst ed
    obtain ⟨x, hx, ex, x1, x3⟩ := sm.at hjl
    have hlen2 := rowL_len sm j hjl
    rw [grows_drop hjl, gsRows_cons] at hpre
    walk_at "ss"
    refine p_ixLj j rfl (by rw [List.getElem?_map, hx]; rfl) ?_
    walk_at "ss"
    refine k_itR1 rfl ⟨by omega, by omega⟩ ?_
    rw [nat_rangeD]
    refine k_lcM (List.range x.toNat) (fun i => D.int (Int.ofNat i)) (fun _ => true) (fun p => D.tup [.int (Int.ofNat j), .int (Int.ofNat p)]) [.sh (iL ns), .sh (.tup (prs known)), .ow false (.lst (prs pre)), .sh (.int (Int.ofNat j)), s4, .un, s6] rfl (small16 (by rw [List.length_range]; omega)) (free1 rfl f5) rfl ?_ ?_
    · intro y acc I hy _ a1 a2
      walk_at "ss"
      exact k_lcE rfl (by assumption) (a1 rfl)
    · rw [filt_true]
      have e : ((List.range x.toNat).map fun p => D.tup [.int (Int.ofNat j), .int (Int.ofNat p)]) = prs (rowL ns j) := by
        unfold rowL prs
        rw [ex, List.map_map]; rfl
      rw [e]
      generalize rowL ns j = row at hlen2 hpre
      walk_at "ss"
      refine p_addL (by rw [prs_len, prs_len]; exact small16' (by omega)) ?_
      walk_at "ss"
      refine k_lcM row prD (fun p => !decide (p ∈ known)) prD [.sh (iL ns), .sh (.tup (prs known)), .ow false (.lst (prs pre ++ prs row)), .sh (.int (Int.ofNat j)), .sh (.lst (prs row)), .un, .un] rfl (small16 (by omega)) (free1 rfl f6) rfl ?_ ?_
      · intro y acc I hy _ a1 a2
        walk_at "ss"
        refine p_inPT (p := y) ?_
        walk_at "ss"
        refine k_lcT (fun hb => ?_) (fun hb => ?_)
        · walk_at "ss"
          exact k_lcE rfl (by assumption) (a1 (by simpa [ifN] using hb))
        · exact a2 (by simpa [ifN] using hb)
      · rw [← prs_map]
        walk_at "ss"
        refine p_nePE (by have := List.length_filter_le (fun p => !decide (p ∈ known)) row; omega) ?_
        walk_at "ss"
        refine ⟨fun hb => ?_, fun hb => ?_⟩
        · have hb : ¬ (row.filter fun p => !decide (p ∈ known)) = [] := by simpa using hb
          rw [if_neg hb, List.append_nil] at hpre
          walk_at "ss"
          rw [← prs_app, hpre]
          exact q
        · have hb : (row.filter fun p => !decide (p ∈ known)) = [] := by simpa using hb
          rw [if_pos hb] at hpre
          walk_at "ss"
          exact ⟨_, _, _, _, pre ++ row, by rw [prs_app], rfl, rfl, rfl, rfl, by rw [List.length_append]; omega, by rw [List.append_assoc]; exact hpre⟩
  · rintro ρ' ⟨s3, s4, s5, s6, pre, rfl, f3, f4, f5, f6, hpl, hpre⟩
    have hd : (grows ns).drop ns.length = [] := List.drop_eq_nil_of_le (by unfold grows; simp)
    rw [show ((List.range ns.length).map fun i => D.int (Int.ofNat i)).length = ns.length by simp, hd] at hpre
    have e : pre = groupSure ns known := by rw [← hpre]; simp [gsRows]
    subst e
    walk_at "ss"
    exact q
end WL

set_option Elab.async false
set_option linter.all false
set_option maxRecDepth 100000
set_option maxHeartbeats 4000000
namespace WL
open PySem PySem.Spec PyProof.Rows L2
variable [TBs]
local macro_rules | `(tactic| walk_at "s") => `(tactic| first
  | ((with_reducible show vSeq _ _ _ _); refine u_seq ?_)
  | ((with_reducible show vSet _ _ _ _); refine u_set ?_)
  | ((with_reducible show kSet _ _ _ _); (first | refine k_set rfl rfl ?_ | refine k_set rfl (by assumption) ?_))
  | ((with_reducible show vRet _ _ _); refine u_ret ?_)
  | ((with_reducible show vIf _ _ _ _ _); refine u_if ?_)
  | ((with_reducible show vExpr _ _ _); refine u_expr ?_)
  | ((with_reducible show kExpr _ _ _); refine k_expr ?_)
  | ((with_reducible show vRetN _ _); refine u_retN ?_)
  | ((with_reducible show vAsg _ _ _ _); refine u_asg ?_)
  | ((with_reducible show kAsg _ _ _ _); refine k_asg rfl ?_)
  | ((with_reducible show vNext _ _); refine u_next ?_)
  | ((with_reducible show vBreak _ _); refine u_break ?_)
  | ((with_reducible show vCont _ _); refine u_cont ?_)
  | ((with_reducible show kIf _ _ _ _ _); (first | refine k_ifT ?_ | refine k_ifF ?_))
  | ((with_reducible show vVal _ _ _); refine u_val ?_)
  | ((with_reducible show kVal _ _ _); refine k_val ?_)
  | ((with_reducible show vPk _ _ _); refine u_pk rfl rfl ?_)
  | ((with_reducible show vC _ _ _); refine u_c ?_)
  | ((with_reducible show vVar _ _ _); (first | refine u_var rfl ?_ | refine u_varL rfl ?_ | refine u_varD rfl ?_ | refine u_varE rfl ?_))
  | ((with_reducible show vMv _ _ _); (first | refine u_mv rfl ?_ | refine u_mvO rfl ?_))
  | ((with_reducible show vBin _ _ _ _ _); refine u_bin ?_)
  | ((with_reducible show kBin1 _ _ _ _ _); refine k_bin1 ?_)
  | ((with_reducible show kBin2 _ _ _ _ _); refine k_bin2 rfl rfl ?_)
  | ((with_reducible show vUn _ _ _ _); refine u_un ?_)
  | ((with_reducible show kUn _ _ _ _); refine k_un rfl ?_)
  | ((with_reducible show vCons _ _ _ _); refine u_cons ?_)
  | ((with_reducible show kCons1 _ _ _ _); refine k_cons1 ?_)
  | ((with_reducible show vNil _ _); refine u_nil ?_)
  | ((with_reducible show kCons2 _ _ _ _); refine k_cons2 ?_)
  | ((with_reducible show vPrim _ _ _ _); refine u_prim ?_)
  | ((with_reducible show kPrim _ _ _ _); (first | refine k_prim1 rfl ?_ | refine k_prim2 rfl rfl ?_))
  | ((with_reducible show kRet _ _ _); (first | refine k_retV ?_ | refine k_retL ?_ | refine k_retT ?_ | refine k_retD ?_))
  | ((with_reducible show vSh _ _ _); refine u_sh ?_)
  | ((with_reducible show kSh _ _ _); (first | refine k_sh ?_ | refine k_shL ?_ | refine k_shD ?_))
  | ((with_reducible show vT _ _ _); refine u_t ?_)
  | ((with_reducible show kT _ _ _); refine k_t ?_)
  | ((with_reducible show vTru _ _ _); refine u_tru ?_)
  | ((with_reducible show kTru _ _ _); refine k_tru rfl rfl ?_)
  | ((with_reducible show vAnd _ _ _ _); refine u_and ?_)
  | ((with_reducible show kAnd _ _ _ _); (first | refine k_andT ?_ | refine k_andF ?_))
  | ((with_reducible show vOr _ _ _ _); refine u_or ?_)
  | ((with_reducible show kOr _ _ _ _); (first | refine k_orT ?_ | refine k_orF ?_))
  | ((with_reducible show vNot _ _ _); refine u_not ?_)
  | ((with_reducible show kNot _ _ _); refine k_not ?_)
  | ((with_reducible show vAndV _ _ _ _); refine u_andV ?_)
  | ((with_reducible show kAndV _ _ _ _); (first | refine k_andVT ?_ | refine k_andVF ?_))
  | ((with_reducible show kOrV _ _ _ _); (first | refine k_orVT ?_ | refine k_orVF ?_))
  | ((with_reducible show vOrV _ _ _ _); refine u_orV ?_)
  | ((with_reducible show vNotV _ _ _); refine u_notV ?_)
  | ((with_reducible show kNotV _ _ _); refine k_notV ?_)
  | ((with_reducible show vIfE _ _ _ _ _); refine u_ifE ?_)
  | ((with_reducible show kIfE _ _ _ _ _); (first | refine k_ifET ?_ | refine k_ifEF ?_))
  | ((with_reducible show vLst _ _ _); refine u_lst ?_)
  | ((with_reducible show kLst _ _ _); refine k_lst rfl (by simp only [List.length_cons, List.length_nil]; decide) ?_)
  | ((with_reducible show vTup _ _ _); refine u_tup ?_)
  | ((with_reducible show kTup _ _ _); refine k_tup rfl (by simp only [List.length_cons, List.length_nil]; decide) ?_)
  | ((with_reducible show vNewD _ _); refine u_newD ?_)
  | ((with_reducible show vSl _ _ _ _ _); refine u_sl ?_)
  | ((with_reducible show kSl0 _ _ _ _ _); refine k_sl0 ?_)
  | ((with_reducible show kSl1 _ _ _ _ _); refine k_sl1 ?_)
  | ((with_reducible show kSl2 _ _ _ _ _); refine k_sl2 rfl ?_)
  | ((with_reducible show vNoPart _ _); refine u_noPart ?_)
  | ((with_reducible show vPart _ _ _); refine u_part ?_)
  | ((with_reducible show kPart _ _ _); refine k_part ?_)
  | ((with_reducible show vApp _ _ _ _); refine u_app rfl ?_)
  | ((with_reducible show vPopAt _ _ _ _); refine u_popAt rfl ?_)
  | ((with_reducible show vExt _ _ _ _); refine u_ext rfl ?_)
  | ((with_reducible show vM1 _ _ _ _ _); refine u_m1 ?_)
  | ((with_reducible show kM1a _ _ _ _ _); refine k_m1a rfl ?_)
  | ((with_reducible show kM1b _ _ _ _ _); refine k_m1b rfl rfl ?_)
  | ((with_reducible show vGet2 _ _ _ _ _); refine u_get2 ?_)
  | ((with_reducible show kGet1 _ _ _ _ _); refine k_get1 rfl ?_)
  | ((with_reducible show kGet2 _ _ _ _ _); refine k_get2 ?_)
  | ((with_reducible show vSetL _ _ _ _ _); refine u_setL ?_)
  | ((with_reducible show kSetL1 _ _ _ _ _); refine k_setL1 rfl ?_)
  | ((with_reducible show kSetL2 _ _ _ _ _); (first | refine k_setL2j 0 rfl rfl (by simp) rfl ?_ | refine k_setL2j 1 rfl rfl (by simp) rfl ?_ | refine k_setL2j 2 rfl rfl (by simp) rfl ?_))
  | ((with_reducible show vPutD _ _ _ _ _); refine u_putD ?_)
  | ((with_reducible show kPutD1 _ _ _ _ _); refine k_putD1 rfl ?_)
  | ((with_reducible show vAugL _ _ _ _ _ _); refine u_augL rfl ?_)
  | ((with_reducible show kAugL1 _ _ _ _ _ _); (first | refine k_augL1j 0 rfl rfl rfl ?_ | refine k_augL1j 1 rfl rfl rfl ?_ | refine k_augL1j 2 rfl rfl rfl ?_))
  | ((with_reducible show kAugL2 _ _ _ _ _ _ _); refine k_augL2j rfl (by simp) ?_)
  | ((with_reducible show vAug _ _ _ _ _); refine u_aug rfl ?_)
  | ((with_reducible show kAug _ _ _ _ _ _); (first | refine k_augAdd rfl ?_ | refine k_augSub rfl ?_))
  | ((with_reducible show vCall _ _ _ _); refine u_call ?_)
  | ((with_reducible show gN _ _ _ _); (first | refine u_gN rfl rfl ?_ | refine u_gN rfl (by assumption) ?_))
  | ((with_reducible show gT _ _ _ _); refine u_gT rfl ?_)
  | ((with_reducible show gL _ _ _ _); refine u_gL rfl rfl ?_)
  | ((with_reducible show gTs _ _ _ _); (first | refine u_gTs0 ?_ | refine u_gTs ?_))
  | ((with_reducible show vItL _ _ _); refine u_itL ?_)
  | ((with_reducible show kItL _ _ _); refine k_itL rfl rfl ?_)
  | ((with_reducible show vItT _ _ _); refine u_itT ?_)
  | ((with_reducible show kItT _ _ _); refine k_itT rfl rfl ?_)
  | ((with_reducible show vItR1 _ _ _); refine u_itR1 ?_)
  | ((with_reducible show vItR2 _ _ _); refine u_itR2 ?_)
  | ((with_reducible show vFor _ _ _ _ _); refine u_for ?_)
  | ((with_reducible show vLc _ _ _ _ _ _ _); refine u_lc ?_)
  | ((with_reducible show vLcK _ _ _ _ _ _ _); refine u_lcK rfl ?_)
  | ((with_reducible show vYes _ _); refine u_yes ?_)
  | ((with_reducible show kLcT _ _ _ _ _ _); refine k_lcTT ?_)
  | ((with_reducible show addP _ _); refine p_addI ?_)
  | ((with_reducible show subP _ _); refine p_subI ?_)
  | ((with_reducible show mulP _ _); (first | refine p_mulI (.inl (.inl (by omega))) ?_ | refine p_mulI (.inl (.inr (by omega))) ?_))
  | ((with_reducible show modP _ _); refine p_modI (by omega) ?_)
  | ((with_reducible show divP _ _); refine p_divI (.inl (by constructor <;> omega)) ?_)
  | ((with_reducible show negP _ _); refine p_negI ?_)
  | ((with_reducible show ltP _ _); refine p_ltI ?_)
  | ((with_reducible show leP _ _); refine p_leI ?_)
  | ((with_reducible show gtP _ _); refine p_gtI ?_)
  | ((with_reducible show geP _ _); refine p_geI ?_)
  | ((with_reducible show eqP _ _); (first | refine p_eqI ?_ | refine p_eqS ?_ | refine p_eqB ?_ | refine p_eqN ?_))
  | ((with_reducible show neP _ _); (first | refine p_neI ?_ | refine p_neS ?_ | refine p_neB ?_))
  | ((with_reducible show isNP _ _); (first | refine p_isNn ?_ | refine p_isNi ?_ | refine p_isNs ?_ | refine p_isNb ?_ | refine p_isNl ?_ | refine p_isNt ?_ | refine p_isNd ?_))
  | ((with_reducible show notNP _ _); (first | refine p_notNn ?_ | refine p_notNi ?_ | refine p_notNs ?_ | refine p_notNb ?_ | refine p_notNl ?_ | refine p_notNt ?_ | refine p_notNd ?_))
  | ((with_reducible show isiP _ _); refine p_isi rfl rfl ?_)
  | ((with_reducible show isiTP _ _); refine p_isiT rfl rfl ?_)
  | ((with_reducible show reprP _ _); (first | refine p_reprB ?_ | refine p_reprN ?_))
  | ((with_reducible show lenP _ _); (first | refine p_lenL ?_ | refine p_lenF ?_ | refine p_lenT ?_ | refine p_lenD ?_))
  | ((with_reducible show absP _ _); refine p_absI ?_)
  | ((with_reducible show intP _ _); refine p_intI ?_)
  | ((with_reducible show listP _ _); (first | refine p_listL ?_ | refine p_listF ?_ | refine p_listD ?_))
  | ((with_reducible show ixP _ _); (first | refine p_ixLj 0 rfl rfl ?_ | refine p_ixLj 1 rfl rfl ?_ | refine p_ixLj 2 rfl rfl ?_ | refine p_ixLj 3 rfl rfl ?_ | refine p_ixTj 0 rfl rfl ?_ | refine p_ixTj 1 rfl rfl ?_ | refine p_ixTj 2 rfl rfl ?_ | refine p_ixTj 3 rfl rfl ?_))
  | ((with_reducible show inP _ _ _); (first | refine p_inS0 ?_ | refine p_inS1 ?_ | refine p_inI0 ?_ | refine p_inI1 ?_ | refine p_inD0 rfl ?_ | refine p_inD1 rfl ?_))
  | ((with_reducible show slP _ _ _ _); (first | refine p_slL ?_ | refine p_slF ?_))
  | ((with_reducible show sumP _ _); refine p_sum ?_)
  | ((with_reducible show maxP _ _); refine p_max2 ?_)
  | ((with_reducible show minP _ _); refine p_min2 ?_)
  | ((with_reducible show allP _ _); refine p_all ?_)
  | ((with_reducible show anyP _ _); refine p_any ?_))
local macro_rules | `(tactic| walk_at "ss") => `(tactic| repeat walk_at "s")
local macro_rules | `(tactic| walk_at "back") => `(tactic| refine k_back ?_ (by dsimp only [takeBack, backS, List.set, List.getElem?_cons_zero, List.getElem?_cons_succ]))
local macro_rules | `(tactic| walk_at "s") => `(tactic| first
  | ((with_reducible show vCallX _ _ _ _ _); refine u_callX ?_)
  | ((with_reducible show vRaise _ _ _ _ _ _); refine u_raise ?_)
  | ((with_reducible show kRaise _ _ _ _ _); refine k_raise rfl rfl (by simp) ?_)
  | ((with_reducible show vNewKs _ _); refine u_newKs ?_))
/-! K26H: by all sets. -/
theorem pleB_iff {p q : Int × Int} : pleB p q = true ↔ p.1 < q.1 ∨ (p.1 = q.1 ∧ p.2 ≤ q.2) := by unfold pleB; simp
theorem pins_perm (p : Int × Int) : ∀ l, (pins p l).Perm (p :: l)
  | [] => .refl _
  | q :: r => by
    unfold pins
    split
    · exact .refl _
    · exact ((pins_perm p r).cons q).trans (.swap p q r)
theorem psort_perm : ∀ l, (psort l).Perm l
  | [] => .refl _
  | p :: r => (pins_perm p _).trans ((psort_perm r).cons p)
def pLe (p q : Int × Int) : Prop := p.1 < q.1 ∨ (p.1 = q.1 ∧ p.2 ≤ q.2)
theorem pins_sorted (p : Int × Int) : ∀ l, l.Pairwise pLe → (pins p l).Pairwise pLe
  | [], _ => List.pairwise_singleton _ _
  | q :: r, h => by
    obtain ⟨h1, h2⟩ := List.pairwise_cons.mp h
    unfold pins
    split
    · rename_i hp
      have hp := pleB_iff.mp hp
      refine List.pairwise_cons.mpr ⟨fun x hx => ?_, h⟩
      rcases List.mem_cons.mp hx with rfl | hx
      · exact hp
      · have := h1 x hx
        unfold pLe at *; omega
    · rename_i hp
      have hp : ¬ (p.1 < q.1 ∨ (p.1 = q.1 ∧ p.2 ≤ q.2)) := fun z => hp (pleB_iff.mpr z)
      refine List.pairwise_cons.mpr ⟨fun x hx => ?_, pins_sorted p r h2⟩
      rcases List.mem_cons.mp ((pins_perm p r).mem_iff.mp hx) with rfl | hx
      · unfold pLe; omega
      · exact h1 x hx
theorem psort_sorted : ∀ l, (psort l).Pairwise pLe
  | [] => .nil
  | p :: r => pins_sorted p _ (psort_sorted r)
theorem sorted_uniq : ∀ {a b : List (Int × Int)}, a.Perm b → a.Pairwise pLe → b.Pairwise pLe → a = b
  | [], b, p, _, _ => by rw [List.nil_perm.mp p]
  | x :: a, [], p, _, _ => by have := p.length_eq; simp at this
  | x :: a, y :: b, p, h1, h2 => by
    obtain ⟨a1, a2⟩ := List.pairwise_cons.mp h1
    obtain ⟨b1, b2⟩ := List.pairwise_cons.mp h2
    have e : x = y := by
      have hx : x ∈ y :: b := p.mem_iff.mp (List.mem_cons_self ..)
      have hy : y ∈ x :: a := p.mem_iff.mpr (List.mem_cons_self ..)
      rcases List.mem_cons.mp hx with e | hx
      · exact e
      · rcases List.mem_cons.mp hy with e | hy
        · exact e.symm
        · have q1 := b1 x hx
          have q2 := a1 y hy
          unfold pLe at q1 q2
          exact Prod.ext (by omega) (by omega)
    subst e
    rw [sorted_uniq (List.perm_cons _ |>.mp p) a2 b2]
theorem p_sortPP {ps : List (Int × Int)} {R : Ret → Prop} (h : R (.newL (prs (psort ps)))) : sortPP [.lst (prs ps)] R :=
  ⟨_, ps, rfl, rfl, fun qs hp hs => by rw [sorted_uniq (hp.trans (psort_perm ps).symm) hs (psort_sorted ps)]; exact h⟩
/-- a set of looks as a key -/
def kD (r : List (Int × Int)) : D := .tup (prs r)
theorem kD_key (r : List (Int × Int)) : keyT (kD r) := ⟨by
  unfold kD keyB
  exact all_keyBs fun x hx => by
    rw [prs_map] at hx
    obtain ⟨q, _, rfl⟩ := List.mem_map.mp hx
    exact prD_key 4 q, _, rfl⟩
theorem prs_inj {a b : List (Int × Int)} (h : prs a = prs b) : a = b := by
  rw [prs_map, prs_map] at h
  induction a generalizing b with
  | nil => cases b with
    | nil => rfl
    | cons y b => cases h
  | cons x a ih => cases b with
    | nil => cases h
    | cons y b =>
      rw [List.map_cons, List.map_cons] at h
      injection h with h1 h2
      rw [prD_inj h1, ih h2]
theorem kD_inj {a b : List (Int × Int)} (h : kD a = kD b) : a = b := by
  unfold kD at h
  injection h with h
  exact prs_inj h
theorem mem_kD {r : List (Int × Int)} {S : List (List (Int × Int))} : kD r ∈ S.map kD ↔ r ∈ S := by
  constructor
  · intro h
    obtain ⟨q, hq, e⟩ := List.mem_map.mp h
    rw [← kD_inj e]; exact hq
  · exact List.mem_map_of_mem
theorem putS_kD (S : List (List (Int × Int))) (r : List (Int × Int)) : (if kD r ∈ S.map kD then S.map kD else S.map kD ++ [kD r]) = (putS S r).map kD := by
  unfold putS
  by_cases h : r ∈ S
  · rw [if_pos (mem_kD.mpr h), if_pos h]
  · rw [if_neg (fun z => h (mem_kD.mp z)), if_neg h, List.map_append]; rfl
end WL

set_option Elab.async false
set_option linter.all false
set_option maxRecDepth 100000
set_option maxHeartbeats 4000000
namespace WL
open PySem PySem.Spec PyProof.Rows L2
variable [TBs]
local macro_rules | `(tactic| walk_at "s") => `(tactic| first
  | ((with_reducible show vSeq _ _ _ _); refine u_seq ?_)
  | ((with_reducible show vSet _ _ _ _); refine u_set ?_)
  | ((with_reducible show kSet _ _ _ _); (first | refine k_set rfl rfl ?_ | refine k_set rfl (by assumption) ?_))
  | ((with_reducible show vRet _ _ _); refine u_ret ?_)
  | ((with_reducible show vIf _ _ _ _ _); refine u_if ?_)
  | ((with_reducible show vExpr _ _ _); refine u_expr ?_)
  | ((with_reducible show kExpr _ _ _); refine k_expr ?_)
  | ((with_reducible show vRetN _ _); refine u_retN ?_)
  | ((with_reducible show vAsg _ _ _ _); refine u_asg ?_)
  | ((with_reducible show kAsg _ _ _ _); refine k_asg rfl ?_)
  | ((with_reducible show vNext _ _); refine u_next ?_)
  | ((with_reducible show vBreak _ _); refine u_break ?_)
  | ((with_reducible show vCont _ _); refine u_cont ?_)
  | ((with_reducible show kIf _ _ _ _ _); (first | refine k_ifT ?_ | refine k_ifF ?_))
  | ((with_reducible show vVal _ _ _); refine u_val ?_)
  | ((with_reducible show kVal _ _ _); refine k_val ?_)
  | ((with_reducible show vPk _ _ _); refine u_pk rfl rfl ?_)
  | ((with_reducible show vC _ _ _); refine u_c ?_)
  | ((with_reducible show vVar _ _ _); (first | refine u_var rfl ?_ | refine u_varL rfl ?_ | refine u_varD rfl ?_ | refine u_varE rfl ?_))
  | ((with_reducible show vMv _ _ _); (first | refine u_mv rfl ?_ | refine u_mvO rfl ?_))
  | ((with_reducible show vBin _ _ _ _ _); refine u_bin ?_)
  | ((with_reducible show kBin1 _ _ _ _ _); refine k_bin1 ?_)
  | ((with_reducible show kBin2 _ _ _ _ _); refine k_bin2 rfl rfl ?_)
  | ((with_reducible show vUn _ _ _ _); refine u_un ?_)
  | ((with_reducible show kUn _ _ _ _); refine k_un rfl ?_)
  | ((with_reducible show vCons _ _ _ _); refine u_cons ?_)
  | ((with_reducible show kCons1 _ _ _ _); refine k_cons1 ?_)
  | ((with_reducible show vNil _ _); refine u_nil ?_)
  | ((with_reducible show kCons2 _ _ _ _); refine k_cons2 ?_)
  | ((with_reducible show vPrim _ _ _ _); refine u_prim ?_)
  | ((with_reducible show kPrim _ _ _ _); (first | refine k_prim1 rfl ?_ | refine k_prim2 rfl rfl ?_))
  | ((with_reducible show kRet _ _ _); (first | refine k_retV ?_ | refine k_retL ?_ | refine k_retT ?_ | refine k_retD ?_))
  | ((with_reducible show vSh _ _ _); refine u_sh ?_)
  | ((with_reducible show kSh _ _ _); (first | refine k_sh ?_ | refine k_shL ?_ | refine k_shD ?_))
  | ((with_reducible show vT _ _ _); refine u_t ?_)
  | ((with_reducible show kT _ _ _); refine k_t ?_)
  | ((with_reducible show vTru _ _ _); refine u_tru ?_)
  | ((with_reducible show kTru _ _ _); refine k_tru rfl rfl ?_)
  | ((with_reducible show vAnd _ _ _ _); refine u_and ?_)
  | ((with_reducible show kAnd _ _ _ _); (first | refine k_andT ?_ | refine k_andF ?_))
  | ((with_reducible show vOr _ _ _ _); refine u_or ?_)
  | ((with_reducible show kOr _ _ _ _); (first | refine k_orT ?_ | refine k_orF ?_))
  | ((with_reducible show vNot _ _ _); refine u_not ?_)
  | ((with_reducible show kNot _ _ _); refine k_not ?_)
  | ((with_reducible show vAndV _ _ _ _); refine u_andV ?_)
  | ((with_reducible show kAndV _ _ _ _); (first | refine k_andVT ?_ | refine k_andVF ?_))
  | ((with_reducible show kOrV _ _ _ _); (first | refine k_orVT ?_ | refine k_orVF ?_))
  | ((with_reducible show vOrV _ _ _ _); refine u_orV ?_)
  | ((with_reducible show vNotV _ _ _); refine u_notV ?_)
  | ((with_reducible show kNotV _ _ _); refine k_notV ?_)
  | ((with_reducible show vIfE _ _ _ _ _); refine u_ifE ?_)
  | ((with_reducible show kIfE _ _ _ _ _); (first | refine k_ifET ?_ | refine k_ifEF ?_))
  | ((with_reducible show vLst _ _ _); refine u_lst ?_)
  | ((with_reducible show kLst _ _ _); refine k_lst rfl (by simp only [List.length_cons, List.length_nil]; decide) ?_)
  | ((with_reducible show vTup _ _ _); refine u_tup ?_)
  | ((with_reducible show kTup _ _ _); refine k_tup rfl (by simp only [List.length_cons, List.length_nil]; decide) ?_)
  | ((with_reducible show vNewD _ _); refine u_newD ?_)
  | ((with_reducible show vSl _ _ _ _ _); refine u_sl ?_)
  | ((with_reducible show kSl0 _ _ _ _ _); refine k_sl0 ?_)
  | ((with_reducible show kSl1 _ _ _ _ _); refine k_sl1 ?_)
  | ((with_reducible show kSl2 _ _ _ _ _); refine k_sl2 rfl ?_)
  | ((with_reducible show vNoPart _ _); refine u_noPart ?_)
  | ((with_reducible show vPart _ _ _); refine u_part ?_)
  | ((with_reducible show kPart _ _ _); refine k_part ?_)
  | ((with_reducible show vApp _ _ _ _); refine u_app rfl ?_)
  | ((with_reducible show vPopAt _ _ _ _); refine u_popAt rfl ?_)
  | ((with_reducible show vExt _ _ _ _); refine u_ext rfl ?_)
  | ((with_reducible show vM1 _ _ _ _ _); refine u_m1 ?_)
  | ((with_reducible show kM1a _ _ _ _ _); refine k_m1a rfl ?_)
  | ((with_reducible show kM1b _ _ _ _ _); refine k_m1b rfl rfl ?_)
  | ((with_reducible show vGet2 _ _ _ _ _); refine u_get2 ?_)
  | ((with_reducible show kGet1 _ _ _ _ _); refine k_get1 rfl ?_)
  | ((with_reducible show kGet2 _ _ _ _ _); refine k_get2 ?_)
  | ((with_reducible show vSetL _ _ _ _ _); refine u_setL ?_)
  | ((with_reducible show kSetL1 _ _ _ _ _); refine k_setL1 rfl ?_)
  | ((with_reducible show kSetL2 _ _ _ _ _); (first | refine k_setL2j 0 rfl rfl (by simp) rfl ?_ | refine k_setL2j 1 rfl rfl (by simp) rfl ?_ | refine k_setL2j 2 rfl rfl (by simp) rfl ?_))
  | ((with_reducible show vPutD _ _ _ _ _); refine u_putD ?_)
  | ((with_reducible show kPutD1 _ _ _ _ _); refine k_putD1 rfl ?_)
  | ((with_reducible show vAugL _ _ _ _ _ _); refine u_augL rfl ?_)
  | ((with_reducible show kAugL1 _ _ _ _ _ _); (first | refine k_augL1j 0 rfl rfl rfl ?_ | refine k_augL1j 1 rfl rfl rfl ?_ | refine k_augL1j 2 rfl rfl rfl ?_))
  | ((with_reducible show kAugL2 _ _ _ _ _ _ _); refine k_augL2j rfl (by simp) ?_)
  | ((with_reducible show vAug _ _ _ _ _); refine u_aug rfl ?_)
  | ((with_reducible show kAug _ _ _ _ _ _); (first | refine k_augAdd rfl ?_ | refine k_augSub rfl ?_))
  | ((with_reducible show vCall _ _ _ _); refine u_call ?_)
  | ((with_reducible show gN _ _ _ _); (first | refine u_gN rfl rfl ?_ | refine u_gN rfl (by assumption) ?_))
  | ((with_reducible show gT _ _ _ _); refine u_gT rfl ?_)
  | ((with_reducible show gL _ _ _ _); refine u_gL rfl rfl ?_)
  | ((with_reducible show gTs _ _ _ _); (first | refine u_gTs0 ?_ | refine u_gTs ?_))
  | ((with_reducible show vItL _ _ _); refine u_itL ?_)
  | ((with_reducible show kItL _ _ _); refine k_itL rfl rfl ?_)
  | ((with_reducible show vItT _ _ _); refine u_itT ?_)
  | ((with_reducible show kItT _ _ _); refine k_itT rfl rfl ?_)
  | ((with_reducible show vItR1 _ _ _); refine u_itR1 ?_)
  | ((with_reducible show vItR2 _ _ _); refine u_itR2 ?_)
  | ((with_reducible show vFor _ _ _ _ _); refine u_for ?_)
  | ((with_reducible show vLc _ _ _ _ _ _ _); refine u_lc ?_)
  | ((with_reducible show vLcK _ _ _ _ _ _ _); refine u_lcK rfl ?_)
  | ((with_reducible show vYes _ _); refine u_yes ?_)
  | ((with_reducible show kLcT _ _ _ _ _ _); refine k_lcTT ?_)
  | ((with_reducible show addP _ _); refine p_addI ?_)
  | ((with_reducible show subP _ _); refine p_subI ?_)
  | ((with_reducible show mulP _ _); (first | refine p_mulI (.inl (.inl (by omega))) ?_ | refine p_mulI (.inl (.inr (by omega))) ?_))
  | ((with_reducible show modP _ _); refine p_modI (by omega) ?_)
  | ((with_reducible show divP _ _); refine p_divI (.inl (by constructor <;> omega)) ?_)
  | ((with_reducible show negP _ _); refine p_negI ?_)
  | ((with_reducible show ltP _ _); refine p_ltI ?_)
  | ((with_reducible show leP _ _); refine p_leI ?_)
  | ((with_reducible show gtP _ _); refine p_gtI ?_)
  | ((with_reducible show geP _ _); refine p_geI ?_)
  | ((with_reducible show eqP _ _); (first | refine p_eqI ?_ | refine p_eqS ?_ | refine p_eqB ?_ | refine p_eqN ?_))
  | ((with_reducible show neP _ _); (first | refine p_neI ?_ | refine p_neS ?_ | refine p_neB ?_))
  | ((with_reducible show isNP _ _); (first | refine p_isNn ?_ | refine p_isNi ?_ | refine p_isNs ?_ | refine p_isNb ?_ | refine p_isNl ?_ | refine p_isNt ?_ | refine p_isNd ?_))
  | ((with_reducible show notNP _ _); (first | refine p_notNn ?_ | refine p_notNi ?_ | refine p_notNs ?_ | refine p_notNb ?_ | refine p_notNl ?_ | refine p_notNt ?_ | refine p_notNd ?_))
  | ((with_reducible show isiP _ _); refine p_isi rfl rfl ?_)
  | ((with_reducible show isiTP _ _); refine p_isiT rfl rfl ?_)
  | ((with_reducible show reprP _ _); (first | refine p_reprB ?_ | refine p_reprN ?_))
  | ((with_reducible show lenP _ _); (first | refine p_lenL ?_ | refine p_lenF ?_ | refine p_lenT ?_ | refine p_lenD ?_))
  | ((with_reducible show absP _ _); refine p_absI ?_)
  | ((with_reducible show intP _ _); refine p_intI ?_)
  | ((with_reducible show listP _ _); (first | refine p_listL ?_ | refine p_listF ?_ | refine p_listD ?_))
  | ((with_reducible show ixP _ _); (first | refine p_ixLj 0 rfl rfl ?_ | refine p_ixLj 1 rfl rfl ?_ | refine p_ixLj 2 rfl rfl ?_ | refine p_ixLj 3 rfl rfl ?_ | refine p_ixTj 0 rfl rfl ?_ | refine p_ixTj 1 rfl rfl ?_ | refine p_ixTj 2 rfl rfl ?_ | refine p_ixTj 3 rfl rfl ?_))
  | ((with_reducible show inP _ _ _); (first | refine p_inS0 ?_ | refine p_inS1 ?_ | refine p_inI0 ?_ | refine p_inI1 ?_ | refine p_inD0 rfl ?_ | refine p_inD1 rfl ?_))
  | ((with_reducible show slP _ _ _ _); (first | refine p_slL ?_ | refine p_slF ?_))
  | ((with_reducible show sumP _ _); refine p_sum ?_)
  | ((with_reducible show maxP _ _); refine p_max2 ?_)
  | ((with_reducible show minP _ _); refine p_min2 ?_)
  | ((with_reducible show allP _ _); refine p_all ?_)
  | ((with_reducible show anyP _ _); refine p_any ?_))
local macro_rules | `(tactic| walk_at "ss") => `(tactic| repeat walk_at "s")
local macro_rules | `(tactic| walk_at "back") => `(tactic| refine k_back ?_ (by dsimp only [takeBack, backS, List.set, List.getElem?_cons_zero, List.getElem?_cons_succ]))
local macro_rules | `(tactic| walk_at "s") => `(tactic| first
  | ((with_reducible show vCallX _ _ _ _ _); refine u_callX ?_)
  | ((with_reducible show vRaise _ _ _ _ _ _); refine u_raise ?_)
  | ((with_reducible show kRaise _ _ _ _ _); refine k_raise rfl rfl (by simp) ?_)
  | ((with_reducible show vNewKs _ _); refine u_newKs ?_))
/-! K26I: by all sets, the walk. -/
theorem grow_all {α β : Type} (f : List β → α → List β) (hf : ∀ a x, a.length ≤ (f a x).length) : ∀ (L : List α) (a : List β), a.length ≤ (L.foldl f a).length
  | [], _ => Nat.le_refl _
  | x :: L, a => by rw [List.foldl_cons]; exact Nat.le_trans (hf a x) (grow_all f hf L _)
theorem grow_take {α β : Type} (f : List β → α → List β) (hf : ∀ a x, a.length ≤ (f a x).length) (L : List α) (a : List β) (i : Nat) : ((L.take i).foldl f a).length ≤ (L.foldl f a).length := by
  conv => rhs; rw [← List.take_append_drop i L, List.foldl_append]
  exact grow_all f hf _ _
theorem putS_len (a : List (List (Int × Int))) (k : List (Int × Int)) : a.length ≤ (putS a k).length := by
  unfold putS
  split
  · exact Nat.le_refl _
  · rw [List.length_append]; omega
theorem freshOf_len (looks : List (Int × Int)) (F : List (Int × Int) → List (Int × Int)) (w : Int) (a : List (List (Int × Int))) (k : List (Int × Int)) : a.length ≤ (freshOf looks F w a k).length :=
  grow_all _ (fun a x => putS_len a _) _ _
theorem moreOf_app (most : Int) : ∀ (a b : List (Int × Int)) (acc : List (List (Int × Int))), moreOf most (a ++ b) acc = moreOf most b (moreOf most a acc)
  | [], _, _ => rfl
  | x :: a, b, acc => moreOf_app most a b (acc ++ (acc.filter fun r => decide ((r.length : Int) < most)).map fun r => r ++ [x])
theorem moreOf_len (most : Int) : ∀ (xs : List (Int × Int)) (acc : List (List (Int × Int))), (moreOf most xs acc).length ≤ 2 ^ xs.length * acc.length
  | [], acc => by unfold moreOf; simp
  | x :: xs, acc => by
    unfold moreOf
    refine Nat.le_trans (moreOf_len most xs _) ?_
    rw [List.length_append, List.length_map, List.length_cons, Nat.pow_succ]
    have := List.length_filter_le (fun r : List (Int × Int) => decide ((r.length : Int) < most)) acc
    rw [Nat.mul_assoc]
    exact Nat.mul_le_mul_left _ (by omega)
theorem moreOf_rows (most : Int) : ∀ (xs : List (Int × Int)) (acc : List (List (Int × Int))) (c : Nat), (∀ r ∈ acc, r.length ≤ c) → ∀ r ∈ moreOf most xs acc, r.length ≤ c + xs.length
  | [], acc, c, h, r, hr => by unfold moreOf at hr; exact h r hr
  | x :: xs, acc, c, h, r, hr => by
    unfold moreOf at hr
    have := moreOf_rows most xs _ (c + 1) (fun r hr => by
      rcases List.mem_append.mp hr with hr | hr
      · have := h r hr; omega
      · obtain ⟨y, hy, rfl⟩ := List.mem_map.mp hr
        have := h y (List.mem_filter.mp hy).1
        rw [List.length_append]; simp; omega) r hr
    rw [List.length_cons]; omega
theorem eOk_succ {looks : List (Int × Int)} {F : List (Int × Int) → List (Int × Int)} {w : Int} {n : Nat} {S : List (List (Int × Int))} (h : eOk looks F w (n + 1) S = true) :
    (S.foldl (freshOf looks F w) []).length ≤ 1000 ∧ (∀ k ∈ S, k.length ≤ 9) ∧ (¬ psort looks ∈ S.foldl (freshOf looks F w) [] → eOk looks F w n (S.foldl (freshOf looks F w) []) = true) := by
  unfold eOk at h
  rw [Bool.and_eq_true, Bool.and_eq_true, Bool.or_eq_true, List.all_eq_true] at h
  obtain ⟨⟨h1, h2⟩, h3⟩ := h
  exact ⟨of_decide_eq_true h1, fun k hk => of_decide_eq_true (h2 k hk), fun hn => h3.elim (fun z => absurd (of_decide_eq_true z) hn) id⟩
theorem eGo_succ (looks : List (Int × Int)) (F : List (Int × Int) → List (Int × Int)) (w : Int) (n : Nat) (t : Int) (S : List (List (Int × Int))) :
    eGo looks F w (n + 1) t S = if psort looks ∈ S.foldl (freshOf looks F w) [] then t else eGo looks F w n (t + 1) (S.foldl (freshOf looks F w) []) := by rw [eGo]
theorem p_tupleL {l : List D} {R : Ret → Prop} (h : R (.newT l)) : tupleP [.lst l] R := h
theorem p_listT {l : List D} {R : Ret → Prop} (h : R (.newL l)) : listP [.tup l] R := ⟨l, .inr rfl, h⟩
theorem mostOf_eq (w : Int) (sure known : List (Int × Int)) : w - ((known.filter fun x => !decide (x ∈ sure)).length : Int) = mostOf w sure known := rfl
theorem rd_e_turns (SSl : VSp) (f : Addr) (dcap : List D) (ρs : List Slot) (R : Slot → List Slot → Prop) (RX : Value → List (Str × D) → List Slot → Prop) (h : SG_e_turns SSl f dcap ρs R RX) :
    (fun EX => v_e_turns f dcap SSl EX) (fun cls fs ρ' => RX cls fs (fin ρs ρ')) { nx := fun ρ' => R (.sh .non) (fin ρs ρ'), rt := fun r ρ' => R r (fin ρs ρ') } (ρs ++ uns 12) := by
  obtain ⟨looks, w, F, rfl, hl, nd, w0, w1, ok, hF, hS, q⟩ := h
  unfold v_e_turns
  show vSeq _ _ _ [.sh (.lst (prs looks)), .sh (.opq (.ref f)), .sh (.int w), .un, .un, .un, .un, .un, .un, .un, .un, .un, .un, .un, .un]
  walk_at "ss"
  refine p_sortPP ?_
  walk_at "ss"
  refine p_tupleL ?_
  walk_at "ss"
  refine u_dispKs ?_
  walk_at "ss"
  refine ⟨kD [], rfl, kD_key _, ?_⟩
  walk_at "ss"
  have hln := prs_len looks
  refine k_itR2 rfl rfl ⟨by omega, by omega, by omega, by omega⟩ ?_
  rw [show ((((prs looks).length : Int) + 1) - 1).toNat = looks.length by omega]
  refine k_for (fun j ρ => ∃ S s5 s6 s7 s8 s9 s10 s11 s12 s13 s14, ρ = [.sh (.lst (prs looks)), .sh (.opq (.ref f)), .sh (.int w), .sh (kD (psort looks)), .ks (S.map kD), s5, s6, s7, s8, s9, s10, s11, s12, s13, s14] ∧
    (s5.free = true ∧ s6.free = true ∧ s7.free = true ∧ s8.free = true ∧ s9.free = true) ∧ (s10.free = true ∧ s11.free = true ∧ s12.free = true ∧ s13.free = true ∧ s14.free = true) ∧
    eOk looks F w (looks.length - j) S = true ∧ eGo looks F w (looks.length - j) (1 + (j : Int)) S = eT looks F w)
    ⟨[[]], .un, .un, .un, .un, .un, .un, .un, .un, .un, .un, rfl, ⟨rfl, rfl, rfl, rfl, rfl⟩, ⟨rfl, rfl, rfl, rfl, rfl⟩, ok, rfl⟩ ?_ ?_
  · rintro j d ρ' hj ⟨S, s5, s6, s7, s8, s9, s10, s11, s12, s13, s14, rfl, ⟨f5, f6, f7, f8, f9⟩, ⟨f10, f11, f12, f13, f14⟩, eo, eg⟩
    unfold rangeD at hj
    rw [List.getElem?_map] at hj
    obtain ⟨j', hj', ed⟩ := Option.map_eq_some_iff.mp hj
    have hjl : j < looks.length := by have := (List.getElem?_eq_some_iff.mp hj').1; simpa using this
    rw [List.getElem?_range hjl] at hj'
    cases hj'
    subst ed
    obtain ⟨m, em⟩ : ∃ m, looks.length - j = m + 1 := ⟨looks.length - j - 1, by omega⟩
    rw [em] at eo eg
    obtain ⟨eo1, eo2, eo3⟩ := eOk_succ eo
    rw [eGo_succ] at eg
    walk_at "ss"
    refine u_itKs rfl ?_
    refine k_for (fun i ρ => ∃ s7 s8 s9 s10 s11 s12 s13 s14, ρ = [.sh (.lst (prs looks)), .sh (.opq (.ref f)), .sh (.int w), .sh (kD (psort looks)), .un, .sh (.int (1 + (j : Int))), .ks (((S.take i).foldl (freshOf looks F w) []).map kD), s7, s8, s9, s10, s11, s12, s13, s14] ∧
      (s7.free = true ∧ s8.free = true ∧ s9.free = true) ∧ (s10.free = true ∧ s11.free = true ∧ s12.free = true ∧ s13.free = true ∧ s14.free = true))
      ⟨_, _, _, _, _, _, _, _, rfl, ⟨f7, f8, f9⟩, f10, f11, f12, f13, f14⟩ ?_ ?_
    · rintro i d ρ' hi ⟨s7, s8, s9, s10, s11, s12, s13, s14, rfl, ⟨f7, f8, f9⟩, f10, f11, f12, f13, f14⟩
      rw [List.getElem?_map] at hi
      obtain ⟨known, hk, ed⟩ := Option.map_eq_some_iff.mp hi
      subst ed
      have hkS := List.mem_of_getElem? hk
      have hk9 := eo2 known hkS
      have hFk := hF known hk9
      have etk : (S.take (i + 1)).foldl (freshOf looks F w) [] = freshOf looks F w ((S.take i).foldl (freshOf looks F w) []) known := by
        rw [List.take_add_one, hk, List.foldl_append]; rfl
      have hfl : (freshOf looks F w ((S.take i).foldl (freshOf looks F w) []) known).length ≤ 1000 := by
        rw [← etk]
        exact Nat.le_trans (grow_take _ (fun a x => freshOf_len looks F w a x) S [] (i + 1)) eo1
      rw [etk]
      generalize (S.take i).foldl (freshOf looks F w) [] = A at hfl
      obtain ⟨base, hbase⟩ : ∃ b, b = baseOf looks (F known) known := ⟨_, rfl⟩
      obtain ⟨most, hmost⟩ : ∃ m, m = mostOf w (F known) known := ⟨_, rfl⟩
      obtain ⟨rest, hrest⟩ : ∃ r, r = looks.filter fun x => !decide (x ∈ base) := ⟨_, rfl⟩
      have ef : freshOf looks F w A known = (moreOf most rest [[]]).foldl (fun acc row => putS acc (psort (base ++ row))) A := by rw [hrest, hmost, hbase]; rfl
      rw [ef] at hfl ⊢
      have hbl : base.length ≤ 9 := by
        rw [hbase]
        exact Nat.le_trans (List.length_filter_le ..) hl
      have hrl : rest.length ≤ 9 := by
        rw [hrest]
        exact Nat.le_trans (List.length_filter_le ..) hl
      have hml : most ≤ 100 := by
        rw [hmost]; unfold mostOf; omega
      have h512 : ∀ n, n ≤ 9 → 2 ^ n * 1 ≤ 512 := fun n hn => by
        rw [Nat.mul_one]
        exact Nat.pow_le_pow_right (by decide) hn
      walk_at "ss"
      refine u_callF rfl ?_
      walk_at "ss"
      refine k_callF rfl ?_
      refine hS known hk9 _ _ ?_
      rw [show List.drop dcap.length (dcap.map Slot.sh ++ [Slot.sh (D.tup (prs known))]) = [Slot.sh (D.tup (prs known))] from List.drop_left' (by rw [List.length_map])]
      show kSet 8 _ _ _
      dsimp only [takeBack, backS]
      walk_at "ss"
      refine k_lcM looks prD (fun x => decide (x ∈ F known) || decide (x ∈ known)) prD [.sh (.lst (prs looks)), .sh (.opq (.ref f)), .sh (.int w), .sh (kD (psort looks)), .un, .sh (.int (1 + (j : Int))), .ks (A.map kD), .sh (kD known), .ow false (.lst (prs (F known))), s9, s10, s11, s12, .un, s14] rfl (small16 (by omega)) (free1 rfl f13) rfl ?_ ?_
      · intro x acc I hx _ a1 a2
        walk_at "ss"
        refine p_inPL (p := x) ?_
        walk_at "ss"
        by_cases h1 : x ∈ F known
        · rw [decide_eq_true h1]
          walk_at "ss"
          exact k_lcE rfl (by assumption) (a1 (by simp [h1]))
        · rw [decide_eq_false h1]
          walk_at "ss"
          refine p_inPT (p := x) ?_
          walk_at "ss"
          refine k_lcT (fun hb => ?_) (fun hb => ?_)
          · walk_at "ss"
            exact k_lcE rfl (by assumption) (a1 (by simpa [h1, ifN] using hb))
          · exact a2 (by simpa [h1, ifN] using hb)
      · have eB : (looks.filter fun x => decide (x ∈ F known) || decide (x ∈ known)).map prD = prs base := by rw [hbase]; rfl
        rw [eB]
        walk_at "ss"
        refine k_lcM looks prD (fun x => !decide (x ∈ base)) prD [.sh (.lst (prs looks)), .sh (.opq (.ref f)), .sh (.int w), .sh (kD (psort looks)), .un, .sh (.int (1 + (j : Int))), .ks (A.map kD), .sh (kD known), .ow false (.lst (prs (F known))), .ow false (.lst (prs base)), s10, s11, s12, .un, s14] rfl (small16 (by omega)) (free1 rfl rfl) rfl ?_ ?_
        · intro x acc I hx _ a1 a2
          walk_at "ss"
          refine p_inPL (p := x) ?_
          walk_at "ss"
          refine k_lcT (fun hb => ?_) (fun hb => ?_)
          · walk_at "ss"
            exact k_lcE rfl (by assumption) (a1 (by simpa [ifN] using hb))
          · exact a2 (by simpa [ifN] using hb)
        · rw [← hrest, ← prs_map]
          walk_at "ss"
          refine k_lcM known prD (fun x => !decide (x ∈ F known)) prD [.sh (.lst (prs looks)), .sh (.opq (.ref f)), .sh (.int w), .sh (kD (psort looks)), .un, .sh (.int (1 + (j : Int))), .ks (A.map kD), .sh (kD known), .ow false (.lst (prs (F known))), .ow false (.lst (prs base)), .ow false (.lst (prs rest)), s11, s12, .un, s14] rfl (small16 (by omega)) (free1 rfl rfl) rfl ?_ ?_
          · intro x acc I hx _ a1 a2
            walk_at "ss"
            refine p_inPL (p := x) ?_
            walk_at "ss"
            refine k_lcT (fun hb => ?_) (fun hb => ?_)
            · walk_at "ss"
              exact k_lcE rfl (by assumption) (a1 (by simpa [ifN] using hb))
            · exact a2 (by simpa [ifN] using hb)
          · walk_at "ss"
            rw [List.length_map, mostOf_eq, ← hmost]
            refine k_for (fun n ρ => ∃ s10 s12 s13 s14, ρ = [.sh (.lst (prs looks)), .sh (.opq (.ref f)), .sh (.int w), .sh (kD (psort looks)), .un, .sh (.int (1 + (j : Int))), .ks (A.map kD), .sh (kD known), .ow false (.lst (prs (F known))), .ow false (.lst (prs base)), s10, .sh (.int most), s12, s13, s14] ∧
              (s12 = .ow false (.lst ((moreOf most (rest.take n) [[]]).map kD))) ∧ s10.free = true ∧ s13.free = true ∧ s14.free = true) ⟨_, _, _, _, rfl, rfl, rfl, rfl, f14⟩ ?_ ?_
            · rintro n d ρ' hn ⟨s10, s12, s13, s14, rfl, rfl, f10, f13, f14⟩
              rw [prs_map, List.getElem?_map] at hn
              obtain ⟨x, hx, ed⟩ := Option.map_eq_some_iff.mp hn
              subst ed
              have hnl := (List.getElem?_eq_some_iff.mp hx).1
              have etm : moreOf most (rest.take (n + 1)) [[]] = moreOf most [x] (moreOf most (rest.take n) [[]]) := by rw [List.take_add_one, hx, moreOf_app]; rfl
              have hm1 : (moreOf most (rest.take n) [[]]).length ≤ 512 := Nat.le_trans (moreOf_len most _ _) (h512 _ (by rw [List.length_take]; omega))
              have hm2 : ∀ r ∈ moreOf most (rest.take n) [[]], r.length ≤ 9 := fun r hr => by
                have := moreOf_rows most (rest.take n) [[]] 0 (fun r hr => by rw [List.mem_singleton.mp hr]; simp) r hr
                rw [List.length_take] at this; omega
              rw [etm]
              generalize moreOf most (rest.take n) [[]] = M at hm1 hm2
              walk_at "ss"
              refine k_lcM M kD (fun r => decide ((r.length : Int) < most)) (fun r => kD (r ++ [x])) [.sh (.lst (prs looks)), .sh (.opq (.ref f)), .sh (.int w), .sh (kD (psort looks)), .un, .sh (.int (1 + (j : Int))), .ks (A.map kD), .sh (kD known), .ow false (.lst (prs (F known))), .ow false (.lst (prs base)), s10, .sh (.int most), .sh (.lst (M.map kD)), .sh (prD x), .un] rfl (small16 (by omega)) (free1 rfl f14) rfl ?_ ?_
              · intro y acc I hy _ a1 a2
                have hy9 := hm2 y hy
                walk_at "ss"
                rw [prs_len]
                refine k_lcT (fun hb => ?_) (fun hb => a2 hb)
                walk_at "ss"
                have ey : prs y ++ [prD x] = prs (y ++ [x]) := (prs_app y [x]).symm
                refine p_addT (by rw [prs_len]; exact small16' (by simp; omega)) ?_ ?_
                · walk_at "ss"
                  rw [ey]
                  exact k_lcE rfl (by assumption) (a1 hb)
                · walk_at "ss"
                  rw [ey]
                  exact k_lcE rfl (by assumption) (a1 hb)
              · walk_at "ss"
                have hfl2 := List.length_filter_le (fun r : List (Int × Int) => decide ((r.length : Int) < most)) M
                refine p_addL (by rw [List.length_map, List.length_map]; exact small16' (by omega)) ?_
                walk_at "ss"
                refine ⟨_, _, _, _, rfl, ?_, f10, rfl, rfl⟩
                have em1 : moreOf most [x] M = M ++ (M.filter fun r => decide ((r.length : Int) < most)).map fun r => r ++ [x] := rfl
                rw [em1, List.map_append, List.map_map]; rfl
            · rintro ρ' ⟨s10, s12, s13, s14, rfl, rfl, f10, f13, f14⟩
              rw [prs_len, List.take_length]
              have hm1 : (moreOf most rest [[]]).length ≤ 512 := Nat.le_trans (moreOf_len most _ _) (h512 _ hrl)
              have hm2 : ∀ r ∈ moreOf most rest [[]], r.length ≤ 9 := fun r hr => by
                have := moreOf_rows most rest [[]] 0 (fun r hr => by rw [List.mem_singleton.mp hr]; simp) r hr
                omega
              generalize moreOf most rest [[]] = M at hm1 hm2 hfl
              walk_at "ss"
              refine k_for (fun n ρ => ∃ s14, ρ = [.sh (.lst (prs looks)), .sh (.opq (.ref f)), .sh (.int w), .sh (kD (psort looks)), .un, .sh (.int (1 + (j : Int))), .ks (((M.take n).foldl (fun acc row => putS acc (psort (base ++ row))) A).map kD), .sh (kD known), .ow false (.lst (prs (F known))), .ow false (.lst (prs base)), s10, .sh (.int most), .sh (.lst (M.map kD)), s13, s14] ∧ s14.free = true) ⟨_, rfl, f14⟩ ?_ ?_
              · rintro n d ρ' hn ⟨s14, rfl, f14⟩
                rw [List.getElem?_map] at hn
                obtain ⟨row, hx, ed⟩ := Option.map_eq_some_iff.mp hn
                subst ed
                have hr9 := hm2 row (List.mem_of_getElem? hx)
                have etm : (M.take (n + 1)).foldl (fun acc row => putS acc (psort (base ++ row))) A = putS ((M.take n).foldl (fun acc row => putS acc (psort (base ++ row))) A) (psort (base ++ row)) := by rw [List.take_add_one, hx, List.foldl_append]; rfl
                have hl1 := Nat.le_trans (grow_take (fun acc row => putS acc (psort (base ++ row))) (fun a x => putS_len a _) M A n) hfl
                rw [etm]
                generalize (M.take n).foldl (fun acc row => putS acc (psort (base ++ row))) A = B at hl1
                walk_at "ss"
                refine u_putKs rfl ?_
                walk_at "ss"
                refine p_listT ?_
                walk_at "ss"
                refine p_addL (by rw [prs_len, prs_len]; exact small16' (by omega)) ?_
                rw [← prs_app]
                walk_at "ss"
                refine p_sortPP ?_
                walk_at "ss"
                refine p_tupleL ?_
                walk_at "ss"
                refine k_putKs rfl (kD_key _) (by rw [List.length_map]; exact small16 (by omega)) ?_
                exact ⟨_, by rw [← putS_kD]; rfl, rfl⟩
              · rintro ρ' ⟨s14, rfl, f14⟩
                rw [List.length_map, List.take_length]
                exact ⟨_, _, _, _, _, _, _, _, rfl, ⟨rfl, rfl, rfl⟩, f10, rfl, rfl, f13, f14⟩
    · rintro ρ' ⟨s7, s8, s9, s10, s11, s12, s13, s14, rfl, ⟨f7, f8, f9⟩, f10, f11, f12, f13, f14⟩
      rw [List.length_map, List.take_length]
      walk_at "ss"
      refine u_inKs rfl rfl (kD_key _) ?_
      walk_at "ss"
      by_cases hin : psort looks ∈ S.foldl (freshOf looks F w) []
      · rw [decide_eq_true (mem_kD.mpr hin)]
        rw [if_pos hin] at eg
        walk_at "ss"
        rw [eg]
        exact q
      · rw [decide_eq_false fun z => hin (mem_kD.mp z)]
        rw [if_neg hin] at eg
        walk_at "ss"
        refine u_mvKs rfl ?_
        walk_at "ss"
        have en : looks.length - (j + 1) = m := by omega
        exact ⟨_, _, _, _, _, _, _, _, _, _, _, rfl, ⟨rfl, rfl, f7, f8, f9⟩, ⟨f10, f11, f12, f13, f14⟩, by rw [en]; exact eo3 hin, by rw [en, ← eg, show (1 : Int) + ((j + 1 : Nat) : Int) = 1 + (j : Int) + 1 by omega]⟩
  · rintro ρ' ⟨S, s5, s6, s7, s8, s9, s10, s11, s12, s13, s14, rfl, ⟨f5, f6, f7, f8, f9⟩, ⟨f10, f11, f12, f13, f14⟩, eo, eg⟩
    rw [show (rangeD 1 looks.length).length = looks.length by unfold rangeD; simp, Nat.sub_self] at eg
    have eg : (looks.length : Int) = eT looks F w := eg
    walk_at "ss"
    rw [hln, eg]
    exact q
end WL

set_option Elab.async false
set_option linter.all false
set_option maxRecDepth 100000
set_option maxHeartbeats 4000000
namespace WL
open PySem PySem.Spec PyProof.Rows L2
variable [TBs]
local macro_rules | `(tactic| walk_at "s") => `(tactic| first
  | ((with_reducible show vSeq _ _ _ _); refine u_seq ?_)
  | ((with_reducible show vSet _ _ _ _); refine u_set ?_)
  | ((with_reducible show kSet _ _ _ _); (first | refine k_set rfl rfl ?_ | refine k_set rfl (by assumption) ?_))
  | ((with_reducible show vRet _ _ _); refine u_ret ?_)
  | ((with_reducible show vIf _ _ _ _ _); refine u_if ?_)
  | ((with_reducible show vExpr _ _ _); refine u_expr ?_)
  | ((with_reducible show kExpr _ _ _); refine k_expr ?_)
  | ((with_reducible show vRetN _ _); refine u_retN ?_)
  | ((with_reducible show vAsg _ _ _ _); refine u_asg ?_)
  | ((with_reducible show kAsg _ _ _ _); refine k_asg rfl ?_)
  | ((with_reducible show vNext _ _); refine u_next ?_)
  | ((with_reducible show vBreak _ _); refine u_break ?_)
  | ((with_reducible show vCont _ _); refine u_cont ?_)
  | ((with_reducible show kIf _ _ _ _ _); (first | refine k_ifT ?_ | refine k_ifF ?_))
  | ((with_reducible show vVal _ _ _); refine u_val ?_)
  | ((with_reducible show kVal _ _ _); refine k_val ?_)
  | ((with_reducible show vPk _ _ _); refine u_pk rfl rfl ?_)
  | ((with_reducible show vC _ _ _); refine u_c ?_)
  | ((with_reducible show vVar _ _ _); (first | refine u_var rfl ?_ | refine u_varL rfl ?_ | refine u_varD rfl ?_ | refine u_varE rfl ?_))
  | ((with_reducible show vMv _ _ _); (first | refine u_mv rfl ?_ | refine u_mvO rfl ?_))
  | ((with_reducible show vBin _ _ _ _ _); refine u_bin ?_)
  | ((with_reducible show kBin1 _ _ _ _ _); refine k_bin1 ?_)
  | ((with_reducible show kBin2 _ _ _ _ _); refine k_bin2 rfl rfl ?_)
  | ((with_reducible show vUn _ _ _ _); refine u_un ?_)
  | ((with_reducible show kUn _ _ _ _); refine k_un rfl ?_)
  | ((with_reducible show vCons _ _ _ _); refine u_cons ?_)
  | ((with_reducible show kCons1 _ _ _ _); refine k_cons1 ?_)
  | ((with_reducible show vNil _ _); refine u_nil ?_)
  | ((with_reducible show kCons2 _ _ _ _); refine k_cons2 ?_)
  | ((with_reducible show vPrim _ _ _ _); refine u_prim ?_)
  | ((with_reducible show kPrim _ _ _ _); (first | refine k_prim1 rfl ?_ | refine k_prim2 rfl rfl ?_))
  | ((with_reducible show kRet _ _ _); (first | refine k_retV ?_ | refine k_retL ?_ | refine k_retT ?_ | refine k_retD ?_))
  | ((with_reducible show vSh _ _ _); refine u_sh ?_)
  | ((with_reducible show kSh _ _ _); (first | refine k_sh ?_ | refine k_shL ?_ | refine k_shD ?_))
  | ((with_reducible show vT _ _ _); refine u_t ?_)
  | ((with_reducible show kT _ _ _); refine k_t ?_)
  | ((with_reducible show vTru _ _ _); refine u_tru ?_)
  | ((with_reducible show kTru _ _ _); refine k_tru rfl rfl ?_)
  | ((with_reducible show vAnd _ _ _ _); refine u_and ?_)
  | ((with_reducible show kAnd _ _ _ _); (first | refine k_andT ?_ | refine k_andF ?_))
  | ((with_reducible show vOr _ _ _ _); refine u_or ?_)
  | ((with_reducible show kOr _ _ _ _); (first | refine k_orT ?_ | refine k_orF ?_))
  | ((with_reducible show vNot _ _ _); refine u_not ?_)
  | ((with_reducible show kNot _ _ _); refine k_not ?_)
  | ((with_reducible show vAndV _ _ _ _); refine u_andV ?_)
  | ((with_reducible show kAndV _ _ _ _); (first | refine k_andVT ?_ | refine k_andVF ?_))
  | ((with_reducible show kOrV _ _ _ _); (first | refine k_orVT ?_ | refine k_orVF ?_))
  | ((with_reducible show vOrV _ _ _ _); refine u_orV ?_)
  | ((with_reducible show vNotV _ _ _); refine u_notV ?_)
  | ((with_reducible show kNotV _ _ _); refine k_notV ?_)
  | ((with_reducible show vIfE _ _ _ _ _); refine u_ifE ?_)
  | ((with_reducible show kIfE _ _ _ _ _); (first | refine k_ifET ?_ | refine k_ifEF ?_))
  | ((with_reducible show vLst _ _ _); refine u_lst ?_)
  | ((with_reducible show kLst _ _ _); refine k_lst rfl (by simp only [List.length_cons, List.length_nil]; decide) ?_)
  | ((with_reducible show vTup _ _ _); refine u_tup ?_)
  | ((with_reducible show kTup _ _ _); refine k_tup rfl (by simp only [List.length_cons, List.length_nil]; decide) ?_)
  | ((with_reducible show vNewD _ _); refine u_newD ?_)
  | ((with_reducible show vSl _ _ _ _ _); refine u_sl ?_)
  | ((with_reducible show kSl0 _ _ _ _ _); refine k_sl0 ?_)
  | ((with_reducible show kSl1 _ _ _ _ _); refine k_sl1 ?_)
  | ((with_reducible show kSl2 _ _ _ _ _); refine k_sl2 rfl ?_)
  | ((with_reducible show vNoPart _ _); refine u_noPart ?_)
  | ((with_reducible show vPart _ _ _); refine u_part ?_)
  | ((with_reducible show kPart _ _ _); refine k_part ?_)
  | ((with_reducible show vApp _ _ _ _); refine u_app rfl ?_)
  | ((with_reducible show vPopAt _ _ _ _); refine u_popAt rfl ?_)
  | ((with_reducible show vExt _ _ _ _); refine u_ext rfl ?_)
  | ((with_reducible show vM1 _ _ _ _ _); refine u_m1 ?_)
  | ((with_reducible show kM1a _ _ _ _ _); refine k_m1a rfl ?_)
  | ((with_reducible show kM1b _ _ _ _ _); refine k_m1b rfl rfl ?_)
  | ((with_reducible show vGet2 _ _ _ _ _); refine u_get2 ?_)
  | ((with_reducible show kGet1 _ _ _ _ _); refine k_get1 rfl ?_)
  | ((with_reducible show kGet2 _ _ _ _ _); refine k_get2 ?_)
  | ((with_reducible show vSetL _ _ _ _ _); refine u_setL ?_)
  | ((with_reducible show kSetL1 _ _ _ _ _); refine k_setL1 rfl ?_)
  | ((with_reducible show kSetL2 _ _ _ _ _); (first | refine k_setL2j 0 rfl rfl (by simp) rfl ?_ | refine k_setL2j 1 rfl rfl (by simp) rfl ?_ | refine k_setL2j 2 rfl rfl (by simp) rfl ?_))
  | ((with_reducible show vPutD _ _ _ _ _); refine u_putD ?_)
  | ((with_reducible show kPutD1 _ _ _ _ _); refine k_putD1 rfl ?_)
  | ((with_reducible show vAugL _ _ _ _ _ _); refine u_augL rfl ?_)
  | ((with_reducible show kAugL1 _ _ _ _ _ _); (first | refine k_augL1j 0 rfl rfl rfl ?_ | refine k_augL1j 1 rfl rfl rfl ?_ | refine k_augL1j 2 rfl rfl rfl ?_))
  | ((with_reducible show kAugL2 _ _ _ _ _ _ _); refine k_augL2j rfl (by simp) ?_)
  | ((with_reducible show vAug _ _ _ _ _); refine u_aug rfl ?_)
  | ((with_reducible show kAug _ _ _ _ _ _); (first | refine k_augAdd rfl ?_ | refine k_augSub rfl ?_))
  | ((with_reducible show vCall _ _ _ _); refine u_call ?_)
  | ((with_reducible show gN _ _ _ _); (first | refine u_gN rfl rfl ?_ | refine u_gN rfl (by assumption) ?_))
  | ((with_reducible show gT _ _ _ _); refine u_gT rfl ?_)
  | ((with_reducible show gL _ _ _ _); refine u_gL rfl rfl ?_)
  | ((with_reducible show gTs _ _ _ _); (first | refine u_gTs0 ?_ | refine u_gTs ?_))
  | ((with_reducible show vItL _ _ _); refine u_itL ?_)
  | ((with_reducible show kItL _ _ _); refine k_itL rfl rfl ?_)
  | ((with_reducible show vItT _ _ _); refine u_itT ?_)
  | ((with_reducible show kItT _ _ _); refine k_itT rfl rfl ?_)
  | ((with_reducible show vItR1 _ _ _); refine u_itR1 ?_)
  | ((with_reducible show vItR2 _ _ _); refine u_itR2 ?_)
  | ((with_reducible show vFor _ _ _ _ _); refine u_for ?_)
  | ((with_reducible show vLc _ _ _ _ _ _ _); refine u_lc ?_)
  | ((with_reducible show vLcK _ _ _ _ _ _ _); refine u_lcK rfl ?_)
  | ((with_reducible show vYes _ _); refine u_yes ?_)
  | ((with_reducible show kLcT _ _ _ _ _ _); refine k_lcTT ?_)
  | ((with_reducible show addP _ _); refine p_addI ?_)
  | ((with_reducible show subP _ _); refine p_subI ?_)
  | ((with_reducible show mulP _ _); (first | refine p_mulI (.inl (.inl (by omega))) ?_ | refine p_mulI (.inl (.inr (by omega))) ?_))
  | ((with_reducible show modP _ _); refine p_modI (by omega) ?_)
  | ((with_reducible show divP _ _); refine p_divI (.inl (by constructor <;> omega)) ?_)
  | ((with_reducible show negP _ _); refine p_negI ?_)
  | ((with_reducible show ltP _ _); refine p_ltI ?_)
  | ((with_reducible show leP _ _); refine p_leI ?_)
  | ((with_reducible show gtP _ _); refine p_gtI ?_)
  | ((with_reducible show geP _ _); refine p_geI ?_)
  | ((with_reducible show eqP _ _); (first | refine p_eqI ?_ | refine p_eqS ?_ | refine p_eqB ?_ | refine p_eqN ?_))
  | ((with_reducible show neP _ _); (first | refine p_neI ?_ | refine p_neS ?_ | refine p_neB ?_))
  | ((with_reducible show isNP _ _); (first | refine p_isNn ?_ | refine p_isNi ?_ | refine p_isNs ?_ | refine p_isNb ?_ | refine p_isNl ?_ | refine p_isNt ?_ | refine p_isNd ?_))
  | ((with_reducible show notNP _ _); (first | refine p_notNn ?_ | refine p_notNi ?_ | refine p_notNs ?_ | refine p_notNb ?_ | refine p_notNl ?_ | refine p_notNt ?_ | refine p_notNd ?_))
  | ((with_reducible show isiP _ _); refine p_isi rfl rfl ?_)
  | ((with_reducible show isiTP _ _); refine p_isiT rfl rfl ?_)
  | ((with_reducible show reprP _ _); (first | refine p_reprB ?_ | refine p_reprN ?_))
  | ((with_reducible show lenP _ _); (first | refine p_lenL ?_ | refine p_lenF ?_ | refine p_lenT ?_ | refine p_lenD ?_))
  | ((with_reducible show absP _ _); refine p_absI ?_)
  | ((with_reducible show intP _ _); refine p_intI ?_)
  | ((with_reducible show listP _ _); (first | refine p_listL ?_ | refine p_listF ?_ | refine p_listD ?_))
  | ((with_reducible show ixP _ _); (first | refine p_ixLj 0 rfl rfl ?_ | refine p_ixLj 1 rfl rfl ?_ | refine p_ixLj 2 rfl rfl ?_ | refine p_ixLj 3 rfl rfl ?_ | refine p_ixTj 0 rfl rfl ?_ | refine p_ixTj 1 rfl rfl ?_ | refine p_ixTj 2 rfl rfl ?_ | refine p_ixTj 3 rfl rfl ?_))
  | ((with_reducible show inP _ _ _); (first | refine p_inS0 ?_ | refine p_inS1 ?_ | refine p_inI0 ?_ | refine p_inI1 ?_ | refine p_inD0 rfl ?_ | refine p_inD1 rfl ?_))
  | ((with_reducible show slP _ _ _ _); (first | refine p_slL ?_ | refine p_slF ?_))
  | ((with_reducible show sumP _ _); refine p_sum ?_)
  | ((with_reducible show maxP _ _); refine p_max2 ?_)
  | ((with_reducible show minP _ _); refine p_min2 ?_)
  | ((with_reducible show allP _ _); refine p_all ?_)
  | ((with_reducible show anyP _ _); refine p_any ?_))
local macro_rules | `(tactic| walk_at "ss") => `(tactic| repeat walk_at "s")
local macro_rules | `(tactic| walk_at "back") => `(tactic| refine k_back ?_ (by dsimp only [takeBack, backS, List.set, List.getElem?_cons_zero, List.getElem?_cons_succ]))
local macro_rules | `(tactic| walk_at "s") => `(tactic| first
  | ((with_reducible show vCallX _ _ _ _ _); refine u_callX ?_)
  | ((with_reducible show vRaise _ _ _ _ _ _); refine u_raise ?_)
  | ((with_reducible show kRaise _ _ _ _ _); refine k_raise rfl rfl (by simp) ?_)
  | ((with_reducible show vNewKs _ _); refine u_newKs ?_))
/-! K26J: laid beat by beat. -/
theorem set_perm : ∀ (F : List Int) (i : Nat) (m v : Int), F[i]? = some m → ∃ G, F.Perm (m :: G) ∧ (F.set i v).Perm (v :: G)
  | [], i, m, v, h => by simp at h
  | x :: F, 0, m, v, h => by
    simp at h; subst h
    exact ⟨F, .refl _, .refl _⟩
  | x :: F, i + 1, m, v, h => by
    obtain ⟨G, h1, h2⟩ := set_perm F i m v (by simpa using h)
    exact ⟨x :: G, (h1.cons x).trans (.swap m x G), (h2.cons x).trans (.swap v x G)⟩
theorem hStep_perm {F G : List Int} {m : Int} (l : Int) (h : F.Perm (m :: G)) (hm : ∀ y ∈ G, m ≤ y) : (hStep F l).Perm ((m + l) :: G) := by
  have hne : F ≠ [] := fun z => by rw [z] at h; have := h.length_eq; simp at this
  obtain ⟨m', h1, h2, _⟩ := minIx_spec hne
  have e : m' = m := by
    have a1 := h2 m (h.mem_iff.mpr (List.mem_cons_self ..))
    rcases List.mem_cons.mp (h.mem_iff.mp (List.mem_of_getElem? h1)) with e | e
    · exact e
    · have := hm m' e; omega
  subst e
  obtain ⟨G', p1, p2⟩ := set_perm F (minIx F) m' (m' + l) h1
  unfold hStep
  rw [List.getD_eq_getElem?_getD, h1]
  exact p2.trans (((List.perm_cons _).mp (p1.symm.trans h)).cons _)
theorem hStep_perm2 {F F' : List Int} (l : Int) (h : F.Perm F') : (hStep F l).Perm (hStep F' l) := by
  by_cases hne : F' = []
  · subst hne
    rw [List.perm_nil.mp h]
  · obtain ⟨m, h1, h2, _⟩ := minIx_spec hne
    obtain ⟨G, p1, _⟩ := set_perm F' (minIx F') m 0 h1
    have hG : ∀ y ∈ G, m ≤ y := fun y hy => h2 y (p1.mem_iff.mpr (List.mem_cons_of_mem _ hy))
    exact (hStep_perm l (h.trans p1) hG).trans (hStep_perm l p1 hG).symm
theorem fold_perm : ∀ (L : List Int) {F F' : List Int}, F.Perm F' → (L.foldl hStep F).Perm (L.foldl hStep F')
  | [], _, _, h => h
  | l :: L, _, _, h => fold_perm L (hStep_perm2 l h)
theorem hStep_zero (F : List Int) : hStep F 0 = F := by
  by_cases hne : F = []
  · subst hne; rfl
  · obtain ⟨m, h1, _⟩ := minIx_spec hne
    unfold hStep
    rw [List.getD_eq_getElem?_getD, h1]
    show F.set (minIx F) (m + 0) = F
    rw [Int.add_zero]
    obtain ⟨hl, e⟩ := List.getElem?_eq_some_iff.mp h1
    rw [← e, List.set_getElem_self]
theorem fold_filt {α : Type} (p : α → Bool) (g : α → Int) : ∀ (L : List α) (F : List Int), (∀ i ∈ L, p i = false → g i = 0) → (L.map g).foldl hStep F = ((L.filter p).map g).foldl hStep F
  | [], _, _ => rfl
  | x :: L, F, h => by
    have ih := fun F => fold_filt p g L F fun i hi => h i (List.mem_cons_of_mem _ hi)
    cases e : p x with
    | true => rw [List.filter_cons_of_pos e, List.map_cons, List.map_cons, List.foldl_cons, List.foldl_cons, ih]
    | false => rw [List.filter_cons_of_neg (by rw [e]; exact Bool.false_ne_true), List.map_cons, List.foldl_cons, h x (List.mem_cons_self ..) e, hStep_zero, ih]
/-- the free hands are filled first -/
theorem fold_fill : ∀ (xs A F : List Int) (z : Nat), F.Perm (A ++ List.replicate z 0) → (∀ a ∈ A, 0 ≤ a) → (∀ x ∈ xs, 0 ≤ x) → xs.length ≤ z → (xs.foldl hStep F).Perm (xs ++ A ++ List.replicate (z - xs.length) 0)
  | [], A, F, z, h, _, _, _ => by simpa using h
  | x :: xs, A, F, 0, _, _, _, hz => by simp at hz
  | x :: xs, A, F, z + 1, h, hA, hx, hz => by
    have p1 : F.Perm (0 :: (A ++ List.replicate z 0)) := by
      refine h.trans ?_
      rw [List.replicate_succ]
      exact List.perm_middle
    have p2 : (hStep F x).Perm ((x :: A) ++ List.replicate z 0) := by
      have := hStep_perm x p1 fun y hy => by
        rcases List.mem_append.mp hy with hy | hy
        · exact hA y hy
        · rw [(List.mem_replicate.mp hy).2]; exact Int.le_refl _
      rw [Int.zero_add] at this
      exact this
    have ih := fold_fill xs (x :: A) (hStep F x) z p2 (fun a ha => by
      rcases List.mem_cons.mp ha with rfl | ha
      · exact hx _ (List.mem_cons_self ..)
      · exact hA a ha) (fun y hy => hx y (List.mem_cons_of_mem _ hy)) (by simp at hz; omega)
    rw [List.foldl_cons, List.length_cons, Nat.add_sub_add_right]
    refine ih.trans ?_
    exact List.Perm.append_right _ List.perm_middle
theorem minIx_shift (s : Int) : ∀ F : List Int, minIx (F.map fun x => x - s) = minIx F := fun F => by
  by_cases hne : F = []
  · subst hne; rfl
  · obtain ⟨m, h1, h2, h3⟩ := minIx_spec hne
    refine minIx_eq (m := m - s) (List.mem_map.mpr ⟨m, List.mem_of_getElem? h1, rfl⟩) (fun y hy => ?_) (by rw [List.getElem?_map, h1]; rfl) fun i hi z => ?_
    · obtain ⟨x, hx, rfl⟩ := List.mem_map.mp hy
      have := h2 x hx
      omega
    · rw [List.getElem?_map] at z
      obtain ⟨x, hx, e⟩ := Option.map_eq_some_iff.mp z
      have : x = m := by omega
      exact h3 i hi (this ▸ hx)
theorem hStep_shift (s l : Int) (F : List Int) : hStep (F.map fun x => x - s) l = (hStep F l).map fun x => x - s := by
  by_cases hne : F = []
  · subst hne; rfl
  · obtain ⟨m, h1, _⟩ := minIx_spec hne
    unfold hStep
    rw [minIx_shift, List.map_set, List.getD_eq_getElem?_getD, List.getD_eq_getElem?_getD, List.getElem?_map, h1]
    show (F.map _).set (minIx F) (m - s + l) = (F.map _).set (minIx F) (m + l - s)
    rw [show m - s + l = m + l - s by omega]
theorem fold_shift (s : Int) : ∀ (L F : List Int), L.foldl hStep (F.map fun x => x - s) = (L.foldl hStep F).map fun x => x - s
  | [], _ => rfl
  | l :: L, F => by rw [List.foldl_cons, List.foldl_cons, hStep_shift, fold_shift s L]
theorem max_perm {c : Int} {F F' : List Int} (h : F.Perm F') : maxD0 c F = maxD0 c F' := by
  by_cases hne : F' = []
  · subst hne; rw [List.perm_nil.mp h]
  · obtain ⟨h1, h2⟩ := maxD0_le (c := c) (ns := F')
    exact maxD0_uniq (h.mem_iff.mpr (h2 hne)) fun y hy => h1 y (h.mem_iff.mp hy)
theorem max_shift {c s : Int} {F : List Int} (hne : F ≠ []) : maxD0 c (F.map fun x => x - s) = maxD0 c F - s := by
  obtain ⟨h1, h2⟩ := maxD0_le (c := c) (ns := F)
  refine maxD0_uniq (List.mem_map.mpr ⟨_, h2 hne, rfl⟩) fun y hy => ?_
  obtain ⟨x, hx, rfl⟩ := List.mem_map.mp hy
  have := h1 x hx
  omega
theorem max_zeros {F : List Int} {z : Nat} (hne : F ≠ []) (h0 : ∀ x ∈ F, 0 ≤ x) : maxD0 0 (F ++ List.replicate z 0) = maxD0 0 F := by
  obtain ⟨h1, h2⟩ := maxD0_le (c := 0) (ns := F)
  refine maxD0_uniq (List.mem_append.mpr (.inl (h2 hne))) fun y hy => ?_
  rcases List.mem_append.mp hy with hy | hy
  · exact h1 y hy
  · rw [(List.mem_replicate.mp hy).2]; exact h0 _ (h2 hne)
/-- a step: the first k of what is left, all by the least of them -/
theorem hT_step {P : List Int} {k : Nat} {s : Int} (hk : 0 < k) (hP : P ≠ []) (h0 : ∀ x ∈ P, 0 ≤ x) (s0 : 0 ≤ s) (hs : ∀ x ∈ P.take k, s ≤ x) :
    maxD0 0 (P.foldl hStep (List.replicate k 0)) = s + maxD0 0 (((P.take k).map (fun x => x - s) ++ P.drop k).foldl hStep (List.replicate k 0)) := by
  have hA0 : ∀ x ∈ P.take k, 0 ≤ x := fun x hx => h0 x (List.mem_of_mem_take hx)
  have hA1 : ∀ x ∈ (P.take k).map (fun x => x - s), 0 ≤ x := fun x hx => by
    obtain ⟨y, hy, rfl⟩ := List.mem_map.mp hx
    have := hs y hy
    omega
  have hl : (P.take k).length ≤ k := by rw [List.length_take]; omega
  have p1 := fold_fill (P.take k) [] (List.replicate k 0) k (.refl _) (fun a ha => by cases ha) hA0 hl
  have p2 := fold_fill ((P.take k).map fun x => x - s) [] (List.replicate k 0) k (.refl _) (fun a ha => by cases ha) hA1 (by rw [List.length_map]; exact hl)
  rw [List.append_nil] at p1 p2
  rw [List.length_map] at p2
  have hne : P.take k ≠ [] := fun z => by
    have := congrArg List.length z
    rw [List.length_take, List.length_nil] at this
    have : P.length ≠ 0 := fun z => hP (List.length_eq_zero_iff.mp z)
    omega
  rw [List.foldl_append]
  conv => lhs; rw [← List.take_append_drop k P, List.foldl_append]
  by_cases hd : k ≤ P.length
  · have hz : (P.take k).length = k := by rw [List.length_take]; omega
    rw [hz, Nat.sub_self, List.replicate_zero, List.append_nil] at p1 p2
    rw [max_perm (fold_perm (P.drop k) p1), max_perm (fold_perm (P.drop k) p2), fold_shift, max_shift]
    · omega
    · intro z
      have := foldl_len (P.drop k) (P.take k)
      rw [z, hz] at this
      simp at this; omega
  · rw [List.drop_of_length_le (by omega)]
    show maxD0 0 ((P.take k).foldl hStep _) = s + maxD0 0 (((P.take k).map _).foldl hStep _)
    rw [max_perm p1, max_perm p2, max_zeros hne hA0, max_zeros (fun z => hne (List.map_eq_nil_iff.mp z)) hA1, max_shift hne]
    omega
/-- the places of what is left -/
def idxP (g : Nat → Int) (n : Nat) : List Nat := (List.range n).filter fun i => decide (0 < g i)
def redu (g : Nat → Int) (B : List Nat) (s : Int) : Nat → Int := fun i => if i ∈ B then g i - s else g i
theorem idx_mem {g : Nat → Int} {n i : Nat} : i ∈ idxP g n ↔ i < n ∧ 0 < g i := by unfold idxP; simp
theorem idx_nodup (g : Nat → Int) (n : Nat) : (idxP g n).Nodup := List.Nodup.sublist List.filter_sublist List.nodup_range
theorem laid_step {g : Nat → Int} {n : Nat} {k : Int} {s : Int} {B : List Nat} (hk : 0 ≤ k) (hB : B = if 0 < k then (idxP g n).take k.toNat else idxP g n) (h0 : ∀ i, i < n → 0 ≤ g i) (hne : idxP g n ≠ []) (s0 : 0 ≤ s) (hs : ∀ i ∈ B, s ≤ g i) :
    hT ((List.range n).map g) k = s + hT ((List.range n).map (redu g B s)) k := by
  by_cases e : k = 0
  · subst e
    unfold hT
    rw [if_pos rfl, if_pos rfl]
    rw [if_neg (by omega)] at hB
    obtain ⟨i0, hi0⟩ : ∃ i, i ∈ idxP g n := by
      cases hh : idxP g n with
      | nil => exact absurd hh hne
      | cons a l => exact ⟨a, List.mem_cons_self ..⟩
    obtain ⟨hin, hi1⟩ := idx_mem.mp hi0
    have hr : (List.range n).map g ≠ [] := fun z => by
      have := congrArg List.length z
      simp at this; omega
    obtain ⟨h1, h2⟩ := maxD0_le (c := 0) (ns := (List.range n).map g)
    obtain ⟨j, hj, ej⟩ := List.mem_map.mp (h2 hr)
    have hjn : j < n := List.mem_range.mp hj
    have hm : g i0 ≤ maxD0 0 ((List.range n).map g) := h1 _ (List.mem_map.mpr ⟨i0, List.mem_range.mpr hin, rfl⟩)
    have hjB : j ∈ B := by rw [hB]; exact idx_mem.mpr ⟨hjn, by omega⟩
    have : maxD0 0 ((List.range n).map (redu g B s)) = g j - s := by
      refine maxD0_uniq (List.mem_map.mpr ⟨j, hj, by unfold redu; rw [if_pos hjB]⟩) fun y hy => ?_
      obtain ⟨i, hi, rfl⟩ := List.mem_map.mp hy
      have hin := List.mem_range.mp hi
      have hle := h1 _ (List.mem_map.mpr ⟨i, hi, rfl⟩)
      unfold redu
      split
      · omega
      · rename_i hni
        rw [hB] at hni
        have : ¬ 0 < g i := fun z => hni (idx_mem.mpr ⟨hin, z⟩)
        have := hs j hjB
        omega
    rw [this]; omega
  · have hk1 : 0 < k := by omega
    have hk2 : 0 < k.toNat := by omega
    rw [if_pos hk1] at hB
    unfold hT
    rw [if_neg e, if_neg e]
    have f1 := fold_filt (fun i => decide (0 < g i)) g (List.range n) (List.replicate k.toNat 0) fun i hi hp => by
      have := h0 i (List.mem_range.mp hi)
      have := of_decide_eq_false hp
      omega
    have f2 := fold_filt (fun i => decide (0 < g i)) (redu g B s) (List.range n) (List.replicate k.toNat 0) fun i hi hp => by
      have := h0 i (List.mem_range.mp hi)
      have hn := of_decide_eq_false hp
      unfold redu
      rw [if_neg]
      · omega
      · intro z
        rw [hB] at z
        exact hn (idx_mem.mp (List.mem_of_mem_take z)).2
    rw [f1, f2]
    have e2 : ((List.range n).filter fun i => decide (0 < g i)).map (redu g B s) = (((idxP g n).map g).take k.toNat).map (fun x => x - s) ++ ((idxP g n).map g).drop k.toNat := by
      show (idxP g n).map _ = _
      have nd := idx_nodup g n
      conv => lhs; rw [← List.take_append_drop k.toNat (idxP g n)]
      rw [List.map_append, ← List.map_take, ← List.map_drop, List.map_map]
      congr 1
      · refine List.map_congr_left fun i hi => ?_
        unfold redu
        rw [if_pos (by rw [hB]; exact hi)]; rfl
      · refine List.map_congr_left fun i hi => ?_
        unfold redu
        rw [if_neg]
        rw [hB]
        intro z
        rw [← List.take_append_drop k.toNat (idxP g n)] at nd
        exact (List.nodup_append.mp nd).2.2 i z i hi rfl
    rw [e2]
    refine hT_step hk2 (fun z => hne (List.map_eq_nil_iff.mp z)) (fun x hx => ?_) s0 fun x hx => ?_
    · obtain ⟨i, hi, rfl⟩ := List.mem_map.mp hx
      exact h0 i (idx_mem.mp hi).1
    · rw [← List.map_take] at hx
      obtain ⟨i, hi, rfl⟩ := List.mem_map.mp hx
      exact hs i (by rw [hB]; exact hi)
theorem sum_le0 {α : Type} (g : α → Int) : ∀ L : List α, (∀ i ∈ L, 0 ≤ g i) → (L.map g).sum ≤ 0 → ∀ i ∈ L, g i = 0
  | [], _, _, i, hi => by cases hi
  | x :: L, h, hs, i, hi => by
    rw [List.map_cons, List.sum_cons] at hs
    have hx := h x (List.mem_cons_self ..)
    have h' : ∀ i ∈ L, 0 ≤ g i := fun i hi => h i (List.mem_cons_of_mem _ hi)
    have hn : 0 ≤ (L.map g).sum := by
      clear hs hi h
      induction L with
      | nil => exact Int.le_refl _
      | cons y L ih =>
        rw [List.map_cons, List.sum_cons]
        have := h' y (List.mem_cons_self ..)
        have := ih fun i hi => h' i (List.mem_cons_of_mem _ hi)
        omega
    rcases List.mem_cons.mp hi with rfl | hi
    · omega
    · exact sum_le0 g L h' (by omega) i hi
theorem sum_mono {α : Type} (g g' : α → Int) : ∀ L : List α, (∀ i ∈ L, g' i ≤ g i) → (L.map g').sum ≤ (L.map g).sum
  | [], _ => Int.le_refl _
  | x :: L, h => by
    rw [List.map_cons, List.sum_cons, List.map_cons, List.sum_cons]
    have := h x (List.mem_cons_self ..)
    have := sum_mono g g' L fun i hi => h i (List.mem_cons_of_mem _ hi)
    omega
theorem sum_less {α : Type} (g g' : α → Int) : ∀ L : List α, (∀ i ∈ L, g' i ≤ g i) → ∀ i ∈ L, g' i < g i → (L.map g').sum < (L.map g).sum
  | [], _, i, hi, _ => by cases hi
  | x :: L, h, i, hi, hlt => by
    rw [List.map_cons, List.sum_cons, List.map_cons, List.sum_cons]
    have hx := h x (List.mem_cons_self ..)
    have h' : ∀ i ∈ L, g' i ≤ g i := fun i hi => h i (List.mem_cons_of_mem _ hi)
    rcases List.mem_cons.mp hi with rfl | hi
    · have := sum_mono g g' L h'; omega
    · have := sum_less g g' L h' i hi hlt; omega
theorem hT_zero {g : Nat → Int} {n : Nat} {k : Int} (h : ∀ i, i < n → g i = 0) : hT ((List.range n).map g) k = 0 := by
  have e : (List.range n).map g = List.replicate n 0 := by
    rw [List.eq_replicate_iff]
    refine ⟨by simp, fun b hb => ?_⟩
    obtain ⟨i, hi, rfl⟩ := List.mem_map.mp hb
    exact h i (List.mem_range.mp hi)
  have hz : ∀ m, maxD0 0 (List.replicate m 0) = 0 := fun m => by
    cases m with
    | zero => rfl
    | succ m => exact maxD0_uniq (List.mem_replicate.mpr ⟨by omega, rfl⟩) fun y hy => by rw [(List.mem_replicate.mp hy).2]; exact Int.le_refl _
  have hf : ∀ (m : Nat) (F : List Int), (List.replicate m 0).foldl hStep F = F := fun m => by
    induction m with
    | zero => intro F; rfl
    | succ m ih => intro F; rw [List.replicate_succ, List.foldl_cons, hStep_zero, ih]
  unfold hT
  rw [e]
  split
  · exact hz n
  · rw [hf]; exact hz _
/-- one more of the row is done -/
theorem redu_set {g : Nat → Int} {n : Nat} {s : Int} {B : List Nat} {j i : Nat} (hB : B.Nodup) (hj : B[j]? = some i) (hi : i < n) :
    ((List.range n).map (redu g (B.take j) s)).set i (g i - s) = (List.range n).map (redu g (B.take (j + 1)) s) := by
  have e : B.take (j + 1) = B.take j ++ [i] := by rw [List.take_add_one, hj]; rfl
  refine List.ext_getElem (by simp) fun x h1 h2 => ?_
  rw [List.getElem_set]
  simp only [List.getElem_map, List.getElem_range]
  by_cases hx : i = x
  · subst hx
    rw [if_pos rfl]
    unfold redu
    rw [if_pos (by rw [e]; simp)]
  · rw [if_neg hx]
    unfold redu
    have : (x ∈ B.take (j + 1)) ↔ x ∈ B.take j := by
      rw [e, List.mem_append, List.mem_singleton]
      exact ⟨fun h => h.elim id fun z => absurd z.symm hx, .inl⟩
    by_cases hm : x ∈ B.take j
    · rw [if_pos hm, if_pos (this.mpr hm)]
    · rw [if_neg hm, if_neg (fun z => hm (this.mp z))]
theorem redu_at {g : Nat → Int} {s : Int} {B : List Nat} {j i : Nat} (hB : B.Nodup) (hj : B[j]? = some i) : redu g (B.take j) s i = g i := by
  unfold redu
  rw [if_neg]
  intro z
  obtain ⟨m, hm, e⟩ := List.getElem_of_mem z
  rw [List.getElem_take] at e
  have hjl := (List.getElem?_eq_some_iff.mp hj)
  have hm2 := hm
  rw [List.length_take] at hm2
  have : m < j := by omega
  exact (List.pairwise_iff_getElem.mp hB m j (by omega) hjl.1 this) (e.trans hjl.2.symm)
theorem cut_toI {ds : List D} {k : Int} (h : 0 ≤ k) : cutL ds none (some k) = ds.take k.toNat := by
  obtain ⟨m, rfl⟩ : ∃ m : Nat, k = m := ⟨k.toNat, by omega⟩
  unfold cutL
  rw [HT.sIx_nat, show HT.sIx ds.length 0 none = 0 from rfl, List.drop_zero, Nat.sub_zero, Int.toNat_natCast]
  by_cases hm : m ≤ ds.length
  · rw [Nat.min_eq_left hm]
  · rw [Nat.min_eq_right (by omega), List.take_of_length_le (Nat.le_refl _), List.take_of_length_le (by omega)]
theorem laid_tail {ns : List Int} {k t : Int} {g : Nat → Int} {B : List Nat} {s4 s5 : Slot} {nx : Rho → Prop} {rt : Slot → Rho → Prop} {bk ct : Rho → Prop} (hz : ns.length ≤ 100000)
    (h4 : s4 = .ow false (.lst (B.map fun i => D.int (Int.ofNat i))) ∨ s4 = .sh (.lst (B.map fun i => D.int (Int.ofNat i)))) (f5 : s5.free = true) (hne : B ≠ []) (hBn : ∀ i ∈ B, i < ns.length) (hnd : B.Nodup) (hBl : B.length ≤ ns.length)
    (h : ∀ m s4' s5' s6', m ∈ B.map g → (∀ y ∈ B.map g, m ≤ y) → s4'.free = true → s5'.free = true → s6'.free = true → nx [.sh (iL ns), .sh (.int k), .ow false (.lst (((List.range ns.length).map (redu g B m)).map D.int)), .sh (.int (t + m)), s4', s5', s6']) :
    (vSeq (vSet 5 (vPrim minP (vCons (vVal (vLc (vItL (vVar 4)) (gN 6) (vYes) (vBin ixP (vPk 2) (vPk 6)) [6])) (vNil))))
    (vSeq (vFor (vItL (vVar 4)) (gN 6) (vSetL 2 (vVar 6) (vBin subP (vVal (vBin ixP (vPk 2) (vPk 6))) (vPk 5))))
    (vSet 3 (vBin addP (vPk 3) (vPk 5))))) (.mk nx rt bk ct) [.sh (iL ns), .sh (.int k), .ow false (.lst (((List.range ns.length).map g).map D.int)), .sh (.int t), s4, s5, .un] := by
  have main : (vSeq (vSet 5 (vPrim minP (vCons (vVal (vLc (vItL (vVar 4)) (gN 6) (vYes) (vBin ixP (vPk 2) (vPk 6)) [6])) (vNil))))
    (vSeq (vFor (vItL (vVar 4)) (gN 6) (vSetL 2 (vVar 6) (vBin subP (vVal (vBin ixP (vPk 2) (vPk 6))) (vPk 5))))
    (vSet 3 (vBin addP (vPk 3) (vPk 5))))) (.mk nx rt bk ct) [.sh (iL ns), .sh (.int k), .ow false (.lst (((List.range ns.length).map g).map D.int)), .sh (.int t), s4, s5, .un] := by
    have hat : ∀ (g' : Nat → Int) (i : Nat), i ∈ B → (((List.range ns.length).map g').map D.int)[i]? = some (D.int (g' i)) := fun g' i hi => by
      rw [List.getElem?_map, List.getElem?_map, List.getElem?_range (hBn i hi)]; rfl
    rcases h4 with rfl | rfl
    all_goals
      walk_at "ss"
      refine k_lcM B (fun i => D.int (Int.ofNat i)) (fun _ => true) (fun i => D.int (g i)) [.sh (iL ns), .sh (.int k), .ow false (.lst (((List.range ns.length).map g).map D.int)), .sh (.int t), .sh (.lst (B.map fun i => D.int (Int.ofNat i))), s5, .un] rfl (small16 (by omega)) (free1 rfl rfl) rfl ?_ ?_
      · intro i acc I hi _ a1 a2
        walk_at "ss"
        refine p_ixLj i rfl (hat g i hi) ?_
        walk_at "ss"
        exact k_lcE rfl (by assumption) (a1 rfl)
      · rw [filt_true, show (B.map fun i => D.int (g i)) = (B.map g).map D.int by rw [List.map_map]; rfl]
        walk_at "ss"
        refine p_minL (fun z => hne (List.map_eq_nil_iff.mp z)) fun m hm hmin => ?_
        walk_at "ss"
        refine k_for (fun j ρ => ∃ s6, ρ = [.sh (iL ns), .sh (.int k), .ow false (.lst (((List.range ns.length).map (redu g (B.take j) m)).map D.int)), .sh (.int t), .sh (.lst (B.map fun i => D.int (Int.ofNat i))), .sh (.int m), s6] ∧ s6.free = true) ⟨.un, ?_, rfl⟩ ?_ ?_
        · rw [List.take_zero, show redu g [] m = g from funext fun i => by unfold redu; rw [if_neg (by simp)]]
        · rintro j d ρ' hj ⟨s6, rfl, f6⟩
          rw [List.getElem?_map] at hj
          obtain ⟨i, hi, ed⟩ := Option.map_eq_some_iff.mp hj
          subst ed
          have hiB := List.mem_of_getElem? hi
          have hin := hBn i hiB
          walk_at "ss"
          refine p_ixLj i rfl (hat _ i hiB) ?_
          walk_at "ss"
          refine k_setL2j i rfl rfl (by simpa using hin) rfl ?_
          rw [← List.map_set, redu_at hnd hi, redu_set hnd hi hin]
          exact ⟨_, rfl, rfl⟩
        · rintro ρ' ⟨s6, rfl, f6⟩
          rw [show (B.map fun i => D.int (Int.ofNat i)).length = B.length by simp, List.take_length]
          walk_at "ss"
          exact h m _ _ _ hm hmin rfl rfl f6
  exact main
theorem rd_k26_laid : Reads S_k26_laid (fun _ => v_k26_laid) 5 := fun ρs R _ h => by
  obtain ⟨ns, k, rfl, hz, hn, k0, k1, q⟩ := h
  unfold v_k26_laid
  show vSeq _ _ _ [.sh (iL ns), .sh (.int k), .un, .un, .un, .un, .un]
  walk_at "ss"
  have hmap : ∀ g : Nat → Int, ((List.range ns.length).map fun i => D.int (g i)) = ((List.range ns.length).map g).map D.int := fun g => by rw [List.map_map]; rfl
  refine u_while1 (fun m ρ => ∃ (g : Nat → Int) (t : Int) (s4 s5 s6 : Slot), ρ = [.sh (iL ns), .sh (.int k), .ow false (.lst (((List.range ns.length).map g).map D.int)), .sh (.int t), s4, s5, s6] ∧ s4.free = true ∧ s5.free = true ∧ s6.free = true ∧
    (∀ i, i < ns.length → 0 ≤ g i ∧ g i ≤ 100000) ∧ t + hT ((List.range ns.length).map g) k = hT ns k ∧ m = ((List.range ns.length).map g).sum.toNat) (((List.range ns.length).map fun i => ns.getD i 0).sum.toNat)
    ⟨fun i => ns.getD i 0, 0, .un, .un, .un, ?_, rfl, rfl, rfl, ?_, ?_, rfl⟩ ?_
  · have e : ((List.range ns.length).map fun i => ns.getD i 0) = ns := by
      refine List.ext_getElem (by simp) fun i h1 h2 => ?_
      rw [List.getElem_map, List.getElem_range, List.getD_eq_getElem?_getD, List.getElem?_eq_getElem h2]; rfl
    rw [e]
  · intro i hi
    show 0 ≤ ns.getD i 0 ∧ ns.getD i 0 ≤ 100000
    rw [List.getD_eq_getElem?_getD, List.getElem?_eq_getElem hi]
    have := hn ns[i] (List.getElem_mem hi)
    show 0 ≤ ns[i] ∧ ns[i] ≤ 100000
    omega
  · have e : ((List.range ns.length).map fun i => ns.getD i 0) = ns := by
      refine List.ext_getElem (by simp) fun i h1 h2 => ?_
      rw [List.getElem_map, List.getElem_range, List.getD_eq_getElem?_getD, List.getElem?_eq_getElem h2]; rfl
    rw [e]; omega
  rintro m ρ' ⟨g, t, s4, s5, s6, rfl, f4, f5, f6, hg, et, em⟩
  walk_at "ss"
  refine k_while (fun hb => ?_) (fun hb => ?_)
  · have hpos : 0 < ((List.range ns.length).map g).sum := by simpa using hb
    have hne : idxP g ns.length ≠ [] := fun z => by
      have h0 : ∀ i ∈ List.range ns.length, g i = 0 := fun i hi => by
        have hin := List.mem_range.mp hi
        by_cases hp : 0 < g i
        · have := idx_mem.mpr ⟨hin, hp⟩
          rw [z] at this; cases this
        · have := hg i hin; omega
      have : ((List.range ns.length).map g).sum ≤ ((List.range ns.length).map fun _ => (0 : Int)).sum := sum_mono (fun _ => 0) g _ fun i hi => by rw [h0 i hi]; exact Int.le_refl _
      have e0 : ∀ l : List Nat, (l.map fun _ => (0 : Int)).sum = 0 := fun l => by
        induction l with
        | nil => rfl
        | cons x l ih => rw [List.map_cons, List.sum_cons, ih]; rfl
      rw [e0] at this; omega
    walk_at "ss"
    refine k_itR1 rfl (by simp; omega) ?_
    refine k_lcM (List.range ns.length) (fun i => D.int (Int.ofNat i)) (fun i => decide (0 < g i)) (fun i => D.int (Int.ofNat i)) [.sh (iL ns), .sh (.int k), .ow false (.lst (((List.range ns.length).map g).map D.int)), .sh (.int t), s4, s5, .un] (by
      rw [show ((((List.range ns.length).map g).map D.int).length : Int).toNat = ns.length by simp, nat_rangeD]) (small16 (by rw [List.length_range]; omega)) (free1 rfl f6) rfl ?_ ?_
    · intro i acc I hi _ a1 a2
      walk_at "ss"
      refine p_ixLj i rfl (by rw [List.getElem?_map, List.getElem?_map, List.getElem?_range (List.mem_range.mp hi)]; rfl) ?_
      walk_at "ss"
      refine k_lcT (fun hb => ?_) (fun hb => ?_)
      · walk_at "ss"
        exact k_lcE rfl (by assumption) (a1 hb)
      · exact a2 hb
    · have eI : ((List.range ns.length).filter fun i => decide (0 < g i)) = idxP g ns.length := rfl
      rw [eI]
      have hIl : (idxP g ns.length).length ≤ ns.length := by
        have := List.length_filter_le (fun i => decide (0 < g i)) (List.range ns.length)
        rw [List.length_range] at this; exact this
      have fin : ∀ (B : List Nat), B = (if 0 < k then (idxP g ns.length).take k.toNat else idxP g ns.length) → B ≠ [] → (∀ i ∈ B, i < ns.length ∧ 0 < g i) → ∀ m s4' s5' s6', m ∈ B.map g → (∀ y ∈ B.map g, m ≤ y) → s4'.free = true → s5'.free = true → s6'.free = true →
          ∃ m', m' < (((List.range ns.length).map g).sum.toNat) ∧ ∃ (g1 : Nat → Int) (t1 : Int) (s4 s5 s6 : Slot), [.sh (iL ns), .sh (.int k), .ow false (.lst (((List.range ns.length).map (redu g B m)).map D.int)), .sh (.int (t + m)), s4', s5', s6'] = [.sh (iL ns), .sh (.int k), .ow false (.lst (((List.range ns.length).map g1).map D.int)), .sh (.int t1), s4, s5, s6] ∧ s4.free = true ∧ s5.free = true ∧ s6.free = true ∧
            (∀ i, i < ns.length → 0 ≤ g1 i ∧ g1 i ≤ 100000) ∧ t1 + hT ((List.range ns.length).map g1) k = hT ns k ∧ m' = ((List.range ns.length).map g1).sum.toNat := by
        intro B hB hBne hBp m s4' s5' s6' hm hmin f4 f5 f6
        obtain ⟨i0, hi0, e0⟩ := List.mem_map.mp hm
        have hp := hBp i0 hi0
        have hms : ∀ i ∈ B, m ≤ g i := fun i hi => hmin _ (List.mem_map.mpr ⟨i, hi, rfl⟩)
        have st := laid_step (g := g) (n := ns.length) (k := k) (s := m) k0 hB (fun i hi => (hg i hi).1) hne (by omega) hms
        have hle : ∀ i, i < ns.length → 0 ≤ redu g B m i ∧ redu g B m i ≤ g i := fun i hi => by
          unfold redu
          have := (hg i hi).1
          split
          · rename_i hiB
            have := hms i hiB
            omega
          · omega
        have hlt : ((List.range ns.length).map (redu g B m)).sum < ((List.range ns.length).map g).sum := sum_less g _ (List.range ns.length) (fun i hi => (hle i (List.mem_range.mp hi)).2) i0 (List.mem_range.mpr hp.1) (by unfold redu; rw [if_pos hi0]; omega)
        exact ⟨_, by omega, redu g B m, t + m, _, _, _, rfl, f4, f5, f6, fun i hi => ⟨(hle i hi).1, by have := (hle i hi).2; have := (hg i hi).2; omega⟩, by omega, rfl⟩
      refine k_set rfl f4 ?_
      refine u_seq (u_set ?_)
      subst em
      by_cases hk : 0 < k
      · have hsub : ∀ i ∈ (idxP g ns.length).take k.toNat, i < ns.length ∧ 0 < g i := fun i hi => idx_mem.mp (List.mem_of_mem_take hi)
        have hne2 : (idxP g ns.length).take k.toNat ≠ [] := fun z => by
          have := congrArg List.length z
          rw [List.length_take, List.length_nil] at this
          have : (idxP g ns.length).length ≠ 0 := fun z => hne (List.length_eq_zero_iff.mp z)
          omega
        have fin2 := fin _ (by rw [if_pos hk]) hne2 hsub
        generalize hK : kSet 4 _ = KK
        walk_at "ss"
        rw [decide_eq_true hk]
        walk_at "ss"
        rw [cut_toI (by omega), ← List.map_take, ← hK]
        refine k_set rfl rfl ?_
        exact laid_tail hz (.inl rfl) f5 hne2 (fun i hi => (hsub i hi).1) (List.Nodup.sublist (List.take_sublist ..) (idx_nodup ..)) (by rw [List.length_take]; omega) fin2
      · have fin2 := fin _ (by rw [if_neg hk]) hne fun i hi => idx_mem.mp hi
        generalize hK : kSet 4 _ = KK
        walk_at "ss"
        rw [decide_eq_false hk]
        walk_at "ss"
        rw [← hK]
        refine k_set rfl rfl ?_
        exact laid_tail hz (.inr rfl) f5 hne (fun i hi => (idx_mem.mp hi).1) (idx_nodup ..) hIl fin2
  · have hle : ((List.range ns.length).map g).sum ≤ 0 := by simpa using hb
    have h0 := sum_le0 g (List.range ns.length) (fun i hi => (hg i (List.mem_range.mp hi)).1) hle
    have e := hT_zero (g := g) (n := ns.length) (k := k) fun i hi => h0 i (List.mem_range.mpr hi)
    walk_at "ss"
    rw [show t = hT ns k by omega]
    exact q
end WL

set_option Elab.async false
set_option linter.all false
set_option maxRecDepth 100000
set_option maxHeartbeats 4000000
namespace WL
open PySem PySem.Spec PyProof.Rows L2
variable [TBs]
local macro_rules | `(tactic| walk_at "s") => `(tactic| first
  | ((with_reducible show vSeq _ _ _ _); refine u_seq ?_)
  | ((with_reducible show vSet _ _ _ _); refine u_set ?_)
  | ((with_reducible show kSet _ _ _ _); (first | refine k_set rfl rfl ?_ | refine k_set rfl (by assumption) ?_))
  | ((with_reducible show vRet _ _ _); refine u_ret ?_)
  | ((with_reducible show vIf _ _ _ _ _); refine u_if ?_)
  | ((with_reducible show vExpr _ _ _); refine u_expr ?_)
  | ((with_reducible show kExpr _ _ _); refine k_expr ?_)
  | ((with_reducible show vRetN _ _); refine u_retN ?_)
  | ((with_reducible show vAsg _ _ _ _); refine u_asg ?_)
  | ((with_reducible show kAsg _ _ _ _); refine k_asg rfl ?_)
  | ((with_reducible show vNext _ _); refine u_next ?_)
  | ((with_reducible show vBreak _ _); refine u_break ?_)
  | ((with_reducible show vCont _ _); refine u_cont ?_)
  | ((with_reducible show kIf _ _ _ _ _); (first | refine k_ifT ?_ | refine k_ifF ?_))
  | ((with_reducible show vVal _ _ _); refine u_val ?_)
  | ((with_reducible show kVal _ _ _); refine k_val ?_)
  | ((with_reducible show vPk _ _ _); refine u_pk rfl rfl ?_)
  | ((with_reducible show vC _ _ _); refine u_c ?_)
  | ((with_reducible show vVar _ _ _); (first | refine u_var rfl ?_ | refine u_varL rfl ?_ | refine u_varD rfl ?_ | refine u_varE rfl ?_))
  | ((with_reducible show vMv _ _ _); (first | refine u_mv rfl ?_ | refine u_mvO rfl ?_))
  | ((with_reducible show vBin _ _ _ _ _); refine u_bin ?_)
  | ((with_reducible show kBin1 _ _ _ _ _); refine k_bin1 ?_)
  | ((with_reducible show kBin2 _ _ _ _ _); refine k_bin2 rfl rfl ?_)
  | ((with_reducible show vUn _ _ _ _); refine u_un ?_)
  | ((with_reducible show kUn _ _ _ _); refine k_un rfl ?_)
  | ((with_reducible show vCons _ _ _ _); refine u_cons ?_)
  | ((with_reducible show kCons1 _ _ _ _); refine k_cons1 ?_)
  | ((with_reducible show vNil _ _); refine u_nil ?_)
  | ((with_reducible show kCons2 _ _ _ _); refine k_cons2 ?_)
  | ((with_reducible show vPrim _ _ _ _); refine u_prim ?_)
  | ((with_reducible show kPrim _ _ _ _); (first | refine k_prim1 rfl ?_ | refine k_prim2 rfl rfl ?_))
  | ((with_reducible show kRet _ _ _); (first | refine k_retV ?_ | refine k_retL ?_ | refine k_retT ?_ | refine k_retD ?_))
  | ((with_reducible show vSh _ _ _); refine u_sh ?_)
  | ((with_reducible show kSh _ _ _); (first | refine k_sh ?_ | refine k_shL ?_ | refine k_shD ?_))
  | ((with_reducible show vT _ _ _); refine u_t ?_)
  | ((with_reducible show kT _ _ _); refine k_t ?_)
  | ((with_reducible show vTru _ _ _); refine u_tru ?_)
  | ((with_reducible show kTru _ _ _); refine k_tru rfl rfl ?_)
  | ((with_reducible show vAnd _ _ _ _); refine u_and ?_)
  | ((with_reducible show kAnd _ _ _ _); (first | refine k_andT ?_ | refine k_andF ?_))
  | ((with_reducible show vOr _ _ _ _); refine u_or ?_)
  | ((with_reducible show kOr _ _ _ _); (first | refine k_orT ?_ | refine k_orF ?_))
  | ((with_reducible show vNot _ _ _); refine u_not ?_)
  | ((with_reducible show kNot _ _ _); refine k_not ?_)
  | ((with_reducible show vAndV _ _ _ _); refine u_andV ?_)
  | ((with_reducible show kAndV _ _ _ _); (first | refine k_andVT ?_ | refine k_andVF ?_))
  | ((with_reducible show kOrV _ _ _ _); (first | refine k_orVT ?_ | refine k_orVF ?_))
  | ((with_reducible show vOrV _ _ _ _); refine u_orV ?_)
  | ((with_reducible show vNotV _ _ _); refine u_notV ?_)
  | ((with_reducible show kNotV _ _ _); refine k_notV ?_)
  | ((with_reducible show vIfE _ _ _ _ _); refine u_ifE ?_)
  | ((with_reducible show kIfE _ _ _ _ _); (first | refine k_ifET ?_ | refine k_ifEF ?_))
  | ((with_reducible show vLst _ _ _); refine u_lst ?_)
  | ((with_reducible show kLst _ _ _); refine k_lst rfl (by simp only [List.length_cons, List.length_nil]; decide) ?_)
  | ((with_reducible show vTup _ _ _); refine u_tup ?_)
  | ((with_reducible show kTup _ _ _); refine k_tup rfl (by simp only [List.length_cons, List.length_nil]; decide) ?_)
  | ((with_reducible show vNewD _ _); refine u_newD ?_)
  | ((with_reducible show vSl _ _ _ _ _); refine u_sl ?_)
  | ((with_reducible show kSl0 _ _ _ _ _); refine k_sl0 ?_)
  | ((with_reducible show kSl1 _ _ _ _ _); refine k_sl1 ?_)
  | ((with_reducible show kSl2 _ _ _ _ _); refine k_sl2 rfl ?_)
  | ((with_reducible show vNoPart _ _); refine u_noPart ?_)
  | ((with_reducible show vPart _ _ _); refine u_part ?_)
  | ((with_reducible show kPart _ _ _); refine k_part ?_)
  | ((with_reducible show vApp _ _ _ _); refine u_app rfl ?_)
  | ((with_reducible show vPopAt _ _ _ _); refine u_popAt rfl ?_)
  | ((with_reducible show vExt _ _ _ _); refine u_ext rfl ?_)
  | ((with_reducible show vM1 _ _ _ _ _); refine u_m1 ?_)
  | ((with_reducible show kM1a _ _ _ _ _); refine k_m1a rfl ?_)
  | ((with_reducible show kM1b _ _ _ _ _); refine k_m1b rfl rfl ?_)
  | ((with_reducible show vGet2 _ _ _ _ _); refine u_get2 ?_)
  | ((with_reducible show kGet1 _ _ _ _ _); refine k_get1 rfl ?_)
  | ((with_reducible show kGet2 _ _ _ _ _); refine k_get2 ?_)
  | ((with_reducible show vSetL _ _ _ _ _); refine u_setL ?_)
  | ((with_reducible show kSetL1 _ _ _ _ _); refine k_setL1 rfl ?_)
  | ((with_reducible show kSetL2 _ _ _ _ _); (first | refine k_setL2j 0 rfl rfl (by simp) rfl ?_ | refine k_setL2j 1 rfl rfl (by simp) rfl ?_ | refine k_setL2j 2 rfl rfl (by simp) rfl ?_))
  | ((with_reducible show vPutD _ _ _ _ _); refine u_putD ?_)
  | ((with_reducible show kPutD1 _ _ _ _ _); refine k_putD1 rfl ?_)
  | ((with_reducible show vAugL _ _ _ _ _ _); refine u_augL rfl ?_)
  | ((with_reducible show kAugL1 _ _ _ _ _ _); (first | refine k_augL1j 0 rfl rfl rfl ?_ | refine k_augL1j 1 rfl rfl rfl ?_ | refine k_augL1j 2 rfl rfl rfl ?_))
  | ((with_reducible show kAugL2 _ _ _ _ _ _ _); refine k_augL2j rfl (by simp) ?_)
  | ((with_reducible show vAug _ _ _ _ _); refine u_aug rfl ?_)
  | ((with_reducible show kAug _ _ _ _ _ _); (first | refine k_augAdd rfl ?_ | refine k_augSub rfl ?_))
  | ((with_reducible show vCall _ _ _ _); refine u_call ?_)
  | ((with_reducible show gN _ _ _ _); (first | refine u_gN rfl rfl ?_ | refine u_gN rfl (by assumption) ?_))
  | ((with_reducible show gT _ _ _ _); refine u_gT rfl ?_)
  | ((with_reducible show gL _ _ _ _); refine u_gL rfl rfl ?_)
  | ((with_reducible show gTs _ _ _ _); (first | refine u_gTs0 ?_ | refine u_gTs ?_))
  | ((with_reducible show vItL _ _ _); refine u_itL ?_)
  | ((with_reducible show kItL _ _ _); refine k_itL rfl rfl ?_)
  | ((with_reducible show vItT _ _ _); refine u_itT ?_)
  | ((with_reducible show kItT _ _ _); refine k_itT rfl rfl ?_)
  | ((with_reducible show vItR1 _ _ _); refine u_itR1 ?_)
  | ((with_reducible show vItR2 _ _ _); refine u_itR2 ?_)
  | ((with_reducible show vFor _ _ _ _ _); refine u_for ?_)
  | ((with_reducible show vLc _ _ _ _ _ _ _); refine u_lc ?_)
  | ((with_reducible show vLcK _ _ _ _ _ _ _); refine u_lcK rfl ?_)
  | ((with_reducible show vYes _ _); refine u_yes ?_)
  | ((with_reducible show kLcT _ _ _ _ _ _); refine k_lcTT ?_)
  | ((with_reducible show addP _ _); refine p_addI ?_)
  | ((with_reducible show subP _ _); refine p_subI ?_)
  | ((with_reducible show mulP _ _); (first | refine p_mulI (.inl (.inl (by omega))) ?_ | refine p_mulI (.inl (.inr (by omega))) ?_))
  | ((with_reducible show modP _ _); refine p_modI (by omega) ?_)
  | ((with_reducible show divP _ _); refine p_divI (.inl (by constructor <;> omega)) ?_)
  | ((with_reducible show negP _ _); refine p_negI ?_)
  | ((with_reducible show ltP _ _); refine p_ltI ?_)
  | ((with_reducible show leP _ _); refine p_leI ?_)
  | ((with_reducible show gtP _ _); refine p_gtI ?_)
  | ((with_reducible show geP _ _); refine p_geI ?_)
  | ((with_reducible show eqP _ _); (first | refine p_eqI ?_ | refine p_eqS ?_ | refine p_eqB ?_ | refine p_eqN ?_))
  | ((with_reducible show neP _ _); (first | refine p_neI ?_ | refine p_neS ?_ | refine p_neB ?_))
  | ((with_reducible show isNP _ _); (first | refine p_isNn ?_ | refine p_isNi ?_ | refine p_isNs ?_ | refine p_isNb ?_ | refine p_isNl ?_ | refine p_isNt ?_ | refine p_isNd ?_))
  | ((with_reducible show notNP _ _); (first | refine p_notNn ?_ | refine p_notNi ?_ | refine p_notNs ?_ | refine p_notNb ?_ | refine p_notNl ?_ | refine p_notNt ?_ | refine p_notNd ?_))
  | ((with_reducible show isiP _ _); refine p_isi rfl rfl ?_)
  | ((with_reducible show isiTP _ _); refine p_isiT rfl rfl ?_)
  | ((with_reducible show reprP _ _); (first | refine p_reprB ?_ | refine p_reprN ?_))
  | ((with_reducible show lenP _ _); (first | refine p_lenL ?_ | refine p_lenF ?_ | refine p_lenT ?_ | refine p_lenD ?_))
  | ((with_reducible show absP _ _); refine p_absI ?_)
  | ((with_reducible show intP _ _); refine p_intI ?_)
  | ((with_reducible show listP _ _); (first | refine p_listL ?_ | refine p_listF ?_ | refine p_listD ?_))
  | ((with_reducible show ixP _ _); (first | refine p_ixLj 0 rfl rfl ?_ | refine p_ixLj 1 rfl rfl ?_ | refine p_ixLj 2 rfl rfl ?_ | refine p_ixLj 3 rfl rfl ?_ | refine p_ixTj 0 rfl rfl ?_ | refine p_ixTj 1 rfl rfl ?_ | refine p_ixTj 2 rfl rfl ?_ | refine p_ixTj 3 rfl rfl ?_))
  | ((with_reducible show inP _ _ _); (first | refine p_inS0 ?_ | refine p_inS1 ?_ | refine p_inI0 ?_ | refine p_inI1 ?_ | refine p_inD0 rfl ?_ | refine p_inD1 rfl ?_))
  | ((with_reducible show slP _ _ _ _); (first | refine p_slL ?_ | refine p_slF ?_))
  | ((with_reducible show sumP _ _); refine p_sum ?_)
  | ((with_reducible show maxP _ _); refine p_max2 ?_)
  | ((with_reducible show minP _ _); refine p_min2 ?_)
  | ((with_reducible show allP _ _); refine p_all ?_)
  | ((with_reducible show anyP _ _); refine p_any ?_))
local macro_rules | `(tactic| walk_at "ss") => `(tactic| repeat walk_at "s")
local macro_rules | `(tactic| walk_at "back") => `(tactic| refine k_back ?_ (by dsimp only [takeBack, backS, List.set, List.getElem?_cons_zero, List.getElem?_cons_succ]))
local macro_rules | `(tactic| walk_at "s") => `(tactic| first
  | ((with_reducible show vCallX _ _ _ _ _); refine u_callX ?_)
  | ((with_reducible show vRaise _ _ _ _ _ _); refine u_raise ?_)
  | ((with_reducible show kRaise _ _ _ _ _); refine k_raise rfl rfl (by simp) ?_)
  | ((with_reducible show vNewKs _ _); refine u_newKs ?_))
/-! K26K: few looks in all, against all sets. -/
theorem over_anti {t t' : Int} (h : t ≤ t') : ∀ ns : List Int, over ns t' ≤ over ns t
  | [] => Int.le_refl _
  | x :: ns => by
    have ih := over_anti h ns
    rw [over_cons, over_cons]
    split <;> split <;> omega
theorem LT_lt {ns : List Int} {w t t' : Int} (w0 : 0 ≤ w) (h : LT ns w t) (h' : LT ns w t') : ¬ t < t' := fun hlt => by
  obtain ⟨a1, a2, _⟩ := h
  obtain ⟨b1, _, b3⟩ := h'
  rcases b3 with b3 | b3
  · omega
  · have h1 := over_anti (show t ≤ t' - 1 by omega) ns
    have h2 : w * t ≤ w * (t' - 1) := Int.mul_le_mul_of_nonneg_left (by omega) w0
    omega
theorem LT_uniq {ns : List Int} {w t t' : Int} (w0 : 0 ≤ w) (h : LT ns w t) (h' : LT ns w t') : t = t' := by
  have := LT_lt w0 h h'
  have := LT_lt w0 h' h
  omega
instance (ns : List Int) (w t : Int) : Decidable (LT ns w t) := inferInstanceAs (Decidable (_ ∧ _))
def i123 : List Int := [1, 2, 3]
def fewL : List (List Int) := ((i123.map fun a => [a]) ++ (i123.flatMap fun a => i123.map fun b => [a, b]) ++ (i123.flatMap fun a => i123.flatMap fun b => i123.map fun c => [a, b, c])).filter fun ns => decide (ns.sum ≤ 5)
def chkL (ns : List Int) (w : Int) : Bool := decide (LT ns w (eT (looksOf ns) (lineSure ns) w)) && decide (grT w ns = eT (looksOf ns) (groupSure ns) w) &&
  eOk (looksOf ns) (lineSure ns) w (looksOf ns).length [[]] && eOk (looksOf ns) (groupSure ns) w (looksOf ns).length [[]] && decide (looksOf ns).Nodup && decide ((looksOf ns).length ≤ 9) && decide (okL ns)
theorem chk_all : (fewL.all fun ns => [0, 1, 2, 3].all fun w => chkL ns w) = true := by decide +kernel
theorem three {x : Int} (h : 1 ≤ x ∧ x ≤ 3) : x ∈ i123 := by
  unfold i123
  have : x = 1 ∨ x = 2 ∨ x = 3 := by omega
  rcases this with rfl | rfl | rfl <;> simp
theorem few_mem {ns : List Int} (h : smallL ns) (hne : ns ≠ []) (hs : ns.sum ≤ 5) : ns ∈ fewL := by
  unfold fewL
  refine List.mem_filter.mpr ⟨?_, decide_eq_true hs⟩
  obtain ⟨h1, h2⟩ := h
  cases ns with
  | nil => exact absurd rfl hne
  | cons a ns =>
    have ha := three (h2 a (List.mem_cons_self ..))
    cases ns with
    | nil => exact List.mem_append.mpr (.inl (List.mem_append.mpr (.inl (List.mem_map.mpr ⟨a, ha, rfl⟩))))
    | cons b ns =>
      have hb := three (h2 b (List.mem_cons_of_mem _ (List.mem_cons_self ..)))
      cases ns with
      | nil => exact List.mem_append.mpr (.inl (List.mem_append.mpr (.inr (List.mem_flatMap.mpr ⟨a, ha, List.mem_map.mpr ⟨b, hb, rfl⟩⟩))))
      | cons c ns =>
        have hc := three (h2 c (List.mem_cons_of_mem _ (List.mem_cons_of_mem _ (List.mem_cons_self ..))))
        cases ns with
        | nil => exact List.mem_append.mpr (.inr (List.mem_flatMap.mpr ⟨a, ha, List.mem_flatMap.mpr ⟨b, hb, List.mem_map.mpr ⟨c, hc, rfl⟩⟩⟩))
        | cons d ns => simp at h1
theorem chk_few {ns : List Int} {w : Int} (h : smallL ns) (hne : ns ≠ []) (hs : ns.sum ≤ 5) (w0 : 0 ≤ w) (w3 : w < 4) :
    LT ns w (eT (looksOf ns) (lineSure ns) w) ∧ grT w ns = eT (looksOf ns) (groupSure ns) w ∧ eOk (looksOf ns) (lineSure ns) w (looksOf ns).length [[]] = true ∧ eOk (looksOf ns) (groupSure ns) w (looksOf ns).length [[]] = true ∧ (looksOf ns).Nodup ∧ (looksOf ns).length ≤ 9 ∧ okL ns := by
  have hw : w ∈ [0, 1, 2, 3] := by
    have : w = 0 ∨ w = 1 ∨ w = 2 ∨ w = 3 := by omega
    rcases this with rfl | rfl | rfl | rfl <;> simp
  have := List.all_eq_true.mp (List.all_eq_true.mp chk_all ns (few_mem h hne hs)) w hw
  unfold chkL at this
  simp only [Bool.and_eq_true] at this
  obtain ⟨⟨⟨⟨⟨⟨h1, h2⟩, h3⟩, h4⟩, h5⟩, h6⟩, h7⟩ := this
  exact ⟨of_decide_eq_true h1, of_decide_eq_true h2, h3, h4, of_decide_eq_true h5, of_decide_eq_true h6, of_decide_eq_true h7⟩
theorem gsRows_len (known : List (Int × Int)) : ∀ gs : List (List (Int × Int)), (∀ g ∈ gs, g.length ≤ 3) → (gsRows known gs).length ≤ 3 * gs.length
  | [], _ => by unfold gsRows; simp
  | g :: gs, h => by
    rw [gsRows_cons, List.length_append, List.length_cons]
    have h1 := h g (List.mem_cons_self ..)
    have h2 := gsRows_len known gs fun g hg => h g (List.mem_cons_of_mem _ hg)
    split
    · omega
    · simp; omega
theorem groupSure_len {ns : List Int} (sm : smallL ns) (known : List (Int × Int)) : (groupSure ns known).length ≤ 1000 := by
  have h := gsRows_len known (grows ns) fun g hg => by
    unfold grows at hg
    obtain ⟨a, ha, rfl⟩ := List.mem_map.mp hg
    exact rowL_len sm a (List.mem_range.mp ha)
  have hl : (grows ns).length = ns.length := by unfold grows; simp
  have := sm.1
  rw [hl] at h
  exact Nat.le_trans (show (groupSure ns known).length ≤ 3 * ns.length from h) (by omega)
theorem lineSure_len {ns : List Int} (sm : smallL ns) (known : List (Int × Int)) : (lineSure ns known).length ≤ 1000 := by
  have h := rows_len sm (lrow ns known) (fun a ha => lrow_len sm known a ha) ns.length (Nat.le_refl _)
  rw [show (List.range ns.length).take ns.length = List.range ns.length by rw [List.take_of_length_le (by simp)]] at h
  have := sm.1
  exact Nat.le_trans (show (lineSure ns known).length ≤ 3 * ns.length from h) (by omega)
theorem small_tail {ns : List Int} (sm : smallL ns) (hs : 5 < ns.sum) : smallL (ns.drop 1) ∧ ns.drop 1 ≠ [] ∧ (ns.drop 1).length < ns.length := by
  cases ns with
  | nil => simp at hs
  | cons x ns =>
    refine ⟨⟨by have := sm.1; simp at this ⊢; omega, fun y hy => sm.2 y (List.mem_cons_of_mem _ hy)⟩, fun z => ?_, by simp⟩
    have z : ns = [] := z
    subst z
    have := sm.2 x (List.mem_cons_self ..)
    simp at hs; omega
theorem lamS_line {ns : List Int} {known : List (Int × Int)} (sm : smallL ns) (hk : known.length ≤ 9) {R' : Slot → List Slot → Prop} {RX' : Value → List (Str × D) → List Slot → Prop}
    (h : R' (.ow false (.lst (prs (lineSure ns known)))) ([iL ns].map Slot.sh ++ [.sh (.tup (prs known))])) : lamS 2 w_k26_small_1 ([iL ns].map Slot.sh ++ [.sh (.tup (prs known))]) R' RX' := by
  refine ⟨rfl, ?_⟩
  unfold w_k26_small_1
  show vCall _ _ [.sh (iL ns), .sh (.tup (prs known))] _
  walk_at "ss"
  refine k_call rfl ⟨ns, known, rfl, sm, by omega, ?_⟩
  walk_at "back"
  exact h
theorem lamS_group {ns : List Int} {known : List (Int × Int)} (sm : smallL ns) (hk : known.length ≤ 9) {R' : Slot → List Slot → Prop} {RX' : Value → List (Str × D) → List Slot → Prop}
    (h : R' (.ow false (.lst (prs (groupSure ns known)))) ([iL ns].map Slot.sh ++ [.sh (.tup (prs known))])) : lamS 2 w_k26_small_2 ([iL ns].map Slot.sh ++ [.sh (.tup (prs known))]) R' RX' := by
  refine ⟨rfl, ?_⟩
  unfold w_k26_small_2
  show vCall _ _ [.sh (iL ns), .sh (.tup (prs known))] _
  walk_at "ss"
  refine k_call rfl ⟨ns, known, rfl, sm, by omega, ?_⟩
  walk_at "back"
  exact h
theorem rd_k26_small : Reads S_k26_small (fun EX => v_k26_small EX) 7 := fun ρs R RX h => by
  obtain ⟨a, b, c, rfl, q⟩ := h
  unfold v_k26_small
  show vSeq _ _ _ [srcD a b c, .un, .un, .un, .un, .un, .un, .un]
  walk_at "ss"
  refine k_call rfl ⟨a, b, c, 3, rfl, by omega, by omega, fun a1 b1 c1 r r0 r1 => ?_⟩
  walk_at "back"
  walk_at "ss"
  refine k_itR1 rfl ⟨by omega, by omega⟩ ?_
  refine k_lc (free1 rfl rfl) (fun j acc ρ => ∃ a b c, ∃ ns : List Int, acc = ns.map D.int ∧ ns.length = j ∧ (∀ x ∈ ns, 1 ≤ x ∧ x ≤ 3) ∧ ρ = [srcD a b c, .un, .un, .un, .un, .un, .un, .un]) ⟨_, _, _, [], rfl, rfl, by simp, rfl⟩ ?_ ?_
  · rintro j acc d ρ' hj ⟨a, b, c, ns, rfl, hl, hn, rfl⟩
    have hjl : j < 3 := by have := (List.getElem?_eq_some_iff.mp hj).1; unfold rangeD at this; simp at this; omega
    walk_at "ss"
    refine k_call rfl ⟨a, b, c, 3, rfl, by omega, by omega, fun a1 b1 c1 x x0 x1 => ?_⟩
    walk_at "back"
    walk_at "ss"
    refine k_lcE rfl (small16 (by rw [List.length_map]; omega)) ?_
    refine ⟨a1, b1, c1, ns ++ [1 + x], by simp, by simp [hl], fun y hy => ?_, rfl⟩
    rcases List.mem_append.mp hy with hy | hy
    · exact hn y hy
    · rw [List.mem_singleton.mp hy]; omega
  · rintro acc ρ' ⟨a, b, c, ns, rfl, hl, hn, rfl⟩
    have hl : ns.length = (1 + r).toNat := by rw [hl]; unfold rangeD; simp
    have hne : ns ≠ [] := fun z => by subst z; simp at hl; omega
    walk_at "ss"
    refine u_while1 (fun m ρ => ∃ ns : List Int, ρ = [srcD a b c, .sh (iL ns), .un, .un, .un, .un, .un, .un] ∧ smallL ns ∧ ns ≠ [] ∧ m = ns.length) ns.length ⟨ns, rfl, ⟨by omega, hn⟩, hne, rfl⟩ ?_
    clear hl hn hne
    rintro m ρ' ⟨ns, rfl, sm, hne, em⟩
    walk_at "ss"
    refine k_while (fun hb => ?_) (fun hb => ?_)
    · have hb : 5 < ns.sum := by simpa using hb
      obtain ⟨t1, t2, t3⟩ := small_tail sm hb
      walk_at "ss"
      rw [show cutL (ns.map D.int) (some 1) none = (ns.drop 1).map D.int from cut_fromI ns 1]
      exact ⟨_, by omega, ns.drop 1, rfl, t1, t2, rfl⟩
    · have hb : ns.sum ≤ 5 := by simpa using hb
      have hlz : ns.length ≤ 100000 := by have := sm.1; omega
      walk_at "ss"
      refine k_call rfl ⟨a, b, c, 4, rfl, by omega, by omega, fun a b c w w0 w1 => ?_⟩
      walk_at "back"
      obtain ⟨e1, e2, e3, e4, e5, e6, e7⟩ := chk_few sm hne hb w0 w1
      walk_at "ss"
      refine k_call rfl ⟨ns, rfl, sm, ?_⟩
      walk_at "back"
      walk_at "ss"
      refine ⟨[iL ns], rfl, fun f => ⟨_, rfl, looksOf ns, w, lineSure ns, rfl, e6, e5, w0, by omega, e3, fun known _ => lineSure_len sm known, fun known hk R' RX' hr => lamS_line sm hk hr, ?_⟩⟩
      walk_at "ss"
      refine ⟨[iL ns], rfl, fun f => ⟨_, rfl, looksOf ns, w, groupSure ns, rfl, e6, e5, w0, by omega, e4, fun known _ => groupSure_len sm known, fun known hk R' RX' hr => lamS_group sm hk hr, ?_⟩⟩
      walk_at "ss"
      refine k_callX rfl ⟨ns, w, rfl, hlz, fun x hx => by have := sm.2 x hx; omega, w0, by omega, fun _ t ht => ?_, fun nok => absurd e7 nok⟩
      walk_at "back"
      walk_at "ss"
      rw [decide_eq_true (LT_uniq w0 ht e1)]
      walk_at "ss"
      refine k_callX rfl ⟨ns, w, rfl, hlz, fun _ => ?_, fun nok => absurd e7 nok⟩
      walk_at "back"
      walk_at "ss"
      rw [decide_eq_true e2]
      walk_at "ss"
      refine p_eqIL ?_
      walk_at "ss"
      exact q _ _ _
end WL

set_option Elab.async false
set_option linter.all false
set_option maxRecDepth 100000
set_option maxHeartbeats 4000000
namespace WL
open PySem PySem.Spec PyProof.Rows L2
variable [TBs]
local macro_rules | `(tactic| walk_at "s") => `(tactic| first
  | ((with_reducible show vSeq _ _ _ _); refine u_seq ?_)
  | ((with_reducible show vSet _ _ _ _); refine u_set ?_)
  | ((with_reducible show kSet _ _ _ _); (first | refine k_set rfl rfl ?_ | refine k_set rfl (by assumption) ?_))
  | ((with_reducible show vRet _ _ _); refine u_ret ?_)
  | ((with_reducible show vIf _ _ _ _ _); refine u_if ?_)
  | ((with_reducible show vExpr _ _ _); refine u_expr ?_)
  | ((with_reducible show kExpr _ _ _); refine k_expr ?_)
  | ((with_reducible show vRetN _ _); refine u_retN ?_)
  | ((with_reducible show vAsg _ _ _ _); refine u_asg ?_)
  | ((with_reducible show kAsg _ _ _ _); refine k_asg rfl ?_)
  | ((with_reducible show vNext _ _); refine u_next ?_)
  | ((with_reducible show vBreak _ _); refine u_break ?_)
  | ((with_reducible show vCont _ _); refine u_cont ?_)
  | ((with_reducible show kIf _ _ _ _ _); (first | refine k_ifT ?_ | refine k_ifF ?_))
  | ((with_reducible show vVal _ _ _); refine u_val ?_)
  | ((with_reducible show kVal _ _ _); refine k_val ?_)
  | ((with_reducible show vPk _ _ _); refine u_pk rfl rfl ?_)
  | ((with_reducible show vC _ _ _); refine u_c ?_)
  | ((with_reducible show vVar _ _ _); (first | refine u_var rfl ?_ | refine u_varL rfl ?_ | refine u_varD rfl ?_ | refine u_varE rfl ?_))
  | ((with_reducible show vMv _ _ _); (first | refine u_mv rfl ?_ | refine u_mvO rfl ?_))
  | ((with_reducible show vBin _ _ _ _ _); refine u_bin ?_)
  | ((with_reducible show kBin1 _ _ _ _ _); refine k_bin1 ?_)
  | ((with_reducible show kBin2 _ _ _ _ _); refine k_bin2 rfl rfl ?_)
  | ((with_reducible show vUn _ _ _ _); refine u_un ?_)
  | ((with_reducible show kUn _ _ _ _); refine k_un rfl ?_)
  | ((with_reducible show vCons _ _ _ _); refine u_cons ?_)
  | ((with_reducible show kCons1 _ _ _ _); refine k_cons1 ?_)
  | ((with_reducible show vNil _ _); refine u_nil ?_)
  | ((with_reducible show kCons2 _ _ _ _); refine k_cons2 ?_)
  | ((with_reducible show vPrim _ _ _ _); refine u_prim ?_)
  | ((with_reducible show kPrim _ _ _ _); (first | refine k_prim1 rfl ?_ | refine k_prim2 rfl rfl ?_))
  | ((with_reducible show kRet _ _ _); (first | refine k_retV ?_ | refine k_retL ?_ | refine k_retT ?_ | refine k_retD ?_))
  | ((with_reducible show vSh _ _ _); refine u_sh ?_)
  | ((with_reducible show kSh _ _ _); (first | refine k_sh ?_ | refine k_shL ?_ | refine k_shD ?_))
  | ((with_reducible show vT _ _ _); refine u_t ?_)
  | ((with_reducible show kT _ _ _); refine k_t ?_)
  | ((with_reducible show vTru _ _ _); refine u_tru ?_)
  | ((with_reducible show kTru _ _ _); refine k_tru rfl rfl ?_)
  | ((with_reducible show vAnd _ _ _ _); refine u_and ?_)
  | ((with_reducible show kAnd _ _ _ _); (first | refine k_andT ?_ | refine k_andF ?_))
  | ((with_reducible show vOr _ _ _ _); refine u_or ?_)
  | ((with_reducible show kOr _ _ _ _); (first | refine k_orT ?_ | refine k_orF ?_))
  | ((with_reducible show vNot _ _ _); refine u_not ?_)
  | ((with_reducible show kNot _ _ _); refine k_not ?_)
  | ((with_reducible show vAndV _ _ _ _); refine u_andV ?_)
  | ((with_reducible show kAndV _ _ _ _); (first | refine k_andVT ?_ | refine k_andVF ?_))
  | ((with_reducible show kOrV _ _ _ _); (first | refine k_orVT ?_ | refine k_orVF ?_))
  | ((with_reducible show vOrV _ _ _ _); refine u_orV ?_)
  | ((with_reducible show vNotV _ _ _); refine u_notV ?_)
  | ((with_reducible show kNotV _ _ _); refine k_notV ?_)
  | ((with_reducible show vIfE _ _ _ _ _); refine u_ifE ?_)
  | ((with_reducible show kIfE _ _ _ _ _); (first | refine k_ifET ?_ | refine k_ifEF ?_))
  | ((with_reducible show vLst _ _ _); refine u_lst ?_)
  | ((with_reducible show kLst _ _ _); refine k_lst rfl (by simp only [List.length_cons, List.length_nil]; decide) ?_)
  | ((with_reducible show vTup _ _ _); refine u_tup ?_)
  | ((with_reducible show kTup _ _ _); refine k_tup rfl (by simp only [List.length_cons, List.length_nil]; decide) ?_)
  | ((with_reducible show vNewD _ _); refine u_newD ?_)
  | ((with_reducible show vSl _ _ _ _ _); refine u_sl ?_)
  | ((with_reducible show kSl0 _ _ _ _ _); refine k_sl0 ?_)
  | ((with_reducible show kSl1 _ _ _ _ _); refine k_sl1 ?_)
  | ((with_reducible show kSl2 _ _ _ _ _); refine k_sl2 rfl ?_)
  | ((with_reducible show vNoPart _ _); refine u_noPart ?_)
  | ((with_reducible show vPart _ _ _); refine u_part ?_)
  | ((with_reducible show kPart _ _ _); refine k_part ?_)
  | ((with_reducible show vApp _ _ _ _); refine u_app rfl ?_)
  | ((with_reducible show vPopAt _ _ _ _); refine u_popAt rfl ?_)
  | ((with_reducible show vExt _ _ _ _); refine u_ext rfl ?_)
  | ((with_reducible show vM1 _ _ _ _ _); refine u_m1 ?_)
  | ((with_reducible show kM1a _ _ _ _ _); refine k_m1a rfl ?_)
  | ((with_reducible show kM1b _ _ _ _ _); refine k_m1b rfl rfl ?_)
  | ((with_reducible show vGet2 _ _ _ _ _); refine u_get2 ?_)
  | ((with_reducible show kGet1 _ _ _ _ _); refine k_get1 rfl ?_)
  | ((with_reducible show kGet2 _ _ _ _ _); refine k_get2 ?_)
  | ((with_reducible show vSetL _ _ _ _ _); refine u_setL ?_)
  | ((with_reducible show kSetL1 _ _ _ _ _); refine k_setL1 rfl ?_)
  | ((with_reducible show kSetL2 _ _ _ _ _); (first | refine k_setL2j 0 rfl rfl (by simp) rfl ?_ | refine k_setL2j 1 rfl rfl (by simp) rfl ?_ | refine k_setL2j 2 rfl rfl (by simp) rfl ?_))
  | ((with_reducible show vPutD _ _ _ _ _); refine u_putD ?_)
  | ((with_reducible show kPutD1 _ _ _ _ _); refine k_putD1 rfl ?_)
  | ((with_reducible show vAugL _ _ _ _ _ _); refine u_augL rfl ?_)
  | ((with_reducible show kAugL1 _ _ _ _ _ _); (first | refine k_augL1j 0 rfl rfl rfl ?_ | refine k_augL1j 1 rfl rfl rfl ?_ | refine k_augL1j 2 rfl rfl rfl ?_))
  | ((with_reducible show kAugL2 _ _ _ _ _ _ _); refine k_augL2j rfl (by simp) ?_)
  | ((with_reducible show vAug _ _ _ _ _); refine u_aug rfl ?_)
  | ((with_reducible show kAug _ _ _ _ _ _); (first | refine k_augAdd rfl ?_ | refine k_augSub rfl ?_))
  | ((with_reducible show vCall _ _ _ _); refine u_call ?_)
  | ((with_reducible show gN _ _ _ _); (first | refine u_gN rfl rfl ?_ | refine u_gN rfl (by assumption) ?_))
  | ((with_reducible show gT _ _ _ _); refine u_gT rfl ?_)
  | ((with_reducible show gL _ _ _ _); refine u_gL rfl rfl ?_)
  | ((with_reducible show gTs _ _ _ _); (first | refine u_gTs0 ?_ | refine u_gTs ?_))
  | ((with_reducible show vItL _ _ _); refine u_itL ?_)
  | ((with_reducible show kItL _ _ _); refine k_itL rfl rfl ?_)
  | ((with_reducible show vItT _ _ _); refine u_itT ?_)
  | ((with_reducible show kItT _ _ _); refine k_itT rfl rfl ?_)
  | ((with_reducible show vItR1 _ _ _); refine u_itR1 ?_)
  | ((with_reducible show vItR2 _ _ _); refine u_itR2 ?_)
  | ((with_reducible show vFor _ _ _ _ _); refine u_for ?_)
  | ((with_reducible show vLc _ _ _ _ _ _ _); refine u_lc ?_)
  | ((with_reducible show vLcK _ _ _ _ _ _ _); refine u_lcK rfl ?_)
  | ((with_reducible show vYes _ _); refine u_yes ?_)
  | ((with_reducible show kLcT _ _ _ _ _ _); refine k_lcTT ?_)
  | ((with_reducible show addP _ _); refine p_addI ?_)
  | ((with_reducible show subP _ _); refine p_subI ?_)
  | ((with_reducible show mulP _ _); (first | refine p_mulI (.inl (.inl (by omega))) ?_ | refine p_mulI (.inl (.inr (by omega))) ?_))
  | ((with_reducible show modP _ _); refine p_modI (by omega) ?_)
  | ((with_reducible show divP _ _); refine p_divI (.inl (by constructor <;> omega)) ?_)
  | ((with_reducible show negP _ _); refine p_negI ?_)
  | ((with_reducible show ltP _ _); refine p_ltI ?_)
  | ((with_reducible show leP _ _); refine p_leI ?_)
  | ((with_reducible show gtP _ _); refine p_gtI ?_)
  | ((with_reducible show geP _ _); refine p_geI ?_)
  | ((with_reducible show eqP _ _); (first | refine p_eqI ?_ | refine p_eqS ?_ | refine p_eqB ?_ | refine p_eqN ?_))
  | ((with_reducible show neP _ _); (first | refine p_neI ?_ | refine p_neS ?_ | refine p_neB ?_))
  | ((with_reducible show isNP _ _); (first | refine p_isNn ?_ | refine p_isNi ?_ | refine p_isNs ?_ | refine p_isNb ?_ | refine p_isNl ?_ | refine p_isNt ?_ | refine p_isNd ?_))
  | ((with_reducible show notNP _ _); (first | refine p_notNn ?_ | refine p_notNi ?_ | refine p_notNs ?_ | refine p_notNb ?_ | refine p_notNl ?_ | refine p_notNt ?_ | refine p_notNd ?_))
  | ((with_reducible show isiP _ _); refine p_isi rfl rfl ?_)
  | ((with_reducible show isiTP _ _); refine p_isiT rfl rfl ?_)
  | ((with_reducible show reprP _ _); (first | refine p_reprB ?_ | refine p_reprN ?_))
  | ((with_reducible show lenP _ _); (first | refine p_lenL ?_ | refine p_lenF ?_ | refine p_lenT ?_ | refine p_lenD ?_))
  | ((with_reducible show absP _ _); refine p_absI ?_)
  | ((with_reducible show intP _ _); refine p_intI ?_)
  | ((with_reducible show listP _ _); (first | refine p_listL ?_ | refine p_listF ?_ | refine p_listD ?_))
  | ((with_reducible show ixP _ _); (first | refine p_ixLj 0 rfl rfl ?_ | refine p_ixLj 1 rfl rfl ?_ | refine p_ixLj 2 rfl rfl ?_ | refine p_ixLj 3 rfl rfl ?_ | refine p_ixTj 0 rfl rfl ?_ | refine p_ixTj 1 rfl rfl ?_ | refine p_ixTj 2 rfl rfl ?_ | refine p_ixTj 3 rfl rfl ?_))
  | ((with_reducible show inP _ _ _); (first | refine p_inS0 ?_ | refine p_inS1 ?_ | refine p_inI0 ?_ | refine p_inI1 ?_ | refine p_inD0 rfl ?_ | refine p_inD1 rfl ?_))
  | ((with_reducible show slP _ _ _ _); (first | refine p_slL ?_ | refine p_slF ?_))
  | ((with_reducible show sumP _ _); refine p_sum ?_)
  | ((with_reducible show maxP _ _); refine p_max2 ?_)
  | ((with_reducible show minP _ _); refine p_min2 ?_)
  | ((with_reducible show allP _ _); refine p_all ?_)
  | ((with_reducible show anyP _ _); refine p_any ?_))
local macro_rules | `(tactic| walk_at "ss") => `(tactic| repeat walk_at "s")
local macro_rules | `(tactic| walk_at "back") => `(tactic| refine k_back ?_ (by dsimp only [takeBack, backS, List.set, List.getElem?_cons_zero, List.getElem?_cons_succ]))
local macro_rules | `(tactic| walk_at "s") => `(tactic| first
  | ((with_reducible show vCallX _ _ _ _ _); refine u_callX ?_)
  | ((with_reducible show vRaise _ _ _ _ _ _); refine u_raise ?_)
  | ((with_reducible show kRaise _ _ _ _ _); refine k_raise rfl rfl (by simp) ?_)
  | ((with_reducible show vNewKs _ _); refine u_newKs ?_))
/-! K26L: lengths of any size. -/
theorem log_small {x : Int} (h0 : 0 ≤ x) (h : x ≤ 1000000) : x.natAbs.log2 < 1920 := by
  by_cases e : x.natAbs = 0
  · rw [e]; decide
  · refine (Nat.log2_lt e).mpr (Nat.lt_of_lt_of_le (show x.natAbs < 2 ^ 20 by omega) (Nat.pow_le_pow_right (by decide) (by decide)))
theorem hStep_bd {F : List Int} {l c : Int} (hF : ∀ x ∈ F, 0 ≤ x ∧ x ≤ c) (c0 : 0 ≤ c) (l0 : 0 ≤ l ∧ l ≤ 1000) : ∀ x ∈ hStep F l, 0 ≤ x ∧ x ≤ c + 1000 := fun x hx => by
  unfold hStep at hx
  rcases List.mem_or_eq_of_mem_set hx with hx | hx
  · have := hF x hx; omega
  · subst hx
    rw [List.getD_eq_getElem?_getD]
    cases e : F[minIx F]? with
    | none => simp; omega
    | some y =>
      have := hF y (List.mem_of_getElem? e)
      simp; omega
theorem fold_bd : ∀ (ns F : List Int) (c : Int), (∀ x ∈ F, 0 ≤ x ∧ x ≤ c) → 0 ≤ c → (∀ x ∈ ns, 0 ≤ x ∧ x ≤ 1000) → ∀ x ∈ ns.foldl hStep F, 0 ≤ x ∧ x ≤ c + 1000 * ns.length
  | [], F, c, hF, _, _, x, hx => by have := hF x hx; simp; omega
  | l :: ns, F, c, hF, c0, hn, x, hx => by
    have := fold_bd ns (hStep F l) (c + 1000) (hStep_bd hF c0 (hn l (List.mem_cons_self ..))) (by omega) (fun y hy => hn y (List.mem_cons_of_mem _ hy)) x hx
    rw [List.length_cons]; omega
theorem max_bd {F : List Int} {c : Int} (c0 : 0 ≤ c) (h : ∀ x ∈ F, 0 ≤ x ∧ x ≤ c) : 0 ≤ maxD0 0 F ∧ maxD0 0 F ≤ c := by
  by_cases e : F = []
  · subst e; exact ⟨Int.le_refl _, c0⟩
  · exact h _ ((maxD0_le (c := 0) (ns := F)).2 e)
theorem hT_bd {ns : List Int} {k : Int} (hl : ns.length ≤ 40) (hn : ∀ x ∈ ns, 0 ≤ x ∧ x ≤ 1000) : 0 ≤ hT ns k ∧ hT ns k ≤ 1000000 := by
  unfold hT
  split
  · have := max_bd (c := 1000) (by decide) hn; omega
  · have := max_bd (c := 0 + 1000 * ns.length) (by omega) (fold_bd ns (List.replicate k.toNat 0) 0 (fun x hx => by rw [(List.mem_replicate.mp hx).2]; omega) (by decide) hn)
    omega
theorem gTn_bd (w : Int) : ∀ (n : Nat) (xs : List Int), 0 ≤ gTn w n xs ∧ gTn w n xs ≤ n
  | 0, xs => by unfold gTn; simp
  | n + 1, [] => by unfold gTn; simp; omega
  | n + 1, x :: xs => by
    have := gTn_bd w n (gRun w xs)
    unfold gTn; omega
theorem grT_bd {ns : List Int} {w : Int} (hl : ns.length ≤ 1000) : 0 ≤ grT w ns ∧ grT w ns ≤ 1000000 := by
  have := gTn_bd w ns.length ns
  unfold grT; omega
theorem okL_of {ns : List Int} (hl : ns.length ≤ 40) (hn : ∀ x ∈ ns, 1 ≤ x ∧ x ≤ 1000) : okL ns := by
  refine ⟨by omega, ?_⟩
  by_cases e : ns = []
  · subst e; decide
  · exact (hn _ ((maxD0_le (c := 0) (ns := ns)).2 e)).2
theorem LT_ex {ns : List Int} {w t : Int} (h : LT ns w t) : LT ns w t := h
theorem large_tail {EX : XP} {nx : Rho → Prop} {rt : Slot → Rho → Prop} {bk ct : Rho → Prop} {a b c s : Int} {ms : List Int} (s0 : 4 ≤ s) (s1 : s ≤ 1000) (hl' : ms.length ≤ 9) (hn' : ∀ x ∈ ms, 1 ≤ x ∧ x ≤ 1000) (q : ∀ a b c s2 s3 s4 s5, rt (.sh (.bl true)) [srcD a b c, s2, s3, s4, s5, .un]) :
    (vSeq (vSet 3 (vCall S_choice (vCons (vPk 0) (vCons (vVal (vSh (vLst (vCons (vVal (vC (.int 0))) (vCons (vVal (vC (.int 1))) (vCons (vVal (vC (.int 2))) (vCons (vVal (vC (.int 5))) (vCons (vVal (vVar 1)) (vCons (vVal (vBin mulP (vVal (vC (.int 3))) (vPk 1))) (vNil)))))))))) (vNil)))))
    (vSeq (vSet 4 (vCall S_pick (vCons (vPk 0) (vCons (vVal (vC (.int 7))) (vNil)))))
    (vSeq (vIf (vOr (vNot (vTru (vVal (vCall S_same (vCons (vVal (vSh (vCallX EX S_hands_time (vCons (vVal (vSh (vPrim listP (vCons (vPk 2) (vNil))))) (vCons (vVal (vVar 4)) (vNil)))))) (vCons (vVal (vSh (vCall S_k26_laid (vCons (vVal (vVar 2)) (vCons (vVal (vVar 4)) (vNil)))))) (vNil))))))) (vNot (vTru (vVal (vCall S_same (vCons (vVal (vSh (vCallX EX S_group_turns (vCons (vVal (vSh (vPrim listP (vCons (vPk 2) (vNil))))) (vCons (vVal (vVar 3)) (vNil)))))) (vCons (vVal (vSh (vCall S_k26_groups (vCons (vVal (vVar 2)) (vCons (vVal (vVar 3)) (vNil)))))) (vNil)))))))) (vRet (vC (.bl false))) (vNext))
    (vRet (vCall S_k26_least (vCons (vVal (vVar 2)) (vCons (vVal (vVar 3)) (vCons (vVal (vSh (vCallX EX S_line_turns (vCons (vVal (vSh (vPrim listP (vCons (vPk 2) (vNil))))) (vCons (vVal (vVar 3)) (vNil)))))) (vNil))))))))) (.mk nx rt bk ct) [srcD a b c, .sh (.int s), .ow false (.lst (ms.map D.int)), .un, .un, .un] := by
  have ok := okL_of (by omega) hn'
  have hlz : ms.length ≤ 100000 := by omega
  walk_at "ss"
  refine k_call rfl ⟨a, b, c, _, rfl, by simp, by simp, fun a b c d hd => ?_⟩
  walk_at "back"
  obtain ⟨w, ew, w0, w1⟩ : ∃ w : Int, d = .int w ∧ 0 ≤ w ∧ w ≤ 3000 := by
    simp only [List.mem_cons, List.not_mem_nil, or_false] at hd
    rcases hd with rfl | rfl | rfl | rfl | rfl | rfl <;> exact ⟨_, rfl, by omega, by omega⟩
  subst ew
  clear hd
  walk_at "ss"
  refine k_call rfl ⟨a, b, c, 7, rfl, by omega, by omega, fun a b c k k0 k1 => ?_⟩
  walk_at "back"
  walk_at "ss"
  refine k_callX rfl ⟨ms, k, rfl, hlz, k0, by omega, fun _ _ => ?_, fun nok => absurd ok nok, fun _ hk => by omega⟩
  walk_at "back"
  walk_at "ss"
  refine k_call rfl ⟨ms, k, rfl, hlz, fun x hx => by have := hn' x hx; omega, k0, by omega, ?_⟩
  walk_at "back"
  walk_at "ss"
  have b1 := hT_bd (k := k) (show ms.length ≤ 40 by omega) fun x hx => by have := hn' x hx; omega
  refine k_call rfl ⟨_, rfl, .int (log_small b1.1 b1.2), ?_⟩
  walk_at "back"
  walk_at "ss"
  refine k_callX rfl ⟨ms, w, rfl, hlz, fun _ => ?_, fun nok => absurd ok nok⟩
  walk_at "back"
  walk_at "ss"
  refine k_call rfl ⟨ms, w, rfl, hlz, ?_⟩
  walk_at "back"
  walk_at "ss"
  have b2 := grT_bd (w := w) (show ms.length ≤ 1000 by omega)
  refine k_call rfl ⟨_, rfl, .int (log_small b2.1 b2.2), ?_⟩
  walk_at "back"
  walk_at "ss"
  refine k_callX rfl ⟨ms, w, rfl, hlz, fun x hx => by have := hn' x hx; omega, w0, by omega, fun _ t ht => ?_, fun nok => absurd ok nok⟩
  walk_at "back"
  walk_at "ss"
  refine k_call rfl ⟨ms, w, t, rfl, hlz, w0, by omega, ht, ?_⟩
  walk_at "back"
  walk_at "ss"
  exact q _ _ _ _ _ _ _
theorem rd_k26_large : Reads S_k26_large (fun EX => v_k26_large EX) 5 := fun ρs R RX h => by
  obtain ⟨a, b, c, rfl, q⟩ := h
  unfold v_k26_large
  show vSeq _ _ _ [srcD a b c, .un, .un, .un, .un, .un]
  walk_at "ss"
  refine k_call rfl ⟨a, b, c, _, rfl, by simp, by simp, fun a b c d hd => ?_⟩
  walk_at "back"
  obtain ⟨s, es, s0, s1⟩ : ∃ s : Int, d = .int s ∧ 4 ≤ s ∧ s ≤ 1000 := by
    simp only [List.mem_cons, List.not_mem_nil, or_false] at hd
    rcases hd with rfl | rfl | rfl | rfl
    · exact ⟨_, rfl, by omega, by omega⟩
    · exact ⟨_, rfl, by omega, by omega⟩
    · exact ⟨_, rfl, by omega, by omega⟩
    · exact ⟨_, rfl, by omega, by omega⟩
  subst es
  clear hd
  walk_at "ss"
  refine k_call rfl ⟨a, b, c, 9, rfl, by omega, by omega, fun a b c r r0 r1 => ?_⟩
  walk_at "back"
  walk_at "ss"
  refine k_itR1 rfl ⟨by omega, by omega⟩ ?_
  refine k_lc (free1 rfl rfl) (fun j acc ρ => ∃ a b c, ∃ ns : List Int, acc = ns.map D.int ∧ ns.length = j ∧ (∀ x ∈ ns, 1 ≤ x ∧ x ≤ 1000) ∧ ρ = [srcD a b c, .sh (.int s), .un, .un, .un, .un]) ⟨_, _, _, [], rfl, rfl, by simp, rfl⟩ ?_ ?_
  · rintro j acc d ρ' hj ⟨a, b, c, ns, rfl, hl, hn, rfl⟩
    have hjl : j < 9 := by have := (List.getElem?_eq_some_iff.mp hj).1; unfold rangeD at this; simp at this; omega
    walk_at "ss"
    refine k_call rfl ⟨a, b, c, s, rfl, by omega, by omega, fun a1 b1 c1 x x0 x1 => ?_⟩
    walk_at "back"
    walk_at "ss"
    refine k_lcE rfl (small16 (by rw [List.length_map]; omega)) ?_
    refine ⟨a1, b1, c1, ns ++ [1 + x], by simp, by simp [hl], fun y hy => ?_, rfl⟩
    rcases List.mem_append.mp hy with hy | hy
    · exact hn y hy
    · rw [List.mem_singleton.mp hy]; omega
  · rintro acc ρ' ⟨a, b, c, ns, rfl, hl, hn, rfl⟩
    have hl : ns.length ≤ 8 := by rw [hl]; unfold rangeD; simp; omega
    walk_at "ss"
    refine k_call rfl ⟨a, b, c, 4, rfl, by omega, by omega, fun a b c z z0 z1 => ?_⟩
    walk_at "back"
    walk_at "ss"
    refine k_ifD (fun _ => ?_) (fun _ => ?_)
    · refine u_set ?_
      generalize hK : kSet 2 _ = KK
      walk_at "ss"
      have hz1 : (ns.map D.int).length + [D.int 1000].length ≤ sizeLine := small16' (by rw [List.length_map]; simp; omega)
      refine p_addL hz1 ?_
      rw [show ns.map D.int ++ [D.int 1000] = (ns ++ [1000]).map D.int by simp]
      walk_at "ss"
      rw [← hK]
      refine k_set rfl rfl ?_
      exact large_tail s0 s1 (by simp; omega) (fun y hy => by
        rcases List.mem_append.mp hy with hy | hy
        · exact hn y hy
        · rw [List.mem_singleton.mp hy]; omega) fun _ _ _ _ _ _ _ => q _ _ _
    · refine u_next ?_
      exact large_tail s0 s1 (by omega) hn fun _ _ _ _ _ _ _ => q _ _ _
end WL

set_option Elab.async false
set_option linter.all false
set_option maxRecDepth 100000
set_option maxHeartbeats 4000000
namespace WL
open PySem PySem.Spec PyProof.Rows L2
variable [TBs]
local macro_rules | `(tactic| walk_at "s") => `(tactic| first
  | ((with_reducible show vSeq _ _ _ _); refine u_seq ?_)
  | ((with_reducible show vSet _ _ _ _); refine u_set ?_)
  | ((with_reducible show kSet _ _ _ _); (first | refine k_set rfl rfl ?_ | refine k_set rfl (by assumption) ?_))
  | ((with_reducible show vRet _ _ _); refine u_ret ?_)
  | ((with_reducible show vIf _ _ _ _ _); refine u_if ?_)
  | ((with_reducible show vExpr _ _ _); refine u_expr ?_)
  | ((with_reducible show kExpr _ _ _); refine k_expr ?_)
  | ((with_reducible show vRetN _ _); refine u_retN ?_)
  | ((with_reducible show vAsg _ _ _ _); refine u_asg ?_)
  | ((with_reducible show kAsg _ _ _ _); refine k_asg rfl ?_)
  | ((with_reducible show vNext _ _); refine u_next ?_)
  | ((with_reducible show vBreak _ _); refine u_break ?_)
  | ((with_reducible show vCont _ _); refine u_cont ?_)
  | ((with_reducible show kIf _ _ _ _ _); (first | refine k_ifT ?_ | refine k_ifF ?_))
  | ((with_reducible show vVal _ _ _); refine u_val ?_)
  | ((with_reducible show kVal _ _ _); refine k_val ?_)
  | ((with_reducible show vPk _ _ _); refine u_pk rfl rfl ?_)
  | ((with_reducible show vC _ _ _); refine u_c ?_)
  | ((with_reducible show vVar _ _ _); (first | refine u_var rfl ?_ | refine u_varL rfl ?_ | refine u_varD rfl ?_ | refine u_varE rfl ?_))
  | ((with_reducible show vMv _ _ _); (first | refine u_mv rfl ?_ | refine u_mvO rfl ?_))
  | ((with_reducible show vBin _ _ _ _ _); refine u_bin ?_)
  | ((with_reducible show kBin1 _ _ _ _ _); refine k_bin1 ?_)
  | ((with_reducible show kBin2 _ _ _ _ _); refine k_bin2 rfl rfl ?_)
  | ((with_reducible show vUn _ _ _ _); refine u_un ?_)
  | ((with_reducible show kUn _ _ _ _); refine k_un rfl ?_)
  | ((with_reducible show vCons _ _ _ _); refine u_cons ?_)
  | ((with_reducible show kCons1 _ _ _ _); refine k_cons1 ?_)
  | ((with_reducible show vNil _ _); refine u_nil ?_)
  | ((with_reducible show kCons2 _ _ _ _); refine k_cons2 ?_)
  | ((with_reducible show vPrim _ _ _ _); refine u_prim ?_)
  | ((with_reducible show kPrim _ _ _ _); (first | refine k_prim1 rfl ?_ | refine k_prim2 rfl rfl ?_))
  | ((with_reducible show kRet _ _ _); (first | refine k_retV ?_ | refine k_retL ?_ | refine k_retT ?_ | refine k_retD ?_))
  | ((with_reducible show vSh _ _ _); refine u_sh ?_)
  | ((with_reducible show kSh _ _ _); (first | refine k_sh ?_ | refine k_shL ?_ | refine k_shD ?_))
  | ((with_reducible show vT _ _ _); refine u_t ?_)
  | ((with_reducible show kT _ _ _); refine k_t ?_)
  | ((with_reducible show vTru _ _ _); refine u_tru ?_)
  | ((with_reducible show kTru _ _ _); refine k_tru rfl rfl ?_)
  | ((with_reducible show vAnd _ _ _ _); refine u_and ?_)
  | ((with_reducible show kAnd _ _ _ _); (first | refine k_andT ?_ | refine k_andF ?_))
  | ((with_reducible show vOr _ _ _ _); refine u_or ?_)
  | ((with_reducible show kOr _ _ _ _); (first | refine k_orT ?_ | refine k_orF ?_))
  | ((with_reducible show vNot _ _ _); refine u_not ?_)
  | ((with_reducible show kNot _ _ _); refine k_not ?_)
  | ((with_reducible show vAndV _ _ _ _); refine u_andV ?_)
  | ((with_reducible show kAndV _ _ _ _); (first | refine k_andVT ?_ | refine k_andVF ?_))
  | ((with_reducible show kOrV _ _ _ _); (first | refine k_orVT ?_ | refine k_orVF ?_))
  | ((with_reducible show vOrV _ _ _ _); refine u_orV ?_)
  | ((with_reducible show vNotV _ _ _); refine u_notV ?_)
  | ((with_reducible show kNotV _ _ _); refine k_notV ?_)
  | ((with_reducible show vIfE _ _ _ _ _); refine u_ifE ?_)
  | ((with_reducible show kIfE _ _ _ _ _); (first | refine k_ifET ?_ | refine k_ifEF ?_))
  | ((with_reducible show vLst _ _ _); refine u_lst ?_)
  | ((with_reducible show kLst _ _ _); refine k_lst rfl (by simp only [List.length_cons, List.length_nil]; decide) ?_)
  | ((with_reducible show vTup _ _ _); refine u_tup ?_)
  | ((with_reducible show kTup _ _ _); refine k_tup rfl (by simp only [List.length_cons, List.length_nil]; decide) ?_)
  | ((with_reducible show vNewD _ _); refine u_newD ?_)
  | ((with_reducible show vSl _ _ _ _ _); refine u_sl ?_)
  | ((with_reducible show kSl0 _ _ _ _ _); refine k_sl0 ?_)
  | ((with_reducible show kSl1 _ _ _ _ _); refine k_sl1 ?_)
  | ((with_reducible show kSl2 _ _ _ _ _); refine k_sl2 rfl ?_)
  | ((with_reducible show vNoPart _ _); refine u_noPart ?_)
  | ((with_reducible show vPart _ _ _); refine u_part ?_)
  | ((with_reducible show kPart _ _ _); refine k_part ?_)
  | ((with_reducible show vApp _ _ _ _); refine u_app rfl ?_)
  | ((with_reducible show vPopAt _ _ _ _); refine u_popAt rfl ?_)
  | ((with_reducible show vExt _ _ _ _); refine u_ext rfl ?_)
  | ((with_reducible show vM1 _ _ _ _ _); refine u_m1 ?_)
  | ((with_reducible show kM1a _ _ _ _ _); refine k_m1a rfl ?_)
  | ((with_reducible show kM1b _ _ _ _ _); refine k_m1b rfl rfl ?_)
  | ((with_reducible show vGet2 _ _ _ _ _); refine u_get2 ?_)
  | ((with_reducible show kGet1 _ _ _ _ _); refine k_get1 rfl ?_)
  | ((with_reducible show kGet2 _ _ _ _ _); refine k_get2 ?_)
  | ((with_reducible show vSetL _ _ _ _ _); refine u_setL ?_)
  | ((with_reducible show kSetL1 _ _ _ _ _); refine k_setL1 rfl ?_)
  | ((with_reducible show kSetL2 _ _ _ _ _); (first | refine k_setL2j 0 rfl rfl (by simp) rfl ?_ | refine k_setL2j 1 rfl rfl (by simp) rfl ?_ | refine k_setL2j 2 rfl rfl (by simp) rfl ?_))
  | ((with_reducible show vPutD _ _ _ _ _); refine u_putD ?_)
  | ((with_reducible show kPutD1 _ _ _ _ _); refine k_putD1 rfl ?_)
  | ((with_reducible show vAugL _ _ _ _ _ _); refine u_augL rfl ?_)
  | ((with_reducible show kAugL1 _ _ _ _ _ _); (first | refine k_augL1j 0 rfl rfl rfl ?_ | refine k_augL1j 1 rfl rfl rfl ?_ | refine k_augL1j 2 rfl rfl rfl ?_))
  | ((with_reducible show kAugL2 _ _ _ _ _ _ _); refine k_augL2j rfl (by simp) ?_)
  | ((with_reducible show vAug _ _ _ _ _); refine u_aug rfl ?_)
  | ((with_reducible show kAug _ _ _ _ _ _); (first | refine k_augAdd rfl ?_ | refine k_augSub rfl ?_))
  | ((with_reducible show vCall _ _ _ _); refine u_call ?_)
  | ((with_reducible show gN _ _ _ _); (first | refine u_gN rfl rfl ?_ | refine u_gN rfl (by assumption) ?_))
  | ((with_reducible show gT _ _ _ _); refine u_gT rfl ?_)
  | ((with_reducible show gL _ _ _ _); refine u_gL rfl rfl ?_)
  | ((with_reducible show gTs _ _ _ _); (first | refine u_gTs0 ?_ | refine u_gTs ?_))
  | ((with_reducible show vItL _ _ _); refine u_itL ?_)
  | ((with_reducible show kItL _ _ _); refine k_itL rfl rfl ?_)
  | ((with_reducible show vItT _ _ _); refine u_itT ?_)
  | ((with_reducible show kItT _ _ _); refine k_itT rfl rfl ?_)
  | ((with_reducible show vItR1 _ _ _); refine u_itR1 ?_)
  | ((with_reducible show vItR2 _ _ _); refine u_itR2 ?_)
  | ((with_reducible show vFor _ _ _ _ _); refine u_for ?_)
  | ((with_reducible show vLc _ _ _ _ _ _ _); refine u_lc ?_)
  | ((with_reducible show vLcK _ _ _ _ _ _ _); refine u_lcK rfl ?_)
  | ((with_reducible show vYes _ _); refine u_yes ?_)
  | ((with_reducible show kLcT _ _ _ _ _ _); refine k_lcTT ?_)
  | ((with_reducible show addP _ _); refine p_addI ?_)
  | ((with_reducible show subP _ _); refine p_subI ?_)
  | ((with_reducible show mulP _ _); (first | refine p_mulI (.inl (.inl (by omega))) ?_ | refine p_mulI (.inl (.inr (by omega))) ?_))
  | ((with_reducible show modP _ _); refine p_modI (by omega) ?_)
  | ((with_reducible show divP _ _); refine p_divI (.inl (by constructor <;> omega)) ?_)
  | ((with_reducible show negP _ _); refine p_negI ?_)
  | ((with_reducible show ltP _ _); refine p_ltI ?_)
  | ((with_reducible show leP _ _); refine p_leI ?_)
  | ((with_reducible show gtP _ _); refine p_gtI ?_)
  | ((with_reducible show geP _ _); refine p_geI ?_)
  | ((with_reducible show eqP _ _); (first | refine p_eqI ?_ | refine p_eqS ?_ | refine p_eqB ?_ | refine p_eqN ?_))
  | ((with_reducible show neP _ _); (first | refine p_neI ?_ | refine p_neS ?_ | refine p_neB ?_))
  | ((with_reducible show isNP _ _); (first | refine p_isNn ?_ | refine p_isNi ?_ | refine p_isNs ?_ | refine p_isNb ?_ | refine p_isNl ?_ | refine p_isNt ?_ | refine p_isNd ?_))
  | ((with_reducible show notNP _ _); (first | refine p_notNn ?_ | refine p_notNi ?_ | refine p_notNs ?_ | refine p_notNb ?_ | refine p_notNl ?_ | refine p_notNt ?_ | refine p_notNd ?_))
  | ((with_reducible show isiP _ _); refine p_isi rfl rfl ?_)
  | ((with_reducible show isiTP _ _); refine p_isiT rfl rfl ?_)
  | ((with_reducible show reprP _ _); (first | refine p_reprB ?_ | refine p_reprN ?_))
  | ((with_reducible show lenP _ _); (first | refine p_lenL ?_ | refine p_lenF ?_ | refine p_lenT ?_ | refine p_lenD ?_))
  | ((with_reducible show absP _ _); refine p_absI ?_)
  | ((with_reducible show intP _ _); refine p_intI ?_)
  | ((with_reducible show listP _ _); (first | refine p_listL ?_ | refine p_listF ?_ | refine p_listD ?_))
  | ((with_reducible show ixP _ _); (first | refine p_ixLj 0 rfl rfl ?_ | refine p_ixLj 1 rfl rfl ?_ | refine p_ixLj 2 rfl rfl ?_ | refine p_ixLj 3 rfl rfl ?_ | refine p_ixTj 0 rfl rfl ?_ | refine p_ixTj 1 rfl rfl ?_ | refine p_ixTj 2 rfl rfl ?_ | refine p_ixTj 3 rfl rfl ?_))
  | ((with_reducible show inP _ _ _); (first | refine p_inS0 ?_ | refine p_inS1 ?_ | refine p_inI0 ?_ | refine p_inI1 ?_ | refine p_inD0 rfl ?_ | refine p_inD1 rfl ?_))
  | ((with_reducible show slP _ _ _ _); (first | refine p_slL ?_ | refine p_slF ?_))
  | ((with_reducible show sumP _ _); refine p_sum ?_)
  | ((with_reducible show maxP _ _); refine p_max2 ?_)
  | ((with_reducible show minP _ _); refine p_min2 ?_)
  | ((with_reducible show allP _ _); refine p_all ?_)
  | ((with_reducible show anyP _ _); refine p_any ?_))
local macro_rules | `(tactic| walk_at "ss") => `(tactic| repeat walk_at "s")
local macro_rules | `(tactic| walk_at "back") => `(tactic| refine k_back ?_ (by dsimp only [takeBack, backS, List.set, List.getElem?_cons_zero, List.getElem?_cons_succ]))
local macro_rules | `(tactic| walk_at "s") => `(tactic| first
  | ((with_reducible show vCallX _ _ _ _ _); refine u_callX ?_)
  | ((with_reducible show vRaise _ _ _ _ _ _); refine u_raise ?_)
  | ((with_reducible show kRaise _ _ _ _ _); refine k_raise rfl rfl (by simp) ?_)
  | ((with_reducible show vNewKs _ _); refine u_newKs ?_))
/-! K26N: both sides of each bound. -/
theorem lamB1 {ns : List Int} {k : Int} (hz : ns.length ≤ 100000) (k0 : 0 ≤ k) (k1 : k ≤ 100000) {R' : Slot → List Slot → Prop} {RX' : Value → List (Str × D) → List Slot → Prop} (h1 : okL ns → k ≤ 40 → ∀ ss, R' (.sh (.int (hT ns k))) ss) (h2 : ¬ okL ns → ∀ ss, RX' TM [("what", .str "lengths")] ss) (h3 : okL ns → 40 < k → ∀ ss, RX' TM [("what", .str "hands")] ss) :
    lamS 2 w_k26_bounds_1 ([iL ns, .int k].map Slot.sh) R' RX' := by
  refine ⟨rfl, ?_⟩
  unfold w_k26_bounds_1
  show vCallX _ _ _ [.sh (iL ns), .sh (.int k)] _
  walk_at "ss"
  refine k_callX rfl ⟨ns, k, rfl, hz, k0, k1, fun ok hk => ?_, fun nok => h2 nok _, fun ok hk => h3 ok hk _⟩
  walk_at "back"
  exact h1 ok hk _
theorem lamB2 {ns : List Int} (hz : ns.length ≤ 100000) (hn : ∀ x ∈ ns, 1 ≤ x ∧ x ≤ 100000) {R' : Slot → List Slot → Prop} {RX' : Value → List (Str × D) → List Slot → Prop} (h1 : okL ns → ∀ t, LT ns 0 t → ∀ ss, R' (.sh (.int t)) ss) (h2 : ¬ okL ns → ∀ ss, RX' TM [("what", .str "lengths")] ss) :
    lamS 1 w_k26_bounds_2 ([iL ns].map Slot.sh) R' RX' := by
  refine ⟨rfl, ?_⟩
  unfold w_k26_bounds_2
  show vCallX _ _ _ [.sh (iL ns)] _
  walk_at "ss"
  refine k_callX rfl ⟨ns, 0, rfl, hz, hn, by omega, by omega, fun ok t ht => ?_, fun nok => h2 nok _⟩
  walk_at "back"
  exact h1 ok t ht _
theorem lamB3 {ns : List Int} (hz : ns.length ≤ 100000) {R' : Slot → List Slot → Prop} {RX' : Value → List (Str × D) → List Slot → Prop} (h1 : okL ns → ∀ ss, R' (.sh (.int (grT 3 ns))) ss) (h2 : ¬ okL ns → ∀ ss, RX' TM [("what", .str "lengths")] ss) :
    lamS 1 w_k26_bounds_3 ([iL ns].map Slot.sh) R' RX' := by
  refine ⟨rfl, ?_⟩
  unfold w_k26_bounds_3
  show vCallX _ _ _ [.sh (iL ns)] _
  walk_at "ss"
  refine k_callX rfl ⟨ns, 3, rfl, hz, fun ok => ?_, fun nok => h2 nok _⟩
  walk_at "back"
  exact h1 ok _
def tmD (x : Str) : D := .tup [.str "TooMany", .str x]
theorem sm_tm {k : Nat} {x : Str} (h : (reprText x).length ≤ sizeLine) : Sm (k + 1) (tmD x) := .tup (fun d hd => by
  rcases List.mem_cons.mp hd with rfl | hd
  · exact .str (by decide +kernel)
  · rw [List.mem_singleton.mp hd]
    exact .str h) (by simp)
theorem ones_ok : okL (List.replicate 40 1) := by decide +kernel
theorem ones_39 : hT (List.replicate 40 1) 39 = 2 := by decide +kernel
theorem ones_40 : hT (List.replicate 40 1) 40 = 1 := by decide +kernel
theorem ones_g : grT 3 (List.replicate 40 1) = 10 := by decide +kernel
theorem ones_l : LT (List.replicate 40 1) 0 1 := by decide +kernel
theorem bounds_free {rt : Slot → Rho → Prop} {bk ct nx : Rho → Prop} {a b c many hands : Int} {s3 s4 s8 : Slot} (q : ∀ s3 s4 s8 s9 s10, rt (.sh (.bl true)) [srcD a b c, .sh (.int many), .sh (iL (List.replicate 40 1)), s3, s4, .sh (.int hands), .sh (tmD "lengths"), .sh (.bl false), s8, s9, s10]) :
    (vSeq (vSet 9 (vLamC [2] [none] (SG_k26_told (lamS 1 (w_k26_bounds_2)))))
    (vSeq (vSet 10 (vLamC [2] [none] (SG_k26_told (lamS 1 (w_k26_bounds_3)))))
    (vRet (vAndV (vCall S_same (vCons (vVal (vVar 9)) (vCons (vVal (vSh (vIfE (vTru (vPk 7)) (vVar 6) (vC (.int 1))))) (vNil)))) (vCall S_same (vCons (vVal (vVar 10)) (vCons (vVal (vSh (vIfE (vTru (vPk 7)) (vVar 6) (vC (.int 10))))) (vNil)))))))) (.mk nx rt bk ct) [srcD a b c, .sh (.int many), .sh (iL (List.replicate 40 1)), s3, s4, .sh (.int hands), .sh (tmD "lengths"), .sh (.bl false), s8, .un, .un] := by
  have hl40 : (List.replicate 40 (1 : Int)).length ≤ 100000 := by decide
  walk_at "ss"
  refine ⟨[iL (List.replicate 40 1)], rfl, fun f => ⟨_, rfl, rfl, fun R' RX' hi _ => lamB2 hl40 (fun x hx => by rw [(List.mem_replicate.mp hx).2]; omega) (fun _ t ht ss => hi _ ss ?_) (fun nok => absurd ones_ok nok)⟩⟩
  rw [LT_uniq (by decide) ht ones_l]
  walk_at "ss"
  refine ⟨[iL (List.replicate 40 1)], rfl, fun f => ⟨_, rfl, rfl, fun R' RX' hi _ => lamB3 hl40 (fun _ ss => hi _ ss ?_) (fun nok => absurd ones_ok nok)⟩⟩
  rw [ones_g]
  walk_at "ss"
  refine k_call rfl ⟨.int 1, rfl, .int (by decide), ?_⟩
  walk_at "back"
  walk_at "ss"
  refine k_call rfl ⟨.int 10, rfl, .int (by decide), ?_⟩
  walk_at "back"
  walk_at "ss"
  exact q _ _ _ _ _
theorem bounds_tail {rt : Slot → Rho → Prop} {bk ct nx : Rho → Prop} {a b c many hands : Int} {s3 s4 : Slot} {past : Bool} {ns : List Int} (hz : ns.length ≤ 41) (hn : ∀ x ∈ ns, 1 ≤ x ∧ x ≤ 1001) (h0 : past = false → ns = List.replicate 40 1) (h1 : past = true → ¬ okL ns) (hh : 39 ≤ hands ∧ hands ≤ 41) (q : ∀ s3 s4 s8 s9 s10, rt (.sh (.bl true)) [srcD a b c, .sh (.int many), .sh (iL ns), s3, s4, .sh (.int hands), .sh (tmD "lengths"), .sh (.bl past), s8, s9, s10]) :
    (vSeq (vSet 8 (vIfE (vTru (vPk 7)) (vVar 6) (vIfE (vT (vBin gtP (vPk 5) (vVal (vC (.int 40))))) (vTup (vCons (vVal (vC (.str "TooMany"))) (vCons (vVal (vC (.str "hands"))) (vNil)))) (vIfE (vT (vBin eqP (vPk 5) (vVal (vC (.int 40))))) (vC (.int 1)) (vC (.int 2))))))
    (vSeq (vIf (vNot (vTru (vVal (vCall S_same (vCons (vVal (vSh (vLamC [2, 5] [none] (SG_k26_told (lamS 2 (w_k26_bounds_1)))))) (vCons (vVal (vVar 8)) (vNil))))))) (vRet (vC (.bl false))) (vNext))
    (vSeq (vSet 9 (vLamC [2] [none] (SG_k26_told (lamS 1 (w_k26_bounds_2)))))
    (vSeq (vSet 10 (vLamC [2] [none] (SG_k26_told (lamS 1 (w_k26_bounds_3)))))
    (vRet (vAndV (vCall S_same (vCons (vVal (vVar 9)) (vCons (vVal (vSh (vIfE (vTru (vPk 7)) (vVar 6) (vC (.int 1))))) (vNil)))) (vCall S_same (vCons (vVal (vVar 10)) (vCons (vVal (vSh (vIfE (vTru (vPk 7)) (vVar 6) (vC (.int 10))))) (vNil)))))))))) (.mk nx rt bk ct) [srcD a b c, .sh (.int many), .sh (iL ns), s3, s4, .sh (.int hands), .sh (tmD "lengths"), .sh (.bl past), .un, .un, .un] := by
  cases past with
  | true =>
    have nok := h1 rfl
    walk_at "ss"
    refine ⟨[iL ns, .int hands], rfl, fun f => ⟨_, rfl, rfl, fun R' RX' _ hx => lamB1 (by omega) (by omega) (by omega) (fun ok _ => absurd ok nok) (fun _ ss => hx _ ss ?_) fun ok _ => absurd ok nok⟩⟩
    walk_at "ss"
    refine k_call rfl ⟨tmD "lengths", rfl, sm_tm (by decide +kernel), ?_⟩
    walk_at "back"
    walk_at "ss"
    refine ⟨[iL ns], rfl, fun f => ⟨_, rfl, rfl, fun R' RX' _ hx => lamB2 (by omega) (fun x hx => by have := hn x hx; omega) (fun ok => absurd ok nok) (fun _ ss => hx _ ss ?_)⟩⟩
    walk_at "ss"
    refine ⟨[iL ns], rfl, fun f => ⟨_, rfl, rfl, fun R' RX' _ hx => lamB3 (by omega) (fun ok => absurd ok nok) (fun _ ss => hx _ ss ?_)⟩⟩
    walk_at "ss"
    refine k_call rfl ⟨tmD "lengths", rfl, sm_tm (by decide +kernel), ?_⟩
    walk_at "back"
    walk_at "ss"
    refine k_call rfl ⟨tmD "lengths", rfl, sm_tm (by decide +kernel), ?_⟩
    walk_at "back"
    walk_at "ss"
    exact q _ _ _ _ _
  | false =>
    have e := h0 rfl
    subst e
    have hl40 : (List.replicate 40 (1 : Int)).length ≤ 100000 := by decide
    obtain e | e | e : hands = 39 ∨ hands = 40 ∨ hands = 41 := by omega
    · subst e
      walk_at "ss"
      refine ⟨[iL (List.replicate 40 1), .int 39], rfl, fun f => ⟨_, rfl, rfl, fun R' RX' hi _ => lamB1 hl40 (by omega) (by omega) (fun _ _ ss => hi _ ss ?_) (fun nok => absurd ones_ok nok) fun _ hk => absurd hk (by omega)⟩⟩
      rw [ones_39]
      walk_at "ss"
      refine k_call rfl ⟨.int 2, rfl, .int (by decide), ?_⟩
      walk_at "back"
      generalize hB : vSeq (vSet 9 _) _ = B9
      walk_at "ss"
      rw [← hB]
      exact bounds_free q
    · subst e
      walk_at "ss"
      refine ⟨[iL (List.replicate 40 1), .int 40], rfl, fun f => ⟨_, rfl, rfl, fun R' RX' hi _ => lamB1 hl40 (by omega) (by omega) (fun _ _ ss => hi _ ss ?_) (fun nok => absurd ones_ok nok) fun _ hk => absurd hk (by omega)⟩⟩
      rw [ones_40]
      walk_at "ss"
      refine k_call rfl ⟨.int 1, rfl, .int (by decide), ?_⟩
      walk_at "back"
      generalize hB : vSeq (vSet 9 _) _ = B9
      walk_at "ss"
      rw [← hB]
      exact bounds_free q
    · subst e
      walk_at "ss"
      refine ⟨[iL (List.replicate 40 1), .int 41], rfl, fun f => ⟨_, rfl, rfl, fun R' RX' _ hx => lamB1 hl40 (by omega) (by omega) (fun _ hk => absurd hk (by omega)) (fun nok => absurd ones_ok nok) fun _ _ ss => hx _ ss ?_⟩⟩
      walk_at "ss"
      refine k_call rfl ⟨tmD "hands", rfl, sm_tm (by decide +kernel), ?_⟩
      walk_at "back"
      generalize hB : vSeq (vSet 9 _) _ = B9
      walk_at "ss"
      rw [← hB]
      exact bounds_free q
theorem nok_len {ns : List Int} (h : 40 < ns.length) : ¬ okL ns := fun z => by have := z.1; omega
theorem nok_max {ns : List Int} (h : (1001 : Int) ∈ ns) : ¬ okL ns := fun z => by
  have := (maxD0_le (c := 0) (ns := ns)).1 _ h
  have := z.2
  omega
theorem p_mulL {ds : List D} {n : Int} {R : Ret → Prop} (h0 : -(2 ^ 63) ≤ n) (h1 : n < 2 ^ 63) (hz : ds.length * n.toNat ≤ sizeLine) (h : R (.newL (List.replicate n.toNat ds).flatten)) : mulP [.lst ds, .int n] R := ⟨⟨h0, h1, hz⟩, h⟩
theorem ones_flat : ∀ n : Nat, (List.replicate n [D.int 1]).flatten = (List.replicate n (1 : Int)).map D.int
  | 0 => rfl
  | n + 1 => by rw [List.replicate_succ, List.flatten_cons, ones_flat n]; rfl
theorem rd_k26_bounds : Reads S_k26_bounds (fun _ => v_k26_bounds) 10 := fun ρs R RX h => by
  obtain ⟨a, b, c, rfl, q⟩ := h
  unfold v_k26_bounds
  show vSeq _ _ _ [srcD a b c, .un, .un, .un, .un, .un, .un, .un, .un, .un, .un]
  walk_at "ss"
  refine k_call rfl ⟨a, b, c, 2, rfl, by omega, by omega, fun a b c m m0 m1 => ?_⟩
  walk_at "back"
  walk_at "ss"
  refine p_mulL (by omega) (by omega) (small16' (by simp; omega)) ?_
  rw [ones_flat]
  walk_at "ss"
  refine k_call rfl ⟨a, b, c, 40 + m, rfl, by omega, by omega, fun a b c p p0 p1 => ?_⟩
  walk_at "back"
  walk_at "ss"
  refine k_call rfl ⟨a, b, c, 3, rfl, by omega, by omega, fun a b c z z0 z1 => ?_⟩
  walk_at "back"
  walk_at "ss"
  have hlen : ∀ n : Nat, (List.replicate n (1 : Int)).length = n := fun n => List.length_replicate
  by_cases hz : z = 0
  · rw [decide_eq_true hz]
    generalize hB : vSeq (vSet 8 _) _ = B8
    walk_at "ss"
    refine k_setL2j p.toNat (by omega) rfl (by rw [List.length_map, hlen]; omega) rfl ?_
    rw [show D.int 1001 = D.int (1001 : Int) from rfl, ← List.map_set]
    have hmem : (1001 : Int) ∈ (List.replicate (40 + m).toNat (1 : Int)).set p.toNat 1001 := List.mem_iff_getElem?.mpr ⟨p.toNat, by rw [List.getElem?_set_self (by rw [hlen]; omega)]⟩
    have hle : ((List.replicate (40 + m).toNat (1 : Int)).set p.toNat 1001).length ≤ 41 := by rw [List.length_set, hlen]; omega
    have hn : ∀ x ∈ (List.replicate (40 + m).toNat (1 : Int)).set p.toNat 1001, 1 ≤ x ∧ x ≤ 1001 := fun x hx => by
      rcases List.mem_or_eq_of_mem_set hx with hx | hx
      · rw [(List.mem_replicate.mp hx).2]; omega
      · rw [hx]; omega
    generalize (List.replicate (40 + m).toNat (1 : Int)).set p.toNat 1001 = ns at hmem hle hn
    walk_at "ss"
    refine k_call rfl ⟨a, b, c, 3, rfl, by omega, by omega, fun a b c y y0 y1 => ?_⟩
    walk_at "back"
    walk_at "ss"
    refine u_knowsO rfl ?_
    walk_at "ss"
    rw [← hB]
    exact bounds_tail hle hn (fun z => by cases z) (fun _ => nok_max hmem) (by omega) fun _ _ _ _ _ => q _ _ _
  · rw [decide_eq_false hz]
    have hle : (List.replicate (40 + m).toNat (1 : Int)).length ≤ 41 := by rw [hlen]; omega
    have hn : ∀ x ∈ List.replicate (40 + m).toNat (1 : Int), 1 ≤ x ∧ x ≤ 1001 := fun x hx => by rw [(List.mem_replicate.mp hx).2]; omega
    have hp : decide (40 < 40 + m) = true → ¬ okL (List.replicate (40 + m).toNat 1) := fun z => nok_len (by rw [hlen]; have := of_decide_eq_true z; omega)
    have hq : decide (40 < 40 + m) = false → List.replicate (40 + m).toNat (1 : Int) = List.replicate 40 1 := fun z => by
      have := of_decide_eq_false z
      rw [show (40 + m).toNat = 40 by omega]
    generalize List.replicate (40 + m).toNat (1 : Int) = ns at hle hn hp hq
    generalize hB : vSeq (vSet 8 _) _ = B8
    walk_at "ss"
    refine k_call rfl ⟨a, b, c, 3, rfl, by omega, by omega, fun a b c y y0 y1 => ?_⟩
    walk_at "back"
    walk_at "ss"
    refine u_knowsO rfl ?_
    walk_at "ss"
    rw [← hB]
    exact bounds_tail hle hn hq hp (by omega) fun _ _ _ _ _ => q _ _ _
end WL

set_option Elab.async false
set_option linter.all false
set_option maxRecDepth 100000
set_option maxHeartbeats 4000000
namespace WL
open PySem PySem.Spec PyProof.Rows L2
variable [TBs]
local macro_rules | `(tactic| walk_at "s") => `(tactic| first
  | ((with_reducible show vSeq _ _ _ _); refine u_seq ?_)
  | ((with_reducible show vSet _ _ _ _); refine u_set ?_)
  | ((with_reducible show kSet _ _ _ _); (first | refine k_set rfl rfl ?_ | refine k_set rfl (by assumption) ?_))
  | ((with_reducible show vRet _ _ _); refine u_ret ?_)
  | ((with_reducible show vIf _ _ _ _ _); refine u_if ?_)
  | ((with_reducible show vExpr _ _ _); refine u_expr ?_)
  | ((with_reducible show kExpr _ _ _); refine k_expr ?_)
  | ((with_reducible show vRetN _ _); refine u_retN ?_)
  | ((with_reducible show vAsg _ _ _ _); refine u_asg ?_)
  | ((with_reducible show kAsg _ _ _ _); refine k_asg rfl ?_)
  | ((with_reducible show vNext _ _); refine u_next ?_)
  | ((with_reducible show vBreak _ _); refine u_break ?_)
  | ((with_reducible show vCont _ _); refine u_cont ?_)
  | ((with_reducible show kIf _ _ _ _ _); (first | refine k_ifT ?_ | refine k_ifF ?_))
  | ((with_reducible show vVal _ _ _); refine u_val ?_)
  | ((with_reducible show kVal _ _ _); refine k_val ?_)
  | ((with_reducible show vPk _ _ _); refine u_pk rfl rfl ?_)
  | ((with_reducible show vC _ _ _); refine u_c ?_)
  | ((with_reducible show vVar _ _ _); (first | refine u_var rfl ?_ | refine u_varL rfl ?_ | refine u_varD rfl ?_ | refine u_varE rfl ?_))
  | ((with_reducible show vMv _ _ _); (first | refine u_mv rfl ?_ | refine u_mvO rfl ?_))
  | ((with_reducible show vBin _ _ _ _ _); refine u_bin ?_)
  | ((with_reducible show kBin1 _ _ _ _ _); refine k_bin1 ?_)
  | ((with_reducible show kBin2 _ _ _ _ _); refine k_bin2 rfl rfl ?_)
  | ((with_reducible show vUn _ _ _ _); refine u_un ?_)
  | ((with_reducible show kUn _ _ _ _); refine k_un rfl ?_)
  | ((with_reducible show vCons _ _ _ _); refine u_cons ?_)
  | ((with_reducible show kCons1 _ _ _ _); refine k_cons1 ?_)
  | ((with_reducible show vNil _ _); refine u_nil ?_)
  | ((with_reducible show kCons2 _ _ _ _); refine k_cons2 ?_)
  | ((with_reducible show vPrim _ _ _ _); refine u_prim ?_)
  | ((with_reducible show kPrim _ _ _ _); (first | refine k_prim1 rfl ?_ | refine k_prim2 rfl rfl ?_))
  | ((with_reducible show kRet _ _ _); (first | refine k_retV ?_ | refine k_retL ?_ | refine k_retT ?_ | refine k_retD ?_))
  | ((with_reducible show vSh _ _ _); refine u_sh ?_)
  | ((with_reducible show kSh _ _ _); (first | refine k_sh ?_ | refine k_shL ?_ | refine k_shD ?_))
  | ((with_reducible show vT _ _ _); refine u_t ?_)
  | ((with_reducible show kT _ _ _); refine k_t ?_)
  | ((with_reducible show vTru _ _ _); refine u_tru ?_)
  | ((with_reducible show kTru _ _ _); refine k_tru rfl rfl ?_)
  | ((with_reducible show vAnd _ _ _ _); refine u_and ?_)
  | ((with_reducible show kAnd _ _ _ _); (first | refine k_andT ?_ | refine k_andF ?_))
  | ((with_reducible show vOr _ _ _ _); refine u_or ?_)
  | ((with_reducible show kOr _ _ _ _); (first | refine k_orT ?_ | refine k_orF ?_))
  | ((with_reducible show vNot _ _ _); refine u_not ?_)
  | ((with_reducible show kNot _ _ _); refine k_not ?_)
  | ((with_reducible show vAndV _ _ _ _); refine u_andV ?_)
  | ((with_reducible show kAndV _ _ _ _); (first | refine k_andVT ?_ | refine k_andVF ?_))
  | ((with_reducible show kOrV _ _ _ _); (first | refine k_orVT ?_ | refine k_orVF ?_))
  | ((with_reducible show vOrV _ _ _ _); refine u_orV ?_)
  | ((with_reducible show vNotV _ _ _); refine u_notV ?_)
  | ((with_reducible show kNotV _ _ _); refine k_notV ?_)
  | ((with_reducible show vIfE _ _ _ _ _); refine u_ifE ?_)
  | ((with_reducible show kIfE _ _ _ _ _); (first | refine k_ifET ?_ | refine k_ifEF ?_))
  | ((with_reducible show vLst _ _ _); refine u_lst ?_)
  | ((with_reducible show kLst _ _ _); refine k_lst rfl (by simp only [List.length_cons, List.length_nil]; decide) ?_)
  | ((with_reducible show vTup _ _ _); refine u_tup ?_)
  | ((with_reducible show kTup _ _ _); refine k_tup rfl (by simp only [List.length_cons, List.length_nil]; decide) ?_)
  | ((with_reducible show vNewD _ _); refine u_newD ?_)
  | ((with_reducible show vSl _ _ _ _ _); refine u_sl ?_)
  | ((with_reducible show kSl0 _ _ _ _ _); refine k_sl0 ?_)
  | ((with_reducible show kSl1 _ _ _ _ _); refine k_sl1 ?_)
  | ((with_reducible show kSl2 _ _ _ _ _); refine k_sl2 rfl ?_)
  | ((with_reducible show vNoPart _ _); refine u_noPart ?_)
  | ((with_reducible show vPart _ _ _); refine u_part ?_)
  | ((with_reducible show kPart _ _ _); refine k_part ?_)
  | ((with_reducible show vApp _ _ _ _); refine u_app rfl ?_)
  | ((with_reducible show vPopAt _ _ _ _); refine u_popAt rfl ?_)
  | ((with_reducible show vExt _ _ _ _); refine u_ext rfl ?_)
  | ((with_reducible show vM1 _ _ _ _ _); refine u_m1 ?_)
  | ((with_reducible show kM1a _ _ _ _ _); refine k_m1a rfl ?_)
  | ((with_reducible show kM1b _ _ _ _ _); refine k_m1b rfl rfl ?_)
  | ((with_reducible show vGet2 _ _ _ _ _); refine u_get2 ?_)
  | ((with_reducible show kGet1 _ _ _ _ _); refine k_get1 rfl ?_)
  | ((with_reducible show kGet2 _ _ _ _ _); refine k_get2 ?_)
  | ((with_reducible show vSetL _ _ _ _ _); refine u_setL ?_)
  | ((with_reducible show kSetL1 _ _ _ _ _); refine k_setL1 rfl ?_)
  | ((with_reducible show kSetL2 _ _ _ _ _); (first | refine k_setL2j 0 rfl rfl (by simp) rfl ?_ | refine k_setL2j 1 rfl rfl (by simp) rfl ?_ | refine k_setL2j 2 rfl rfl (by simp) rfl ?_))
  | ((with_reducible show vPutD _ _ _ _ _); refine u_putD ?_)
  | ((with_reducible show kPutD1 _ _ _ _ _); refine k_putD1 rfl ?_)
  | ((with_reducible show vAugL _ _ _ _ _ _); refine u_augL rfl ?_)
  | ((with_reducible show kAugL1 _ _ _ _ _ _); (first | refine k_augL1j 0 rfl rfl rfl ?_ | refine k_augL1j 1 rfl rfl rfl ?_ | refine k_augL1j 2 rfl rfl rfl ?_))
  | ((with_reducible show kAugL2 _ _ _ _ _ _ _); refine k_augL2j rfl (by simp) ?_)
  | ((with_reducible show vAug _ _ _ _ _); refine u_aug rfl ?_)
  | ((with_reducible show kAug _ _ _ _ _ _); (first | refine k_augAdd rfl ?_ | refine k_augSub rfl ?_))
  | ((with_reducible show vCall _ _ _ _); refine u_call ?_)
  | ((with_reducible show gN _ _ _ _); (first | refine u_gN rfl rfl ?_ | refine u_gN rfl (by assumption) ?_))
  | ((with_reducible show gT _ _ _ _); refine u_gT rfl ?_)
  | ((with_reducible show gL _ _ _ _); refine u_gL rfl rfl ?_)
  | ((with_reducible show gTs _ _ _ _); (first | refine u_gTs0 ?_ | refine u_gTs ?_))
  | ((with_reducible show vItL _ _ _); refine u_itL ?_)
  | ((with_reducible show kItL _ _ _); refine k_itL rfl rfl ?_)
  | ((with_reducible show vItT _ _ _); refine u_itT ?_)
  | ((with_reducible show kItT _ _ _); refine k_itT rfl rfl ?_)
  | ((with_reducible show vItR1 _ _ _); refine u_itR1 ?_)
  | ((with_reducible show vItR2 _ _ _); refine u_itR2 ?_)
  | ((with_reducible show vFor _ _ _ _ _); refine u_for ?_)
  | ((with_reducible show vLc _ _ _ _ _ _ _); refine u_lc ?_)
  | ((with_reducible show vLcK _ _ _ _ _ _ _); refine u_lcK rfl ?_)
  | ((with_reducible show vYes _ _); refine u_yes ?_)
  | ((with_reducible show kLcT _ _ _ _ _ _); refine k_lcTT ?_)
  | ((with_reducible show addP _ _); refine p_addI ?_)
  | ((with_reducible show subP _ _); refine p_subI ?_)
  | ((with_reducible show mulP _ _); (first | refine p_mulI (.inl (.inl (by omega))) ?_ | refine p_mulI (.inl (.inr (by omega))) ?_))
  | ((with_reducible show modP _ _); refine p_modI (by omega) ?_)
  | ((with_reducible show divP _ _); refine p_divI (.inl (by constructor <;> omega)) ?_)
  | ((with_reducible show negP _ _); refine p_negI ?_)
  | ((with_reducible show ltP _ _); refine p_ltI ?_)
  | ((with_reducible show leP _ _); refine p_leI ?_)
  | ((with_reducible show gtP _ _); refine p_gtI ?_)
  | ((with_reducible show geP _ _); refine p_geI ?_)
  | ((with_reducible show eqP _ _); (first | refine p_eqI ?_ | refine p_eqS ?_ | refine p_eqB ?_ | refine p_eqN ?_))
  | ((with_reducible show neP _ _); (first | refine p_neI ?_ | refine p_neS ?_ | refine p_neB ?_))
  | ((with_reducible show isNP _ _); (first | refine p_isNn ?_ | refine p_isNi ?_ | refine p_isNs ?_ | refine p_isNb ?_ | refine p_isNl ?_ | refine p_isNt ?_ | refine p_isNd ?_))
  | ((with_reducible show notNP _ _); (first | refine p_notNn ?_ | refine p_notNi ?_ | refine p_notNs ?_ | refine p_notNb ?_ | refine p_notNl ?_ | refine p_notNt ?_ | refine p_notNd ?_))
  | ((with_reducible show isiP _ _); refine p_isi rfl rfl ?_)
  | ((with_reducible show isiTP _ _); refine p_isiT rfl rfl ?_)
  | ((with_reducible show reprP _ _); (first | refine p_reprB ?_ | refine p_reprN ?_))
  | ((with_reducible show lenP _ _); (first | refine p_lenL ?_ | refine p_lenF ?_ | refine p_lenT ?_ | refine p_lenD ?_))
  | ((with_reducible show absP _ _); refine p_absI ?_)
  | ((with_reducible show intP _ _); refine p_intI ?_)
  | ((with_reducible show listP _ _); (first | refine p_listL ?_ | refine p_listF ?_ | refine p_listD ?_))
  | ((with_reducible show ixP _ _); (first | refine p_ixLj 0 rfl rfl ?_ | refine p_ixLj 1 rfl rfl ?_ | refine p_ixLj 2 rfl rfl ?_ | refine p_ixLj 3 rfl rfl ?_ | refine p_ixTj 0 rfl rfl ?_ | refine p_ixTj 1 rfl rfl ?_ | refine p_ixTj 2 rfl rfl ?_ | refine p_ixTj 3 rfl rfl ?_))
  | ((with_reducible show inP _ _ _); (first | refine p_inS0 ?_ | refine p_inS1 ?_ | refine p_inI0 ?_ | refine p_inI1 ?_ | refine p_inD0 rfl ?_ | refine p_inD1 rfl ?_))
  | ((with_reducible show slP _ _ _ _); (first | refine p_slL ?_ | refine p_slF ?_))
  | ((with_reducible show sumP _ _); refine p_sum ?_)
  | ((with_reducible show maxP _ _); refine p_max2 ?_)
  | ((with_reducible show minP _ _); refine p_min2 ?_)
  | ((with_reducible show allP _ _); refine p_all ?_)
  | ((with_reducible show anyP _ _); refine p_any ?_))
local macro_rules | `(tactic| walk_at "ss") => `(tactic| repeat walk_at "s")
local macro_rules | `(tactic| walk_at "back") => `(tactic| refine k_back ?_ (by dsimp only [takeBack, backS, List.set, List.getElem?_cons_zero, List.getElem?_cons_succ]))
local macro_rules | `(tactic| walk_at "s") => `(tactic| first
  | ((with_reducible show vCallX _ _ _ _ _); refine u_callX ?_)
  | ((with_reducible show vRaise _ _ _ _ _ _); refine u_raise ?_)
  | ((with_reducible show kRaise _ _ _ _ _); refine k_raise rfl rfl (by simp) ?_)
  | ((with_reducible show vNewKs _ _); refine u_newKs ?_))
/-! K26O: the law. -/
theorem rd_law : Reads S_law (fun EX => v_law EX) 1 := fun ρs R RX h => by
  obtain ⟨ns, rfl, hl, q⟩ := h
  unfold v_law
  show vSeq _ _ _ [.sh (.fls (ns.map D.int)), .un]
  walk_at "ss"
  refine k_call rfl ⟨ns, 0, rfl, by omega, by omega, by omega, fun a b => ?_⟩
  walk_at "back"
  walk_at "ss"
  refine k_call rfl ⟨a, b, 0, rfl, fun a' b' c' => ?_⟩
  walk_at "back"
  walk_at "ss"
  refine k_itR1 rfl ⟨by omega, by omega⟩ ?_
  refine k_for (fun j ρ => ∃ s1, ρ = [.sh (.fls (ns.map D.int)), s1] ∧ s1.free = true) ⟨_, rfl, rfl⟩ ?_ ?_
  · rintro j d ρ' hj ⟨s1, rfl, f1⟩
    have hj : ((List.range 3).map fun (i : Nat) => D.int (0 + (i : Int)))[j]? = some d := hj
    rw [List.getElem?_map] at hj
    obtain ⟨j', hj', ed⟩ := Option.map_eq_some_iff.mp hj
    have hjl : j < 3 := by have := (List.getElem?_eq_some_iff.mp hj').1; simpa using this
    rw [List.getElem?_range hjl] at hj'
    cases hj'
    subst ed
    walk_at "ss"
    refine k_call rfl ⟨ns, _, rfl, by omega, by omega, by omega, fun a b => ?_⟩
    walk_at "back"
    walk_at "ss"
    refine k_call rfl ⟨a, b, _, rfl, fun a' b' c' => ?_⟩
    walk_at "back"
    walk_at "ss"
    exact ⟨_, rfl, rfl⟩
  · rintro ρ' ⟨s1, rfl, f1⟩
    walk_at "ss"
    refine k_call rfl ⟨ns, 4, rfl, by omega, by omega, by omega, fun a b => ?_⟩
    walk_at "back"
    walk_at "ss"
    refine k_call rfl ⟨a, b, 4, rfl, fun a' b' c' => ?_⟩
    walk_at "back"
    walk_at "ss"
    have ok : okL [] := by decide
    refine k_callX rfl ⟨[], 3, rfl, by decide, by omega, by omega, fun _ _ => ?_, fun nok => absurd ok nok, fun _ hk => absurd hk (by omega)⟩
    walk_at "back"
    rw [show hT [] 3 = 0 by decide +kernel]
    walk_at "ss"
    refine k_callX rfl ⟨[], 1, rfl, by decide, fun _ => ?_, fun nok => absurd ok nok⟩
    walk_at "back"
    rw [show grT 1 [] = 0 by decide +kernel]
    walk_at "ss"
    exact q
end WL

set_option Elab.async false
set_option linter.all false
set_option maxRecDepth 100000
set_option maxHeartbeats 4000000
namespace WL
open PySem PySem.Spec PyProof.Rows L2
variable [TBs]
/-! ### the text (printed by gen.py) -/
def topS (i : Nat) : Stmt := PySem.Challenge.pw_firstreasons_k26_hands_lines_and_groups.main.body.getD i (.Pass ⟨0, 0, 0, 0⟩)
abbrev sbound : Stmt := topS 5
def Nbound : List Str := ["what", "number"]
theorem scbound : FnScope Nbound ["what", "number"] (defScope sbound) := ⟨rfl, rfl, rfl, by decide +kernel, rfl, by decide +kernel, by decide +kernel⟩
abbrev scheck_lengths : Stmt := topS 8
def Ncheck_lengths : List Str := ["lengths"]
theorem sccheck_lengths : FnScope Ncheck_lengths ["lengths"] (defScope scheck_lengths) := ⟨rfl, rfl, rfl, by decide +kernel, rfl, by decide +kernel, by decide +kernel⟩
abbrev sline_turns : Stmt := topS 9
def Nline_turns : List Str := ["lengths", "w", "low", "high", "middle", "length"]
theorem scline_turns : FnScope Nline_turns ["lengths", "w"] (defScope sline_turns) := ⟨rfl, rfl, rfl, by decide +kernel, rfl, by decide +kernel, by decide +kernel⟩
abbrev sgroup_turns : Stmt := topS 10
def Ngroup_turns : List Str := ["sizes", "w", "turns", "at", "left"]
theorem scgroup_turns : FnScope Ngroup_turns ["sizes", "w"] (defScope sgroup_turns) := ⟨rfl, rfl, rfl, by decide +kernel, rfl, by decide +kernel, by decide +kernel⟩
abbrev shands_time : Stmt := topS 11
def Nhands_time : List Str := ["lengths", "k", "free", "length", "hand"]
theorem schands_time : FnScope Nhands_time ["lengths", "k"] (defScope shands_time) := ⟨rfl, rfl, rfl, by decide +kernel, rfl, by decide +kernel, by decide +kernel⟩
abbrev se_turns : Stmt := topS 13
def Ne_turns : List Str := ["looks", "certain", "w", "whole", "reached", "turn", "fresh", "known", "sure", "base", "rest", "most", "more", "one", "row"]
theorem sce_turns : FnScope Ne_turns ["looks", "certain", "w"] (defScope se_turns) := ⟨rfl, rfl, rfl, by decide +kernel, rfl, by decide +kernel, by decide +kernel⟩
abbrev ssource : Stmt := topS 14
def Nsource : List Str := ["script", "at", "cell", "size", "small", "one"]
theorem scsource : FnScope Nsource ["script", "at"] (defScope ssource) := ⟨rfl, rfl, rfl, by decide +kernel, rfl, by decide +kernel, by decide +kernel⟩
abbrev spick : Stmt := topS 15
def Npick : List Str := ["source", "many", "found"]
theorem scpick : FnScope Npick ["source", "many"] (defScope spick) := ⟨rfl, rfl, rfl, by decide +kernel, rfl, by decide +kernel, by decide +kernel⟩
abbrev schoice : Stmt := topS 16
def Nchoice : List Str := ["source", "things"]
theorem scchoice : FnScope Nchoice ["source", "things"] (defScope schoice) := ⟨rfl, rfl, rfl, by decide +kernel, rfl, by decide +kernel, by decide +kernel⟩
abbrev ssame : Stmt := topS 17
def Nsame : List Str := ["answer", "due", "pairs", "key", "one", "at"]
theorem scsame : FnScope Nsame ["answer", "due"] (defScope ssame) := ⟨rfl, rfl, rfl, by decide +kernel, rfl, by decide +kernel, by decide +kernel⟩
abbrev sk26_told : Stmt := topS 18
def Nk26_told : List Str := ["make", "raised"]
theorem sck26_told : FnScope Nk26_told ["make"] (defScope sk26_told) := ⟨rfl, rfl, rfl, by decide +kernel, rfl, by decide +kernel, by decide +kernel⟩
abbrev sk26_laid : Stmt := topS 19
def Nk26_laid : List Str := ["lengths", "k", "left", "clock", "busy", "step", "at"]
theorem sck26_laid : FnScope Nk26_laid ["lengths", "k"] (defScope sk26_laid) := ⟨rfl, rfl, rfl, by decide +kernel, rfl, by decide +kernel, by decide +kernel⟩
abbrev sk26_least : Stmt := topS 20
def Nk26_least : List Str := ["lengths", "w", "turns", "now", "ahead", "one"]
theorem sck26_least : FnScope Nk26_least ["lengths", "w", "turns"] (defScope sk26_least) := ⟨rfl, rfl, rfl, by decide +kernel, rfl, by decide +kernel, by decide +kernel⟩
abbrev sk26_groups : Stmt := topS 21
def Nk26_groups : List Str := ["sizes", "w", "found", "rest", "many"]
theorem sck26_groups : FnScope Nk26_groups ["sizes", "w"] (defScope sk26_groups) := ⟨rfl, rfl, rfl, by decide +kernel, rfl, by decide +kernel, by decide +kernel⟩
abbrev sk26_line_looks : Stmt := topS 22
def Nk26_line_looks : List Str := ["lengths", "found", "at", "place"]
theorem sck26_line_looks : FnScope Nk26_line_looks ["lengths"] (defScope sk26_line_looks) := ⟨rfl, rfl, rfl, by decide +kernel, rfl, by decide +kernel, by decide +kernel⟩
abbrev sk26_line_sure : Stmt := topS 23
def Nk26_line_sure : List Str := ["lengths", "known", "found", "at", "place"]
theorem sck26_line_sure : FnScope Nk26_line_sure ["lengths", "known"] (defScope sk26_line_sure) := ⟨rfl, rfl, rfl, by decide +kernel, rfl, by decide +kernel, by decide +kernel⟩
abbrev sk26_group_sure : Stmt := topS 24
def Nk26_group_sure : List Str := ["sizes", "known", "found", "at", "group", "place", "one"]
theorem sck26_group_sure : FnScope Nk26_group_sure ["sizes", "known"] (defScope sk26_group_sure) := ⟨rfl, rfl, rfl, by decide +kernel, rfl, by decide +kernel, by decide +kernel⟩
abbrev sk26_small : Stmt := topS 25
def Nk26_small : List Str := ["source", "lengths", "w", "looks", "lines", "groups", "kept", "at"]
theorem sck26_small : FnScope Nk26_small ["source"] (defScope sk26_small) := ⟨rfl, rfl, rfl, by decide +kernel, rfl, by decide +kernel, by decide +kernel⟩
abbrev sk26_large : Stmt := topS 26
def Nk26_large : List Str := ["source", "most", "lengths", "w", "k", "at"]
theorem sck26_large : FnScope Nk26_large ["source"] (defScope sk26_large) := ⟨rfl, rfl, rfl, by decide +kernel, rfl, by decide +kernel, by decide +kernel⟩
abbrev sk26_bounds : Stmt := topS 27
def Nk26_bounds : List Str := ["source", "many", "lengths", "at", "over", "hands", "wrong", "refused", "due", "lines", "groups"]
theorem sck26_bounds : FnScope Nk26_bounds ["source"] (defScope sk26_bounds) := ⟨rfl, rfl, rfl, by decide +kernel, rfl, by decide +kernel, by decide +kernel⟩
abbrev slaw : Stmt := topS 28
def Nlaw : List Str := ["script", "at"]
theorem sclaw : FnScope Nlaw ["script"] (defScope slaw) := ⟨rfl, rfl, rfl, by decide +kernel, rfl, by decide +kernel, by decide +kernel⟩
/-- the built-in names that the text leaves as they are -/
structure Blt (mg : Str → Option Value) : Prop where
  b_abs : mg "abs" = none
  b_all : mg "all" = none
  b_bool : mg "bool" = none
  b_dict : mg "dict" = none
  b_int : mg "int" = none
  b_isinstance : mg "isinstance" = none
  b_len : mg "len" = none
  b_list : mg "list" = none
  b_max : mg "max" = none
  b_min : mg "min" = none
  b_range : mg "range" = none
  b_repr : mg "repr" = none
  b_sorted : mg "sorted" = none
  b_str : mg "str" = none
  b_sum : mg "sum" = none
  b_tuple : mg "tuple" = none
section
variable {P : Program} {w : World} {K : PySem.W.Frag} {mg : Str → Option Value} {base : Heap}
theorem def_bound {f : Addr} {fd : FuncData} (T : Blt mg) {d_LIMITS : Addr} (g_LIMITS : mg "LIMITS" = some (.ref d_LIMITS)) (KD : KInts K w d_LIMITS [("lengths", 40), ("hands", 40)]) {C_TooMany : Addr} (X_TooMany : XCls P w K mg base "TooMany" C_TooMany ["what"] 1) (F : Fun K "bound" "bound" sbound f fd) (g : mg "bound" = some (.ref f))
    (rd : Reads S_bound (fun EX => v_bound EX C_TooMany) 0) (len : ∀ ρs R RX, S_bound ρs R RX → ρs.length = 2) : Def P w K mg base 3 "bound" ["what", "number"] S_bound := by
  obtain ⟨_, _, KDD⟩ := KD.ex
  refine ⟨f, fd, fn_w (t := fun EX => v_bound EX C_TooMany) F scbound (by decide) len (fun Φ cdv A outer s H E hr tk => ?_) rd, g, F.kp, F.binds fun _ _ _ _ _ _ us hl => match us, hl with | [_, _], _ => rfl⟩
  show PWSs _ Φ _ (v_bound Φ.EX C_TooMany)
  have hu : (A.deeper (envOfC "bound" (defScope sbound) s.heap.objs.size f cdv)).units + 1 < cLine := hu_of hr
  have hu64 : (A.deeper (envOfC "bound" (defScope sbound) s.heap.objs.size f cdv)).units + 64 < cLine := hr.units
  have hu65 : (A.deeper (envOfC "bound" (defScope sbound) s.heap.objs.size f cdv)).units + 65 < cLine := by have := hr.un; omega
  unfold v_bound
  exact pwss_one (pws_if (pwt_of (pt_cmpR op_gtA pe_sem pe_sem (nomark _)) (run_bin ok_gt (pwo_var 1 (pv 1)) (pwo_val (by exact pwe_of (pe_ix (ix_kd KDD) (pe_glob (by rfl) g_LIMITS (show L2.RelV (V.ref _) (Value.ref _) from rfl)) pe_sem (fun _ _ => rfl)) (run_kd KD (pwo_var 0 (pv 0))))))) (pwss_one (pws_raise rfl tk X_TooMany (hr.mono (by decide)) (by rfl) (pwa_cons (pwo_val (by exact pwe_var 0 (pv 0))) (pwa_nil)))) (pwss_nil))
theorem def_check_lengths {f : Addr} {fd : FuncData} (T : Blt mg) (D_bound : Def P w K mg base 3 "bound" ["what", "number"] S_bound) {t_LONGEST : Tok} (g_LONGEST : mg "LONGEST" = some (.int 1000 t_LONGEST)) {C_TooMany : Addr} (X_TooMany : XCls P w K mg base "TooMany" C_TooMany ["what"] 1) (F : Fun K "check_lengths" "check_lengths" scheck_lengths f fd) (g : mg "check_lengths" = some (.ref f))
    (rd : Reads S_check_lengths (fun EX => v_check_lengths EX C_TooMany) 0) (len : ∀ ρs R RX, S_check_lengths ρs R RX → ρs.length = 1) : Def P w K mg base 4 "check_lengths" ["lengths"] S_check_lengths := by
  refine ⟨f, fd, fn_w (t := fun EX => v_check_lengths EX C_TooMany) F sccheck_lengths (by decide) len (fun Φ cdv A outer s H E hr tk => ?_) rd, g, F.kp, F.binds fun _ _ _ _ _ _ us hl => match us, hl with | [_], _ => rfl⟩
  show PWSs _ Φ _ (v_check_lengths Φ.EX C_TooMany)
  have hu : (A.deeper (envOfC "check_lengths" (defScope scheck_lengths) s.heap.objs.size f cdv)).units + 1 < cLine := hu_of hr
  have hu64 : (A.deeper (envOfC "check_lengths" (defScope scheck_lengths) s.heap.objs.size f cdv)).units + 64 < cLine := hr.units
  have hu65 : (A.deeper (envOfC "check_lengths" (defScope scheck_lengths) s.heap.objs.size f cdv)).units + 65 < cLine := by have := hr.un; omega
  unfold v_check_lengths
  exact pwss_cons (pws_expr (ps_expr pe_sem) (PWE.sem (pwe_callX tk D_bound (hr.mono (by decide)) (by rfl) (pwa_cons (pwo_val (pwe_str)) (pwa_cons (pwo_val (pwe_sh (by exact pwe_of (pe_callB call_lenA (by rfl) T.b_len (by decide +kernel) pa_sem) (run_prim ok_len (pwa_cons (pwo_var 0 (pv 0)) (pwa_nil)))))) (pwa_nil))))))
    (pwss_one (pws_if (pwt_of (pt_cmpR op_gtA pe_sem pe_sem (nomark _)) (run_bin ok_gt (pwo_val (by exact pwe_of (pe_callBK (cr_maxDf rfl hu64) (by rfl) T.b_max (by decide +kernel) pa_sem (pk_cons pe_int pk_nil)) (run_maxD (pwa_cons (pwo_var 0 (pv 0)) (pwa_nil))))) (pwo_val (by exact pwe_c (pe_glob (v := .int 1000) (by rfl) g_LONGEST ⟨_, rfl⟩) (fun _ _ => .int))))) (pwss_one (pws_raise rfl tk X_TooMany (hr.mono (by decide)) (by rfl) (pwa_cons (pwo_val (by exact pwe_str)) (pwa_nil)))) (pwss_nil)))
theorem def_line_turns {f : Addr} {fd : FuncData} (T : Blt mg) (D_check_lengths : Def P w K mg base 4 "check_lengths" ["lengths"] S_check_lengths) (F : Fun K "line_turns" "line_turns" sline_turns f fd) (g : mg "line_turns" = some (.ref f))
    (rd : Reads S_line_turns (fun EX => v_line_turns EX) 4) (len : ∀ ρs R RX, S_line_turns ρs R RX → ρs.length = 2) : Def P w K mg base 5 "line_turns" ["lengths", "w"] S_line_turns := by
  refine ⟨f, fd, fn_w (t := fun EX => v_line_turns EX) F scline_turns (by decide) len (fun Φ cdv A outer s H E hr tk => ?_) rd, g, F.kp, F.binds fun _ _ _ _ _ _ us hl => match us, hl with | [_, _], _ => rfl⟩
  show PWSs _ Φ _ (v_line_turns Φ.EX)
  have hu : (A.deeper (envOfC "line_turns" (defScope sline_turns) s.heap.objs.size f cdv)).units + 1 < cLine := hu_of hr
  have hu64 : (A.deeper (envOfC "line_turns" (defScope sline_turns) s.heap.objs.size f cdv)).units + 64 < cLine := hr.units
  have hu65 : (A.deeper (envOfC "line_turns" (defScope sline_turns) s.heap.objs.size f cdv)).units + 65 < cLine := by have := hr.un; omega
  unfold v_line_turns
  exact pwss_cons (pws_expr (ps_expr pe_sem) (PWE.sem (pwe_callX tk D_check_lengths (hr.mono (by decide)) (by rfl) (pwa_cons (pwo_val (pwe_var 0 (pv 0))) (pwa_nil)))))
    (pwss_cons (pws_set (ps_set (i := 2) scline_turns.nd rfl (Or.inl rfl) pe_sem) (PWE.sem (pwe_int)))
    (pwss_cons (pws_set (ps_set (i := 3) scline_turns.nd rfl (Or.inl rfl) pe_sem) (PWE.sem (pwe_of (pe_callBK (cr_maxDf rfl hu64) (by rfl) T.b_max (by decide +kernel) pa_sem (pk_cons pe_int pk_nil)) (run_maxD (pwa_cons (pwo_var 0 (pv 0)) (pwa_nil))))))
    (pwss_cons (pws_while (ps_while (passes_of rfl) pt_sem pss_sem) (pwt_of (pt_cmpR op_ltA pe_sem pe_sem (nomark _)) (run_bin ok_lt (pwo_var 2 (pv 2)) (pwo_var 3 (pv 3)))) (pwss_cons (pws_set (ps_set (i := 4) scline_turns.nd rfl (Or.inr rfl) pe_sem) (PWE.sem (pwe_of (pe_op op_divA pe_sem pe_sem) (run_bin ok_div (pwo_val (by exact pwe_of (pe_op op_addA pe_sem pe_sem) (run_bin ok_add (pwo_var 2 (pv 2)) (pwo_var 3 (pv 3))))) (pwo_val (by exact pwe_int))))))
    (pwss_one (pws_if (pwt_of (pt_cmpR op_le pe_sem pe_sem (nomark _)) (run_bin ok_le (pwo_val (by exact pwe_of (pe_callB (cr_sum rfl) (by rfl) T.b_sum (by decide +kernel) pa_sem) (run_prim ok_sum (pwa_cons (pwo_val (by exact pwe_of (pe_lc0 rfl scline_turns.nd (blkOk_by (own := [("length", 5)]) (N := Nline_turns) (sc := defScope sline_turns) (by decide +kernel))) (run_lc0 (own := [("length", 5)]) (by exact pwi_list (pwe_var 0 (pv 0))) (fun _ _ _ _ _ => by exact pwg_of (pg_name (i := 5) scline_turns.nd rfl (by first | exact Or.inl rfl | exact Or.inr rfl)) (rung_name 5)) (fun _ _ _ _ _ => by exact pwe_of (pe_callB (call_maxA rfl) (by rfl) T.b_max (by decide +kernel) pa_sem) (run_prim ok_max (pwa_cons (pwo_val (by exact pwe_int)) (pwa_cons (pwo_val (by exact pwe_of (pe_op op_sub pe_sem pe_sem) (run_bin ok_sub (pwo_var 5 (pv 5)) (pwo_var 4 (pv 4))))) (pwa_nil)))))))) (pwa_nil))))) (pwo_val (by exact pwe_of (pe_op op_mulA pe_sem pe_sem) (run_bin ok_mul (pwo_var 1 (pv 1)) (pwo_var 4 (pv 4))))))) (pwss_one (pws_set (ps_set (i := 3) scline_turns.nd rfl (Or.inl rfl) pe_sem) (PWE.sem (pwe_var 4 (pv 4))))) (pwss_one (pws_set (ps_set (i := 2) scline_turns.nd rfl (Or.inl rfl) pe_sem) (PWE.sem (pwe_of (pe_op op_addA pe_sem pe_sem) (run_bin ok_add (pwo_var 4 (pv 4)) (pwo_val (by exact pwe_int)))))))))))
    (pwss_one (pws_ret (pwe_mv 2 (pv 2)))))))
theorem def_group_turns {f : Addr} {fd : FuncData} (T : Blt mg) (D_check_lengths : Def P w K mg base 4 "check_lengths" ["lengths"] S_check_lengths) (F : Fun K "group_turns" "group_turns" sgroup_turns f fd) (g : mg "group_turns" = some (.ref f))
    (rd : Reads S_group_turns (fun EX => v_group_turns EX) 3) (len : ∀ ρs R RX, S_group_turns ρs R RX → ρs.length = 2) : Def P w K mg base 5 "group_turns" ["sizes", "w"] S_group_turns := by
  refine ⟨f, fd, fn_w (t := fun EX => v_group_turns EX) F scgroup_turns (by decide) len (fun Φ cdv A outer s H E hr tk => ?_) rd, g, F.kp, F.binds fun _ _ _ _ _ _ us hl => match us, hl with | [_, _], _ => rfl⟩
  show PWSs _ Φ _ (v_group_turns Φ.EX)
  have hu : (A.deeper (envOfC "group_turns" (defScope sgroup_turns) s.heap.objs.size f cdv)).units + 1 < cLine := hu_of hr
  have hu64 : (A.deeper (envOfC "group_turns" (defScope sgroup_turns) s.heap.objs.size f cdv)).units + 64 < cLine := hr.units
  have hu65 : (A.deeper (envOfC "group_turns" (defScope sgroup_turns) s.heap.objs.size f cdv)).units + 65 < cLine := by have := hr.un; omega
  unfold v_group_turns
  exact pwss_cons (pws_expr (ps_expr pe_sem) (PWE.sem (pwe_callX tk D_check_lengths (hr.mono (by decide)) (by rfl) (pwa_cons (pwo_val (pwe_var 0 (pv 0))) (pwa_nil)))))
    (pwss_cons (pws_set (ps_set (i := 2) scgroup_turns.nd rfl (Or.inl rfl) pe_sem) (PWE.sem (pwe_int)))
    (pwss_cons (pws_set (ps_set (i := 3) scgroup_turns.nd rfl (Or.inl rfl) pe_sem) (PWE.sem (pwe_int)))
    (pwss_cons (pws_while (ps_while (passes_of rfl) pt_sem pss_sem) (pwt_of (pt_cmpR op_ltA pe_sem pe_sem (nomark _)) (run_bin ok_lt (pwo_var 3 (pv 3)) (pwo_val (by exact pwe_of (pe_callB call_lenA (by rfl) T.b_len (by decide +kernel) pa_sem) (run_prim ok_len (pwa_cons (pwo_var 0 (pv 0)) (pwa_nil))))))) (pwss_cons (pws_aug (ps_aug (i := 2) scgroup_turns.nd rfl (Or.inl rfl) pe_sem ip_addA) ok_iadd (pwe_int))
    (pwss_cons (pws_aug (ps_aug (i := 3) scgroup_turns.nd rfl (Or.inl rfl) pe_sem ip_addA) ok_iadd (pwe_int))
    (pwss_cons (pws_set (ps_set (i := 4) scgroup_turns.nd rfl (Or.inl rfl) pe_sem) (PWE.sem (pwe_var 1 (pv 1))))
    (pwss_one (pws_while (ps_while (passes_of rfl) pt_sem pss_sem) (PWW.pt (pww_and (pwt_of (pt_cmpR op_ltA pe_sem pe_sem (nomark _)) (run_bin ok_lt (pwo_var 3 (pv 3)) (pwo_val (by exact pwe_of (pe_callB call_lenA (by rfl) T.b_len (by decide +kernel) pa_sem) (run_prim ok_len (pwa_cons (pwo_var 0 (pv 0)) (pwa_nil))))))) (pww_and1 (pwt_of (pt_cmpR op_le pe_sem pe_sem (nomark _)) (run_bin ok_le (pwo_val (by exact pwe_of (pe_ix (ix_all hu) pe_sem pe_sem (fun _ _ => rfl)) (run_bin ok_ix (pwo_var 0 (pv 0)) (pwo_var 3 (pv 3))))) (pwo_var 4 (pv 4))))))) (pwss_cons (pws_aug (ps_aug (i := 4) scgroup_turns.nd rfl (Or.inl rfl) pe_sem ip_subA) ok_sub (pwe_of (pe_ix (ix_all hu) pe_sem pe_sem (fun _ _ => rfl)) (run_bin ok_ix (pwo_var 0 (pv 0)) (pwo_var 3 (pv 3)))))
    (pwss_one (pws_aug (ps_aug (i := 3) scgroup_turns.nd rfl (Or.inl rfl) pe_sem ip_addA) ok_iadd (pwe_int))))))))))
    (pwss_one (pws_ret (pwe_mv 2 (pv 2)))))))
theorem def_hands_time {f : Addr} {fd : FuncData} (T : Blt mg) (D_bound : Def P w K mg base 3 "bound" ["what", "number"] S_bound) (D_check_lengths : Def P w K mg base 4 "check_lengths" ["lengths"] S_check_lengths) (F : Fun K "hands_time" "hands_time" shands_time f fd) (g : mg "hands_time" = some (.ref f))
    (rd : Reads S_hands_time (fun EX => v_hands_time EX) 3) (len : ∀ ρs R RX, S_hands_time ρs R RX → ρs.length = 2) : Def P w K mg base 5 "hands_time" ["lengths", "k"] S_hands_time := by
  refine ⟨f, fd, fn_w (t := fun EX => v_hands_time EX) F schands_time (by decide) len (fun Φ cdv A outer s H E hr tk => ?_) rd, g, F.kp, F.binds fun _ _ _ _ _ _ us hl => match us, hl with | [_, _], _ => rfl⟩
  show PWSs _ Φ _ (v_hands_time Φ.EX)
  have hu : (A.deeper (envOfC "hands_time" (defScope shands_time) s.heap.objs.size f cdv)).units + 1 < cLine := hu_of hr
  have hu64 : (A.deeper (envOfC "hands_time" (defScope shands_time) s.heap.objs.size f cdv)).units + 64 < cLine := hr.units
  have hu65 : (A.deeper (envOfC "hands_time" (defScope shands_time) s.heap.objs.size f cdv)).units + 65 < cLine := by have := hr.un; omega
  unfold v_hands_time
  exact pwss_cons (pws_expr (ps_expr pe_sem) (PWE.sem (pwe_callX tk D_check_lengths (hr.mono (by decide)) (by rfl) (pwa_cons (pwo_val (pwe_var 0 (pv 0))) (pwa_nil)))))
    (pwss_cons (pws_expr (ps_expr pe_sem) (PWE.sem (pwe_callX tk D_bound (hr.mono (by decide)) (by rfl) (pwa_cons (pwo_val (pwe_str)) (pwa_cons (pwo_val (pwe_var 1 (pv 1))) (pwa_nil))))))
    (pwss_cons (pws_set (ps_setLc0 (i := 2) rfl schands_time.nd rfl rfl (sw_true rfl rfl rfl (by decide +kernel)) pi_sem (blkOk_by (own := [("hand", 4)]) (N := Nhands_time) (sc := defScope shands_time) (by decide +kernel))) (run_lc0 (own := [("hand", 4)]) (by exact pwi_range1 (pi_range1 (by rfl) T.b_range pa_sem) (pwa_cons (pwo_var 1 (pv 1)) (pwa_nil))) (fun _ _ _ _ _ => by exact pwg_of (pg_name (i := 4) schands_time.nd rfl (by first | exact Or.inl rfl | exact Or.inr rfl)) (rung_name 4)) (fun _ _ _ _ _ => by exact pwe_int)))
    (pwss_cons (pws_if (pwt_of (pt_cmpR (op_eqA hu64) pe_sem pe_sem (nomark _)) (run_bin ok_eq (pwo_var 1 (pv 1)) (pwo_val (by exact pwe_int)))) (pwss_one (pws_ret (pwe_of (pe_callBK (cr_maxDf rfl hu64) (by rfl) T.b_max (by decide +kernel) pa_sem (pk_cons pe_int pk_nil)) (run_maxD (pwa_cons (pwo_var 0 (pv 0)) (pwa_nil)))))) (pwss_nil))
    (pwss_cons (pws_for (ps_for (passes_of rfl) rfl pi_sem pg_sem pss_sem) (pwi_list (pwe_var 0 (pv 0))) (pwg_of (pg_name (i := 3) schands_time.nd rfl (Or.inl rfl)) (rung_name 3)) (pwss_cons (pws_set (ps_set (i := 4) schands_time.nd rfl (Or.inl rfl) pe_sem) (PWE.sem (pwe_of (pe_bm PySem.F.plainAttrs_list PySem.F.slot_list_index PySem.F.type_list_index mt_index (pv 2) (pa_cons pe_sem pa_nil)) (run_idxI 2 (pwe_of (pe_callB (call_minA rfl) (by rfl) T.b_min (by decide +kernel) pa_sem) (run_prim ok_min (pwa_cons (pwo_var 2 (pv 2)) (pwa_nil))))))))
    (pwss_one (pws_augL 2 (ps_augS (pv 2) pe_sem pget_list pe_sem ip_addA set_list) ok_iadd (pwe_var 4 (pv 4)) (pwe_var 3 (pv 3))))))
    (pwss_one (pws_ret (pwe_of (pe_callB (call_maxA rfl) (by rfl) T.b_max (by decide +kernel) pa_sem) (run_prim ok_max (pwa_cons (pwo_var 2 (pv 2)) (pwa_nil))))))))))
theorem tl_e_turns (T : Blt mg) {g : Addr} {fd : FuncData} (Fg : Fun K "_law_e_turns" "_law_e_turns" se_turns g fd) (gm : mg "_law_e_turns" = some (.ref g))
    (rd : ∀ SSl f dcap ρs R RX, SG_e_turns SSl f dcap ρs R RX → (fun EX => v_e_turns f dcap SSl EX) (fun cls fs ρ' => RX cls fs (fin ρs ρ')) { nx := fun ρ' => R (.sh .non) (fin ρs ρ'), rt := fun r ρ' => R r (fin ρs ρ') } (ρs ++ uns 12)) (len : ∀ SSl f dcap ρs R RX, SG_e_turns SSl f dcap ρs R RX → ρs.length = 3)
    (X : Cx) (n : Nat) (SSl : VSp) (e1 : X.prog = P) (e2 : X.w = w) (e3 : X.K = K) (e4 : X.mg = mg) (e5 : X.base = base) : TakesLam X "_law_e_turns" se_turns g Ne_turns ["looks", "certain", "w"] 7 7 n SSl (SG_e_turns SSl) := by
  subst e1; subst e2; subst e3; subst e4; subst e5
  refine ⟨⟨fd, Fg, Fg.binds fun _ _ _ _ _ _ us hl => match us, hl with | [_, _, _], _ => rfl⟩, gm, sce_turns, len SSl, fun f c' cap dcap s H E cdv hn LA hr => ⟨fun EX => v_e_turns f dcap SSl EX, fun Φ hc hcap tk => ?_, rd SSl f dcap⟩⟩
  show PWSs _ Φ _ (v_e_turns f dcap SSl Φ.EX)
  have hu : (X.A.deeper (envOfC "_law_e_turns" (defScope se_turns) s.heap.objs.size g cdv)).units + 1 < cLine := hu_of hr
  have hu64 : (X.A.deeper (envOfC "_law_e_turns" (defScope se_turns) s.heap.objs.size g cdv)).units + 64 < cLine := hr.units
  have hu65 : (X.A.deeper (envOfC "_law_e_turns" (defScope se_turns) s.heap.objs.size g cdv)).units + 65 < cLine := by have := hr.un; omega
  unfold v_e_turns
  exact pwss_cons (pws_set (ps_set (i := 3) sce_turns.nd rfl (Or.inl rfl) pe_sem) (PWE.sem (pwe_of (pe_callTy call_tuple_of (by rfl) T.b_tuple (by decide +kernel) pa_sem) (run_prim ok_tuple (pwa_cons (pwo_val (by exact pwe_of (pe_callB cr_sortedPO (by rfl) T.b_sorted (by decide +kernel) pa_sem) (run_prim ok_sortP (pwa_cons (pwo_var 0 (pv 0)) (pwa_nil))))) (pwa_nil))))))
    (pwss_cons (pws_set (ps_set (i := 4) sce_turns.nd rfl (Or.inl rfl) pe_sem) (PWE.sem (pwe_dispKs hu64 (pwe_tup (pwa_nil)) pe_bl)))
    (pwss_cons (pws_for (ps_for (passes_of rfl) rfl pi_sem pg_sem pss_sem) (pwi_range2 (pi_range2 (by rfl) T.b_range pa_sem) (pwa_cons (pwo_val (by exact pwe_int)) (pwa_cons (pwo_val (by exact pwe_of (pe_op op_addA pe_sem pe_sem) (run_bin ok_add (pwo_val (by exact pwe_of (pe_callB call_lenA (by rfl) T.b_len (by decide +kernel) pa_sem) (run_prim ok_len (pwa_cons (pwo_var 0 (pv 0)) (pwa_nil))))) (pwo_val (by exact pwe_int))))) (pwa_nil)))) (pwg_of (pg_name (i := 5) sce_turns.nd rfl (Or.inl rfl)) (rung_name 5)) (pwss_cons (pws_set (ps_set (i := 6) sce_turns.nd rfl (Or.inl rfl) pe_sem) (PWE.sem (pwe_newKs)))
    (pwss_cons (pws_for (ps_for (passes_of rfl) rfl pi_sem pg_sem pss_sem) (pwi_ks 4 (pv 4)) (pwg_of (pg_name (i := 7) sce_turns.nd rfl (Or.inr rfl)) (rung_name 7)) (pwss_cons (pws_set (ps_set (i := 8) sce_turns.nd rfl (Or.inr rfl) pe_sem) (PWE.sem (pwe_callF1 LA (hr.mono (Nat.le_refl _)) tk (fun _ _ _ _ I e => ⟨I.base, e _ _ hc⟩) hcap (by rfl) (by first | exact Or.inl rfl | exact Or.inr (Or.inl rfl)) (pwa_cons (pwo_val (pwe_var 7 (pv 7))) (pwa_nil)))))
    (pwss_cons (pws_set (ps_set (i := 9) sce_turns.nd rfl (Or.inr rfl) pe_sem) (PWE.sem (pwe_of (pe_lc1 rfl sce_turns.nd (blkOk_by (own := [("one", 13)]) (N := Ne_turns) (sc := defScope se_turns) (by decide +kernel))) (run_lc1 (own := [("one", 13)]) (by exact pwi_list (pwe_var 0 (pv 0))) (fun _ _ _ _ _ => by exact pwg_of (pg_name (i := 13) sce_turns.nd rfl (by first | exact Or.inl rfl | exact Or.inr rfl)) (rung_name 13)) (fun _ _ _ _ _ => by exact PWW.pt (pww_or (pwt_of (pt_cmpR (op_inEA hu65) pe_sem pe_sem (by rfl)) (run_bin ok_inE (pwo_var 13 (pv 13)) (pwo_var 8 (pv 8)))) (pww_or1 (pwt_of (pt_cmpR (op_inEA hu65) pe_sem pe_sem (by rfl)) (run_bin ok_inE (pwo_var 13 (pv 13)) (pwo_var 7 (pv 7))))))) (fun _ _ _ _ _ => by exact pwe_var 13 (pv 13))))))
    (pwss_cons (pws_set (ps_setLc1 (i := 10) rfl sce_turns.nd rfl rfl (sw_true rfl rfl rfl (by decide +kernel)) pi_sem (blkOk_by (own := [("one", 13)]) (N := Ne_turns) (sc := defScope se_turns) (by decide +kernel))) (run_lc1 (own := [("one", 13)]) (by exact pwi_list (pwe_var 0 (pv 0))) (fun _ _ _ _ _ => by exact pwg_of (pg_name (i := 13) sce_turns.nd rfl (by first | exact Or.inl rfl | exact Or.inr rfl)) (rung_name 13)) (fun _ _ _ _ _ => by exact pwt_of (pt_cmpR (op_notinEA hu65) pe_sem pe_sem (by rfl)) (run_bin ok_inE (pwo_var 13 (pv 13)) (pwo_var 9 (pv 9)))) (fun _ _ _ _ _ => by exact pwe_var 13 (pv 13))))
    (pwss_cons (pws_set (ps_set (i := 11) sce_turns.nd rfl (Or.inr rfl) pe_sem) (PWE.sem (pwe_of (pe_op op_sub pe_sem pe_sem) (run_bin ok_sub (pwo_var 2 (pv 2)) (pwo_val (by exact pwe_of (pe_callB call_lenA (by rfl) T.b_len (by decide +kernel) pa_sem) (run_prim ok_len (pwa_cons (pwo_val (by exact pwe_of (pe_lc1 rfl sce_turns.nd (blkOk_by (own := [("one", 13)]) (N := Ne_turns) (sc := defScope se_turns) (by decide +kernel))) (run_lc1 (own := [("one", 13)]) (by exact pwi_tup (pwe_var 7 (pv 7))) (fun _ _ _ _ _ => by exact pwg_of (pg_name (i := 13) sce_turns.nd rfl (by first | exact Or.inl rfl | exact Or.inr rfl)) (rung_name 13)) (fun _ _ _ _ _ => by exact pwt_of (pt_cmpR (op_notinEA hu65) pe_sem pe_sem (by rfl)) (run_bin ok_inE (pwo_var 13 (pv 13)) (pwo_var 8 (pv 8)))) (fun _ _ _ _ _ => by exact pwe_var 13 (pv 13))))) (pwa_nil)))))))))
    (pwss_cons (pws_set (ps_set (i := 12) sce_turns.nd rfl (Or.inl rfl) pe_sem) (PWE.sem (pwe_lst (pwa_cons (pwo_val (by exact pwe_tup (pwa_nil))) (pwa_nil)))))
    (pwss_cons (pws_for (ps_for (passes_of rfl) rfl pi_sem pg_sem pss_sem) (pwi_list (pwe_var 10 (pv 10))) (pwg_of (pg_name (i := 13) sce_turns.nd rfl (Or.inr rfl)) (rung_name 13)) (pwss_one (pws_set (ps_set (i := 12) sce_turns.nd rfl (Or.inl rfl) pe_sem) (PWE.sem (pwe_of (pe_op op_addA pe_sem pe_sem) (run_bin ok_add (pwo_var 12 (pv 12)) (pwo_val (by exact pwe_of (pe_lc1 rfl sce_turns.nd (blkOk_by (own := [("row", 14)]) (N := Ne_turns) (sc := defScope se_turns) (by decide +kernel))) (run_lc1 (own := [("row", 14)]) (by exact pwi_list (pwe_var 12 (pv 12))) (fun _ _ _ _ _ => by exact pwg_of (pg_name (i := 14) sce_turns.nd rfl (by first | exact Or.inl rfl | exact Or.inr rfl)) (rung_name 14)) (fun _ _ _ _ _ => by exact pwt_of (pt_cmpR op_ltA pe_sem pe_sem (nomark _)) (run_bin ok_lt (pwo_val (by exact pwe_of (pe_callB call_lenA (by rfl) T.b_len (by decide +kernel) pa_sem) (run_prim ok_len (pwa_cons (pwo_var 14 (pv 14)) (pwa_nil))))) (pwo_var 11 (pv 11)))) (fun _ _ _ _ _ => by exact pwe_of (pe_op op_addA pe_sem pe_sem) (run_bin ok_add (pwo_var 14 (pv 14)) (pwo_val (by exact pwe_tup (pwa_cons (pwo_val (by exact pwe_var 13 (pv 13))) (pwa_nil)))))))))))))))
    (pwss_one (pws_for (ps_for (passes_of rfl) rfl pi_sem pg_sem pss_sem) (pwi_list (pwe_var 12 (pv 12))) (pwg_of (pg_name (i := 14) sce_turns.nd rfl (Or.inl rfl)) (rung_name 14)) (pwss_one (pws_putKs 6 (ps_asg pe_bl (pg_sub (pv 6) pe_sem (set_ks hu64))) (pwe_of (pe_callTy call_tuple_of (by rfl) T.b_tuple (by decide +kernel) pa_sem) (run_prim ok_tuple (pwa_cons (pwo_val (by exact pwe_of (pe_callB cr_sortedPO (by rfl) T.b_sorted (by decide +kernel) pa_sem) (run_prim ok_sortP (pwa_cons (pwo_val (by exact pwe_of (pe_op op_addA pe_sem pe_sem) (run_bin ok_add (pwo_var 9 (pv 9)) (pwo_val (by exact pwe_of (pe_callTy (call_listA rfl) (by rfl) T.b_list (by decide +kernel) pa_sem) (run_prim ok_list (pwa_cons (pwo_var 14 (pv 14)) (pwa_nil)))))))) (pwa_nil))))) (pwa_nil)))))))))))))))
    (pwss_cons (pws_if (pwt_of (pt_cmpR (op_inKS hu64) pe_sem (pv 6) (by rfl)) (run_inKs 6 (pwo_var 3 (pv 3)))) (pwss_one (pws_ret (pwe_mv 5 (pv 5)))) (pwss_nil))
    (pwss_one (pws_set (ps_set (i := 4) sce_turns.nd rfl (Or.inl rfl) pe_sem) (PWE.sem (pwe_mvKs 6 (pv 6)))))))))
    (pwss_one (pws_ret (pwe_of (pe_callB call_lenA (by rfl) T.b_len (by decide +kernel) pa_sem) (run_prim ok_len (pwa_cons (pwo_var 0 (pv 0)) (pwa_nil))))))))
theorem def_source {f : Addr} {fd : FuncData} (T : Blt mg) (F : Fun K "_law_source" "_law_source" ssource f fd) (g : mg "_law_source" = some (.ref f))
    (rd : Reads S_source (fun EX => v_source) 4) (len : ∀ ρs R RX, S_source ρs R RX → ρs.length = 2) : Def P w K mg base 1 "_law_source" ["script", "at"] S_source := by
  refine ⟨f, fd, fn_w (t := fun EX => v_source) F scsource (by decide) len (fun Φ cdv A outer s H E hr tk => ?_) rd, g, F.kp, F.binds fun _ _ _ _ _ _ us hl => match us, hl with | [_, _], _ => rfl⟩
  show PWSs _ Φ _ (v_source)
  have hu : (A.deeper (envOfC "_law_source" (defScope ssource) s.heap.objs.size f cdv)).units + 1 < cLine := hu_of hr
  have hu64 : (A.deeper (envOfC "_law_source" (defScope ssource) s.heap.objs.size f cdv)).units + 64 < cLine := hr.units
  have hu65 : (A.deeper (envOfC "_law_source" (defScope ssource) s.heap.objs.size f cdv)).units + 65 < cLine := by have := hr.un; omega
  unfold v_source
  exact pwss_cons (pws_set (ps_set (i := 2) scsource.nd rfl (Or.inl rfl) pe_sem) (PWE.sem (pwe_if (pwt_of (pt_cmpR op_ltA pe_sem pe_sem (nomark _)) (run_bin ok_lt (pwo_var 1 (pv 1)) (pwo_val (by exact pwe_of (pe_callB call_lenA (by rfl) T.b_len (by decide +kernel) pa_sem) (run_prim ok_len (pwa_cons (pwo_var 0 (pv 0)) (pwa_nil))))))) (pwe_of (pe_callTy call_int1 (by rfl) T.b_int (by decide +kernel) pa_sem) (run_prim ok_int (pwa_cons (pwo_val (by exact pwe_of (pe_ix (ix_all hu) pe_sem pe_sem (fun _ _ => rfl)) (run_bin ok_ix (pwo_var 0 (pv 0)) (pwo_var 1 (pv 1))))) (pwa_nil)))) (pwe_of (pe_op op_addA pe_sem pe_sem) (run_bin ok_add (pwo_val (by exact pwe_of (pe_op op_mulA pe_sem pe_sem) (run_bin ok_mul (pwo_val (by exact pwe_int)) (pwo_val (by exact pwe_of (pe_callB (cr_sum rfl) (by rfl) T.b_sum (by decide +kernel) pa_sem) (run_prim ok_sum (pwa_cons (pwo_val (by exact pwe_of (pe_lc0 rfl scsource.nd (blkOk_by (own := [("one", 5)]) (N := Nsource) (sc := defScope ssource) (by decide +kernel))) (run_lc0 (own := [("one", 5)]) (by exact pwi_list (pwe_of (pe_slice sl_all pe_sem po_none (po_some pe_sem)) (run_sl (pwo_var 0 (pv 0)) runo_none (runo_some (pwe_int))))) (fun _ _ _ _ _ => by exact pwg_of (pg_name (i := 5) scsource.nd rfl (by first | exact Or.inl rfl | exact Or.inr rfl)) (rung_name 5)) (fun _ _ _ _ _ => by exact pwe_of (pe_op op_mod pe_sem pe_sem) (run_bin ok_mod (pwo_val (by exact pwe_of (pe_callTy call_int1 (by rfl) T.b_int (by decide +kernel) pa_sem) (run_prim ok_int (pwa_cons (pwo_var 5 (pv 5)) (pwa_nil))))) (pwo_val (by exact pwe_int))))))) (pwa_nil)))))))) (pwo_val (by exact pwe_int)))))))
    (pwss_cons (pws_set (ps_set (i := 3) scsource.nd rfl (Or.inl rfl) pe_sem) (PWE.sem (pwe_of (pe_op op_mod pe_sem pe_sem) (run_bin ok_mod (pwo_val (by exact pwe_of (pe_callB call_abs (by rfl) T.b_abs (by decide +kernel) pa_sem) (run_prim ok_abs (pwa_cons (pwo_var 2 (pv 2)) (pwa_nil))))) (pwo_val (by exact pwe_of (pe_op op_mulA pe_sem pe_sem) (run_bin ok_mul (pwo_val (by exact pwe_of (pe_op op_pow pe_sem pe_sem) (run_bin ok_pow (pwo_val (by exact pwe_int)) (pwo_val (by exact pwe_int))))) (pwo_val (by exact pwe_of (pe_op op_pow pe_sem pe_sem) (run_bin ok_pow (pwo_val (by exact pwe_int)) (pwo_val (by exact pwe_int))))))))))))
    (pwss_cons (pws_set (ps_set (i := 4) scsource.nd rfl (Or.inl rfl) pe_sem) (PWE.sem (pwe_of (pe_op op_mod pe_sem pe_sem) (run_bin ok_mod (pwo_val (by exact pwe_of (pe_callTy call_int1 (by rfl) T.b_int (by decide +kernel) pa_sem) (run_prim ok_int (pwa_cons (pwo_val (by exact pwe_of (pe_op op_addA pe_sem pe_sem) (run_bin ok_add (pwo_val (by exact pwe_of (pe_op op_addA pe_sem pe_sem) (run_bin ok_add (pwo_val (by exact pwe_of (pe_op op_addA pe_sem pe_sem) (run_bin ok_add (pwo_val (by exact pwe_of (pe_op op_mulA pe_sem pe_sem) (run_bin ok_mul (pwo_val (by exact pwe_int)) (pwo_var 3 (pv 3))))) (pwo_val (by exact pwe_if (pwt_of (pt_cmpR op_ltA pe_sem pe_sem (nomark _)) (run_bin ok_lt (pwo_var 2 (pv 2)) (pwo_val (by exact pwe_int)))) (pwe_int) (pwe_int)))))) (pwo_val (by exact pwe_of (pe_op op_mulA pe_sem pe_sem) (run_bin ok_mul (pwo_var 1 (pv 1)) (pwo_val (by exact pwe_int)))))))) (pwo_val (by exact pwe_int))))) (pwa_nil))))) (pwo_val (by exact pwe_int))))))
    (pwss_one (pws_ret (pwe_lst (pwa_cons (pwo_val (by exact pwe_if (pwt_of (pt_cmpR op_ge pe_sem pe_sem (nomark _)) (run_bin ok_ge (pwo_var 3 (pv 3)) (pwo_val (by exact pwe_of (pe_op op_pow pe_sem pe_sem) (run_bin ok_pow (pwo_val (by exact pwe_int)) (pwo_val (by exact pwe_int))))))) (pwe_var 3 (pv 3)) (pwe_int))) (pwa_cons (pwo_val (by exact pwe_of (pe_op op_mod pe_sem pe_sem) (run_bin ok_mod (pwo_val (by exact pwe_of (pe_callTy call_int1 (by rfl) T.b_int (by decide +kernel) pa_sem) (run_prim ok_int (pwa_cons (pwo_val (by exact pwe_of (pe_op op_mulA pe_sem pe_sem) (run_bin ok_mul (pwo_val (by exact pwe_of (pe_op op_addA pe_sem pe_sem) (run_bin ok_add (pwo_var 4 (pv 4)) (pwo_val (by exact pwe_int))))) (pwo_val (by exact pwe_of (pe_op op_addA pe_sem pe_sem) (run_bin ok_add (pwo_var 4 (pv 4)) (pwo_val (by exact pwe_int)))))))) (pwa_nil))))) (pwo_val (by exact pwe_int))))) (pwa_cons (pwo_val (by exact pwe_var 1 (pv 1))) (pwa_nil)))))))))
theorem def_pick {f : Addr} {fd : FuncData} (T : Blt mg) (F : Fun K "_law_pick" "_law_pick" spick f fd) (g : mg "_law_pick" = some (.ref f))
    (rd : Reads S_pick (fun EX => v_pick) 1) (len : ∀ ρs R RX, S_pick ρs R RX → ρs.length = 2) : Def P w K mg base 1 "_law_pick" ["source", "many"] S_pick := by
  refine ⟨f, fd, fn_w (t := fun EX => v_pick) F scpick (by decide) len (fun Φ cdv A outer s H E hr tk => ?_) rd, g, F.kp, F.binds fun _ _ _ _ _ _ us hl => match us, hl with | [_, _], _ => rfl⟩
  show PWSs _ Φ _ (v_pick)
  have hu : (A.deeper (envOfC "_law_pick" (defScope spick) s.heap.objs.size f cdv)).units + 1 < cLine := hu_of hr
  have hu64 : (A.deeper (envOfC "_law_pick" (defScope spick) s.heap.objs.size f cdv)).units + 64 < cLine := hr.units
  have hu65 : (A.deeper (envOfC "_law_pick" (defScope spick) s.heap.objs.size f cdv)).units + 65 < cLine := by have := hr.un; omega
  unfold v_pick
  exact pwss_cons (pws_if (pwt_of (pt_cmpR op_gtA pe_sem pe_sem (nomark _)) (run_bin ok_gt (pwo_val (by exact pwe_of (pe_ix (ix_all hu) pe_sem pe_sem (fun _ _ => rfl)) (run_bin ok_ix (pwo_var 0 (pv 0)) (pwo_val (by exact pwe_int))))) (pwo_val (by exact pwe_int)))) (pwss_cons (pws_set (ps_set (i := 2) scpick.nd rfl (Or.inl rfl) pe_sem) (PWE.sem (pwe_of (pe_op op_mod pe_sem pe_sem) (run_bin ok_mod (pwo_val (by exact pwe_of (pe_callTy call_int1 (by rfl) T.b_int (by decide +kernel) pa_sem) (run_prim ok_int (pwa_cons (pwo_val (by exact pwe_of (pe_ix (ix_all hu) pe_sem pe_sem (fun _ _ => rfl)) (run_bin ok_ix (pwo_var 0 (pv 0)) (pwo_val (by exact pwe_int))))) (pwa_nil))))) (pwo_var 1 (pv 1))))))
    (pwss_cons (pws_setL 0 (ps_asg pe_sem (pg_sub (pv 0) pe_sem set_list)) (pwe_int) (pwe_of (pe_op op_divA pe_sem pe_sem) (run_bin ok_div (pwo_val (by exact pwe_of (pe_ix (ix_all hu) pe_sem pe_sem (fun _ _ => rfl)) (run_bin ok_ix (pwo_var 0 (pv 0)) (pwo_val (by exact pwe_int))))) (pwo_var 1 (pv 1)))))
    (pwss_one (pws_ret (pwe_mv 2 (pv 2)))))) (pwss_nil))
    (pwss_cons (pws_augL 0 (ps_augS (pv 0) pe_sem pget_list pe_sem ip_addA set_list) ok_iadd (pwe_int) (pwe_int))
    (pwss_cons (pws_setL 0 (ps_asg pe_sem (pg_sub (pv 0) pe_sem set_list)) (pwe_int) (pwe_of (pe_op op_mod pe_sem pe_sem) (run_bin ok_mod (pwo_val (by exact pwe_of (pe_callTy call_int1 (by rfl) T.b_int (by decide +kernel) pa_sem) (run_prim ok_int (pwa_cons (pwo_val (by exact pwe_of (pe_op op_addA pe_sem pe_sem) (run_bin ok_add (pwo_val (by exact pwe_of (pe_op op_mulA pe_sem pe_sem) (run_bin ok_mul (pwo_val (by exact pwe_of (pe_ix (ix_all hu) pe_sem pe_sem (fun _ _ => rfl)) (run_bin ok_ix (pwo_var 0 (pv 0)) (pwo_val (by exact pwe_int))))) (pwo_val (by exact pwe_int))))) (pwo_val (by exact pwe_of (pe_op op_mulA pe_sem pe_sem) (run_bin ok_mul (pwo_val (by exact pwe_of (pe_ix (ix_all hu) pe_sem pe_sem (fun _ _ => rfl)) (run_bin ok_ix (pwo_var 0 (pv 0)) (pwo_val (by exact pwe_int))))) (pwo_val (by exact pwe_int)))))))) (pwa_nil))))) (pwo_val (by exact pwe_int)))))
    (pwss_one (pws_ret (pwe_of (pe_op op_mod pe_sem pe_sem) (run_bin ok_mod (pwo_val (by exact pwe_of (pe_op op_divA pe_sem pe_sem) (run_bin ok_div (pwo_val (by exact pwe_of (pe_op op_mod pe_sem pe_sem) (run_bin ok_mod (pwo_val (by exact pwe_of (pe_callTy call_int1 (by rfl) T.b_int (by decide +kernel) pa_sem) (run_prim ok_int (pwa_cons (pwo_val (by exact pwe_of (pe_op op_addA pe_sem pe_sem) (run_bin ok_add (pwo_val (by exact pwe_of (pe_op op_mulA pe_sem pe_sem) (run_bin ok_mul (pwo_val (by exact pwe_of (pe_ix (ix_all hu) pe_sem pe_sem (fun _ _ => rfl)) (run_bin ok_ix (pwo_var 0 (pv 0)) (pwo_val (by exact pwe_int))))) (pwo_val (by exact pwe_int))))) (pwo_val (by exact pwe_of (pe_op op_mulA pe_sem pe_sem) (run_bin ok_mul (pwo_val (by exact pwe_of (pe_ix (ix_all hu) pe_sem pe_sem (fun _ _ => rfl)) (run_bin ok_ix (pwo_var 0 (pv 0)) (pwo_val (by exact pwe_int))))) (pwo_val (by exact pwe_int)))))))) (pwa_nil))))) (pwo_val (by exact pwe_int))))) (pwo_val (by exact pwe_int))))) (pwo_var 1 (pv 1))))))))
theorem def_choice {f : Addr} {fd : FuncData} (T : Blt mg) (D_pick : Def P w K mg base 1 "_law_pick" ["source", "many"] S_pick) (F : Fun K "_law_choice" "_law_choice" schoice f fd) (g : mg "_law_choice" = some (.ref f))
    (rd : Reads S_choice (fun EX => v_choice) 0) (len : ∀ ρs R RX, S_choice ρs R RX → ρs.length = 2) : Def P w K mg base 2 "_law_choice" ["source", "things"] S_choice := by
  refine ⟨f, fd, fn_w (t := fun EX => v_choice) F scchoice (by decide) len (fun Φ cdv A outer s H E hr tk => ?_) rd, g, F.kp, F.binds fun _ _ _ _ _ _ us hl => match us, hl with | [_, _], _ => rfl⟩
  show PWSs _ Φ _ (v_choice)
  have hu : (A.deeper (envOfC "_law_choice" (defScope schoice) s.heap.objs.size f cdv)).units + 1 < cLine := hu_of hr
  have hu64 : (A.deeper (envOfC "_law_choice" (defScope schoice) s.heap.objs.size f cdv)).units + 64 < cLine := hr.units
  have hu65 : (A.deeper (envOfC "_law_choice" (defScope schoice) s.heap.objs.size f cdv)).units + 65 < cLine := by have := hr.un; omega
  unfold v_choice
  exact pwss_one (pws_ret (pwe_of (pe_ix (ix_all hu) pe_sem pe_sem (fun _ _ => rfl)) (run_bin ok_ix (pwo_var 1 (pv 1)) (pwo_val (by exact pwe_callD D_pick (hr.mono (by decide)) (by rfl) (pwa_cons (pwo_var 0 (pv 0)) (pwa_cons (pwo_val (pwe_sh (by exact pwe_of (pe_callB call_lenA (by rfl) T.b_len (by decide +kernel) pa_sem) (run_prim ok_len (pwa_cons (pwo_var 1 (pv 1)) (pwa_nil)))))) (pwa_nil))))))))
theorem def_same {f : Addr} {fd : FuncData} (T : Blt mg) {kr : Nat} {S_same S1_same : VSp} (D_same : Def P w K mg base kr "_law_same" ["answer", "due"] S_same) (F : Fun K "_law_same" "_law_same" ssame f fd) (g : mg "_law_same" = some (.ref f))
    (rd : Reads S1_same (fun EX => v_same S_same) 4) (len : ∀ ρs R RX, S1_same ρs R RX → ρs.length = 2) : Def P w K mg base (kr + 1) "_law_same" ["answer", "due"] S1_same := by
  refine ⟨f, fd, fn_w (t := fun EX => v_same S_same) F scsame (by decide) len (fun Φ cdv A outer s H E hr tk => ?_) rd, g, F.kp, F.binds fun _ _ _ _ _ _ us hl => match us, hl with | [_, _], _ => rfl⟩
  show PWSs _ Φ _ (v_same S_same)
  have hu : (A.deeper (envOfC "_law_same" (defScope ssame) s.heap.objs.size f cdv)).units + 1 < cLine := hu_of hr
  have hu64 : (A.deeper (envOfC "_law_same" (defScope ssame) s.heap.objs.size f cdv)).units + 64 < cLine := hr.units
  have hu65 : (A.deeper (envOfC "_law_same" (defScope ssame) s.heap.objs.size f cdv)).units + 65 < cLine := by have := hr.un; omega
  unfold v_same
  exact pwss_cons (pws_if (pwt_truth (pwo_val (by exact pwe_of (pe_callB call_isi (by rfl) T.b_isinstance (by decide +kernel) pa_sem) (run_prim ok_isi (pwa_cons (pwo_var 1 (pv 1)) (pwa_cons (pwo_val (by exact pwe_c (pe_bltn (v := .ty "dict") (by rfl) T.b_dict (by decide +kernel) rfl) (fun _ _ => .opq))) (pwa_nil))))))) (pwss_cons (pws_setLcK 1 (ps_setLc0 (i := 2) (own := [("key", 3)]) rfl scsame.nd rfl rfl (sw_true rfl rfl rfl (by decide +kernel)) (pi_keys (pv 1)) (blkOk_by (own := [("key", 3)]) (N := Nsame) (sc := defScope ssame) (by decide +kernel))) (rung_U (fun _ _ _ _ _ => by exact pwg_of (pg_name (i := 3) scsame.nd rfl (by first | exact Or.inl rfl | exact Or.inr rfl)) (rung_name 3))) runt_yes (rune_U (fun _ _ _ _ _ => by exact pwe_lst (pwa_cons (pwo_val (by exact pwe_var 3 (pv 3))) (pwa_cons (pwo_val (by exact pwe_of (pe_ix (ix_all hu) pe_sem pe_sem (fun _ _ => rfl)) (run_bin ok_ix (pwo_var 1 (pv 1)) (pwo_var 3 (pv 3))))) (pwa_nil))))) (by decide))
    (pwss_cons (pws_if (PWW.pt (pww_or (pwt_not (pwt_truth (pwo_val (by exact pwe_of (pe_callB call_isi (by rfl) T.b_isinstance (by decide +kernel) pa_sem) (run_prim ok_isi (pwa_cons (pwo_var 0 (pv 0)) (pwa_cons (pwo_val (by exact pwe_c (pe_bltn (v := .ty "dict") (by rfl) T.b_dict (by decide +kernel) rfl) (fun _ _ => .opq))) (pwa_nil)))))))) (pww_or1 (pwt_of (pt_cmpR (op_neA hu64) pe_sem pe_sem (nomark _)) (run_bin ok_ne (pwo_val (by exact pwe_of (pe_callB call_lenA (by rfl) T.b_len (by decide +kernel) pa_sem) (run_prim ok_len (pwa_cons (pwo_var 0 (pv 0)) (pwa_nil))))) (pwo_val (by exact pwe_of (pe_callB call_lenA (by rfl) T.b_len (by decide +kernel) pa_sem) (run_prim ok_len (pwa_cons (pwo_var 1 (pv 1)) (pwa_nil)))))))))) (pwss_one (pws_ret (pwe_bl))) (pwss_nil))
    (pwss_one (pws_ret (pwe_of (pe_callB (cr_all rfl) (by rfl) T.b_all (by decide +kernel) pa_sem) (run_prim ok_all (pwa_cons (pwo_val (by exact pwe_of (pe_lc0 rfl scsame.nd (blkOk_by (own := [("key", 3), ("one", 4)]) (N := Nsame) (sc := defScope ssame) (by decide +kernel))) (run_lc0 (own := [("key", 3), ("one", 4)]) (by exact pwi_list (pwe_var 2 (pv 2))) (fun _ _ _ _ _ => by exact pwg_of (pg_lst rfl (pgs_cons (pg_name (i := 3) scsame.nd rfl (by first | exact Or.inl rfl | exact Or.inr rfl)) (pgs_cons (pg_name (i := 4) scsame.nd rfl (by first | exact Or.inl rfl | exact Or.inr rfl)) pgs_nil))) (rung_lst [3, 4])) (fun _ _ _ _ _ => by exact pwe_and (pwe_of (pe_cmpR (op_inA hu) pe_sem pe_sem (by rfl)) (run_bin ok_in (pwo_var 3 (pv 3)) (pwo_var 0 (pv 0)))) (pwe_one (pwe_callD D_same (hr.mono (Nat.le_refl _)) (by rfl) (pwa_cons (pwo_val (pwe_sh (by exact pwe_of (pe_ix (ix_all hu) pe_sem pe_sem (fun _ _ => rfl)) (run_bin ok_ix (pwo_var 0 (pv 0)) (pwo_var 3 (pv 3)))))) (pwa_cons (pwo_val (pwe_var 4 (pv 4))) (pwa_nil))))))))) (pwa_nil)))))))) (pwss_nil))
    (pwss_cons (pws_if (pwt_truth (pwo_val (by exact pwe_of (pe_callB call_isiT (by rfl) T.b_isinstance (by decide +kernel) pa_sem) (run_prim ok_isiT (pwa_cons (pwo_var 1 (pv 1)) (pwa_cons (pwo_val (by exact pwe_tup (pwa_cons (pwo_val (by exact pwe_c (pe_bltn (v := .ty "list") (by rfl) T.b_list (by decide +kernel) rfl) (fun _ _ => .opq))) (pwa_cons (pwo_val (by exact pwe_c (pe_bltn (v := .ty "tuple") (by rfl) T.b_tuple (by decide +kernel) rfl) (fun _ _ => .opq))) (pwa_nil))))) (pwa_nil))))))) (pwss_cons (pws_if (PWW.pt (pww_or (pwt_of (pt_cmpR (op_neA hu64) pe_sem pe_sem (nomark _)) (run_bin ok_ne (pwo_val (by exact pwe_of (pe_callB call_isi (by rfl) T.b_isinstance (by decide +kernel) pa_sem) (run_prim ok_isi (pwa_cons (pwo_var 1 (pv 1)) (pwa_cons (pwo_val (by exact pwe_c (pe_bltn (v := .ty "list") (by rfl) T.b_list (by decide +kernel) rfl) (fun _ _ => .opq))) (pwa_nil)))))) (pwo_val (by exact pwe_of (pe_callB call_isi (by rfl) T.b_isinstance (by decide +kernel) pa_sem) (run_prim ok_isi (pwa_cons (pwo_var 0 (pv 0)) (pwa_cons (pwo_val (by exact pwe_c (pe_bltn (v := .ty "list") (by rfl) T.b_list (by decide +kernel) rfl) (fun _ _ => .opq))) (pwa_nil)))))))) (pww_or1 (pwt_of (pt_cmpR (op_neA hu64) pe_sem pe_sem (nomark _)) (run_bin ok_ne (pwo_val (by exact pwe_of (pe_callB call_isi (by rfl) T.b_isinstance (by decide +kernel) pa_sem) (run_prim ok_isi (pwa_cons (pwo_var 1 (pv 1)) (pwa_cons (pwo_val (by exact pwe_c (pe_bltn (v := .ty "tuple") (by rfl) T.b_tuple (by decide +kernel) rfl) (fun _ _ => .opq))) (pwa_nil)))))) (pwo_val (by exact pwe_of (pe_callB call_isi (by rfl) T.b_isinstance (by decide +kernel) pa_sem) (run_prim ok_isi (pwa_cons (pwo_var 0 (pv 0)) (pwa_cons (pwo_val (by exact pwe_c (pe_bltn (v := .ty "tuple") (by rfl) T.b_tuple (by decide +kernel) rfl) (fun _ _ => .opq))) (pwa_nil))))))))))) (pwss_one (pws_ret (pwe_bl))) (pwss_nil))
    (pwss_one (pws_ret (pwe_and (pwe_of (pe_cmpR (op_eqA hu64) pe_sem pe_sem (nomark _)) (run_bin ok_eq (pwo_val (by exact pwe_of (pe_callB call_lenA (by rfl) T.b_len (by decide +kernel) pa_sem) (run_prim ok_len (pwa_cons (pwo_var 0 (pv 0)) (pwa_nil))))) (pwo_val (by exact pwe_of (pe_callB call_lenA (by rfl) T.b_len (by decide +kernel) pa_sem) (run_prim ok_len (pwa_cons (pwo_var 1 (pv 1)) (pwa_nil))))))) (pwe_one (pwe_of (pe_callB (cr_all rfl) (by rfl) T.b_all (by decide +kernel) pa_sem) (run_prim ok_all (pwa_cons (pwo_val (by exact pwe_of (pe_lc0 rfl scsame.nd (blkOk_by (own := [("at", 5)]) (N := Nsame) (sc := defScope ssame) (by decide +kernel))) (run_lc0 (own := [("at", 5)]) (by exact pwi_range1 (pi_range1 (by rfl) T.b_range pa_sem) (pwa_cons (pwo_val (by exact pwe_of (pe_callB call_lenA (by rfl) T.b_len (by decide +kernel) pa_sem) (run_prim ok_len (pwa_cons (pwo_var 1 (pv 1)) (pwa_nil))))) (pwa_nil))) (fun _ _ _ _ _ => by exact pwg_of (pg_name (i := 5) scsame.nd rfl (by first | exact Or.inl rfl | exact Or.inr rfl)) (rung_name 5)) (fun _ _ _ _ _ => by exact pwe_callD D_same (hr.mono (Nat.le_refl _)) (by rfl) (pwa_cons (pwo_val (pwe_sh (by exact pwe_of (pe_ix (ix_all hu) pe_sem pe_sem (fun _ _ => rfl)) (run_bin ok_ix (pwo_var 0 (pv 0)) (pwo_var 5 (pv 5)))))) (pwa_cons (pwo_val (pwe_sh (by exact pwe_of (pe_ix (ix_all hu) pe_sem pe_sem (fun _ _ => rfl)) (run_bin ok_ix (pwo_var 1 (pv 1)) (pwo_var 5 (pv 5)))))) (pwa_nil))))))) (pwa_nil))))))))) (pwss_nil))
    (pwss_one (pws_ret (pwe_and (pwe_or (pwe_of (pe_cmpR op_isN pe_sem pe_sem (nomark _)) (run_bin ok_isN (pwo_var 0 (pv 0)) (pwo_val (by exact pwe_non)))) (pwe_one (pwe_of (pe_callB call_isiT (by rfl) T.b_isinstance (by decide +kernel) pa_sem) (run_prim ok_isiT (pwa_cons (pwo_var 0 (pv 0)) (pwa_cons (pwo_val (by exact pwe_tup (pwa_cons (pwo_val (by exact pwe_c (pe_bltn (v := .ty "int") (by rfl) T.b_int (by decide +kernel) rfl) (fun _ _ => .opq))) (pwa_cons (pwo_val (by exact pwe_c (pe_bltn (v := .ty "str") (by rfl) T.b_str (by decide +kernel) rfl) (fun _ _ => .opq))) (pwa_nil))))) (pwa_nil))))))) (pwe_one (pwe_of (pe_cmpR (op_eqA hu64) pe_sem pe_sem (nomark _)) (run_bin ok_eq (pwo_val (by exact pwe_of (pe_callB call_reprA (by rfl) T.b_repr (by decide +kernel) pa_sem) (run_prim ok_repr (pwa_cons (pwo_var 0 (pv 0)) (pwa_nil))))) (pwo_val (by exact pwe_of (pe_callB call_reprA (by rfl) T.b_repr (by decide +kernel) pa_sem) (run_prim ok_repr (pwa_cons (pwo_var 1 (pv 1)) (pwa_nil))))))))))))
theorem tl_k26_told (T : Blt mg) {C_TooMany : Addr} (X_TooMany : XCls P w K mg base "TooMany" C_TooMany ["what"] 1) {g : Addr} {fd : FuncData} (Fg : Fun K "_law_k26_told" "_law_k26_told" sk26_told g fd) (gm : mg "_law_k26_told" = some (.ref g))
    (rd : ∀ SSl f dcap ρs R RX, SG_k26_told SSl f dcap ρs R RX → (fun EX => v_k26_told f dcap SSl EX (PySem.W.exmOne K) (XfOk K) C_TooMany) (fun cls fs ρ' => RX cls fs (fin ρs ρ')) { nx := fun ρ' => R (.sh .non) (fin ρs ρ'), rt := fun r ρ' => R r (fin ρs ρ') } (ρs ++ uns 1)) (len : ∀ SSl f dcap ρs R RX, SG_k26_told SSl f dcap ρs R RX → ρs.length = 1)
    (X : Cx) (n : Nat) (SSl : VSp) (e1 : X.prog = P) (e2 : X.w = w) (e3 : X.K = K) (e4 : X.mg = mg) (e5 : X.base = base) : TakesLam X "_law_k26_told" sk26_told g Nk26_told ["make"] 7 7 n SSl (SG_k26_told SSl) := by
  subst e1; subst e2; subst e3; subst e4; subst e5
  refine ⟨⟨fd, Fg, Fg.binds fun _ _ _ _ _ _ us hl => match us, hl with | [_], _ => rfl⟩, gm, sck26_told, len SSl, fun f c' cap dcap s H E cdv hn LA hr => ⟨fun EX => v_k26_told f dcap SSl EX (PySem.W.exmOne X.K) (XfOk X.K) C_TooMany, fun Φ hc hcap tk => ?_, rd SSl f dcap⟩⟩
  show PWSs _ Φ _ (v_k26_told f dcap SSl Φ.EX (PySem.W.exmOne X.K) (XfOk X.K) C_TooMany)
  have hu : (X.A.deeper (envOfC "_law_k26_told" (defScope sk26_told) s.heap.objs.size g cdv)).units + 1 < cLine := hu_of hr
  have hu64 : (X.A.deeper (envOfC "_law_k26_told" (defScope sk26_told) s.heap.objs.size g cdv)).units + 64 < cLine := hr.units
  have hu65 : (X.A.deeper (envOfC "_law_k26_told" (defScope sk26_told) s.heap.objs.size g cdv)).units + 65 < cLine := by have := hr.un; omega
  unfold v_k26_told
  exact pwss_one (pws_tryAs (i := 1) rfl rfl sck26_told.nd rfl rfl ⟨by rfl, by decide, Or.inl X_TooMany.mg⟩ tk (fun Φ1 pn xe hS1 tk1 po => pwss_one (pws_ret (pwe_callF0 LA (hr.mono (Nat.le_refl _)) tk1 (fun _ _ _ _ I e => ⟨I.base, e _ _ (hS1 _ _ hc)⟩) (hcap.mono hS1) (by rfl) (Or.inl rfl)))) (fun Φ2 a oe cls d fs pn hz hfl xa => pwss_one (pws_ret (pwe_tup (pwa_cons (pwo_val (by exact pwe_str)) (pwa_cons (pwo_val (by exact pwe_xf 1 hz hfl xa (pv 1))) (pwa_nil)))))))
theorem def_k26_laid {f : Addr} {fd : FuncData} (T : Blt mg) (F : Fun K "_law_k26_laid" "_law_k26_laid" sk26_laid f fd) (g : mg "_law_k26_laid" = some (.ref f))
    (rd : Reads S_k26_laid (fun EX => v_k26_laid) 5) (len : ∀ ρs R RX, S_k26_laid ρs R RX → ρs.length = 2) : Def P w K mg base 1 "_law_k26_laid" ["lengths", "k"] S_k26_laid := by
  refine ⟨f, fd, fn_w (t := fun EX => v_k26_laid) F sck26_laid (by decide) len (fun Φ cdv A outer s H E hr tk => ?_) rd, g, F.kp, F.binds fun _ _ _ _ _ _ us hl => match us, hl with | [_, _], _ => rfl⟩
  show PWSs _ Φ _ (v_k26_laid)
  have hu : (A.deeper (envOfC "_law_k26_laid" (defScope sk26_laid) s.heap.objs.size f cdv)).units + 1 < cLine := hu_of hr
  have hu64 : (A.deeper (envOfC "_law_k26_laid" (defScope sk26_laid) s.heap.objs.size f cdv)).units + 64 < cLine := hr.units
  have hu65 : (A.deeper (envOfC "_law_k26_laid" (defScope sk26_laid) s.heap.objs.size f cdv)).units + 65 < cLine := by have := hr.un; omega
  unfold v_k26_laid
  exact pwss_cons (pws_set (ps_set (i := 2) sck26_laid.nd rfl (Or.inr rfl) pe_sem) (PWE.sem (pwe_of (pe_callTy (call_listA rfl) (by rfl) T.b_list (by decide +kernel) pa_sem) (run_prim ok_list (pwa_cons (pwo_var 0 (pv 0)) (pwa_nil))))))
    (pwss_cons (pws_set (ps_set (i := 3) sck26_laid.nd rfl (Or.inl rfl) pe_sem) (PWE.sem (pwe_int)))
    (pwss_cons (pws_while (ps_while (passes_of rfl) pt_sem pss_sem) (pwt_of (pt_cmpR op_gtA pe_sem pe_sem (nomark _)) (run_bin ok_gt (pwo_val (by exact pwe_of (pe_callB (cr_sum rfl) (by rfl) T.b_sum (by decide +kernel) pa_sem) (run_prim ok_sum (pwa_cons (pwo_var 2 (pv 2)) (pwa_nil))))) (pwo_val (by exact pwe_int)))) (pwss_cons (pws_set (ps_setLc1 (i := 4) rfl sck26_laid.nd rfl rfl (sw_true rfl rfl rfl (by decide +kernel)) pi_sem (blkOk_by (own := [("at", 6)]) (N := Nk26_laid) (sc := defScope sk26_laid) (by decide +kernel))) (run_lc1 (own := [("at", 6)]) (by exact pwi_range1 (pi_range1 (by rfl) T.b_range pa_sem) (pwa_cons (pwo_val (by exact pwe_of (pe_callB call_lenA (by rfl) T.b_len (by decide +kernel) pa_sem) (run_prim ok_len (pwa_cons (pwo_var 2 (pv 2)) (pwa_nil))))) (pwa_nil))) (fun _ _ _ _ _ => by exact pwg_of (pg_name (i := 6) sck26_laid.nd rfl (by first | exact Or.inl rfl | exact Or.inr rfl)) (rung_name 6)) (fun _ _ _ _ _ => by exact pwt_of (pt_cmpR op_gtA pe_sem pe_sem (nomark _)) (run_bin ok_gt (pwo_val (by exact pwe_of (pe_ix (ix_all hu) pe_sem pe_sem (fun _ _ => rfl)) (run_bin ok_ix (pwo_var 2 (pv 2)) (pwo_var 6 (pv 6))))) (pwo_val (by exact pwe_int)))) (fun _ _ _ _ _ => by exact pwe_var 6 (pv 6))))
    (pwss_cons (pws_set (ps_set (i := 4) sck26_laid.nd rfl (Or.inl rfl) pe_sem) (PWE.sem (pwe_if (pwt_of (pt_cmpR op_gtA pe_sem pe_sem (nomark _)) (run_bin ok_gt (pwo_var 1 (pv 1)) (pwo_val (by exact pwe_int)))) (pwe_of (pe_slice sl_all pe_sem po_none (po_some pe_sem)) (run_sl (pwo_var 4 (pv 4)) runo_none (runo_some (pwe_var 1 (pv 1))))) (pwe_var 4 (pv 4)))))
    (pwss_cons (pws_set (ps_set (i := 5) sck26_laid.nd rfl (Or.inl rfl) pe_sem) (PWE.sem (pwe_of (pe_callB (call_minA rfl) (by rfl) T.b_min (by decide +kernel) pa_sem) (run_prim ok_min (pwa_cons (pwo_val (by exact pwe_of (pe_lc0 rfl sck26_laid.nd (blkOk_by (own := [("at", 6)]) (N := Nk26_laid) (sc := defScope sk26_laid) (by decide +kernel))) (run_lc0 (own := [("at", 6)]) (by exact pwi_list (pwe_var 4 (pv 4))) (fun _ _ _ _ _ => by exact pwg_of (pg_name (i := 6) sck26_laid.nd rfl (by first | exact Or.inl rfl | exact Or.inr rfl)) (rung_name 6)) (fun _ _ _ _ _ => by exact pwe_of (pe_ix (ix_all hu) pe_sem pe_sem (fun _ _ => rfl)) (run_bin ok_ix (pwo_var 2 (pv 2)) (pwo_var 6 (pv 6))))))) (pwa_nil))))))
    (pwss_cons (pws_for (ps_for (passes_of rfl) rfl pi_sem pg_sem pss_sem) (pwi_list (pwe_var 4 (pv 4))) (pwg_of (pg_name (i := 6) sck26_laid.nd rfl (Or.inl rfl)) (rung_name 6)) (pwss_one (pws_setL 2 (ps_asg pe_sem (pg_sub (pv 2) pe_sem set_list)) (pwe_var 6 (pv 6)) (pwe_of (pe_op op_sub pe_sem pe_sem) (run_bin ok_sub (pwo_val (by exact pwe_of (pe_ix (ix_all hu) pe_sem pe_sem (fun _ _ => rfl)) (run_bin ok_ix (pwo_var 2 (pv 2)) (pwo_var 6 (pv 6))))) (pwo_var 5 (pv 5)))))))
    (pwss_one (pws_set (ps_set (i := 3) sck26_laid.nd rfl (Or.inl rfl) pe_sem) (PWE.sem (pwe_of (pe_op op_addA pe_sem pe_sem) (run_bin ok_add (pwo_var 3 (pv 3)) (pwo_var 5 (pv 5))))))))))))
    (pwss_one (pws_ret (pwe_mv 3 (pv 3))))))
theorem def_k26_least {f : Addr} {fd : FuncData} (T : Blt mg) (F : Fun K "_law_k26_least" "_law_k26_least" sk26_least f fd) (g : mg "_law_k26_least" = some (.ref f))
    (rd : Reads S_k26_least (fun EX => v_k26_least) 3) (len : ∀ ρs R RX, S_k26_least ρs R RX → ρs.length = 3) : Def P w K mg base 1 "_law_k26_least" ["lengths", "w", "turns"] S_k26_least := by
  refine ⟨f, fd, fn_w (t := fun EX => v_k26_least) F sck26_least (by decide) len (fun Φ cdv A outer s H E hr tk => ?_) rd, g, F.kp, F.binds fun _ _ _ _ _ _ us hl => match us, hl with | [_, _, _], _ => rfl⟩
  show PWSs _ Φ _ (v_k26_least)
  have hu : (A.deeper (envOfC "_law_k26_least" (defScope sk26_least) s.heap.objs.size f cdv)).units + 1 < cLine := hu_of hr
  have hu64 : (A.deeper (envOfC "_law_k26_least" (defScope sk26_least) s.heap.objs.size f cdv)).units + 64 < cLine := hr.units
  have hu65 : (A.deeper (envOfC "_law_k26_least" (defScope sk26_least) s.heap.objs.size f cdv)).units + 65 < cLine := by have := hr.un; omega
  unfold v_k26_least
  exact pwss_cons (pws_if (PWW.pt (pww_or (pwt_not (pwt_truth (pwo_val (by exact pwe_of (pe_callB call_isi (by rfl) T.b_isinstance (by decide +kernel) pa_sem) (run_prim ok_isi (pwa_cons (pwo_var 2 (pv 2)) (pwa_cons (pwo_val (by exact pwe_c (pe_bltn (v := .ty "int") (by rfl) T.b_int (by decide +kernel) rfl) (fun _ _ => .opq))) (pwa_nil)))))))) (pww_or (pwt_truth (pwo_val (by exact pwe_of (pe_callB call_isi (by rfl) T.b_isinstance (by decide +kernel) pa_sem) (run_prim ok_isi (pwa_cons (pwo_var 2 (pv 2)) (pwa_cons (pwo_val (by exact pwe_c (pe_bltn (v := .ty "bool") (by rfl) T.b_bool (by decide +kernel) rfl) (fun _ _ => .opq))) (pwa_nil))))))) (pww_or1 (pwt_of (pt_cmpR op_ltA pe_sem pe_sem (nomark _)) (run_bin ok_lt (pwo_var 2 (pv 2)) (pwo_val (by exact pwe_int)))))))) (pwss_one (pws_ret (pwe_bl))) (pwss_nil))
    (pwss_cons (pws_set (ps_set (i := 3) sck26_least.nd rfl (Or.inl rfl) pe_sem) (PWE.sem (pwe_of (pe_callB (cr_sum rfl) (by rfl) T.b_sum (by decide +kernel) pa_sem) (run_prim ok_sum (pwa_cons (pwo_val (by exact pwe_of (pe_lc0 rfl sck26_least.nd (blkOk_by (own := [("one", 5)]) (N := Nk26_least) (sc := defScope sk26_least) (by decide +kernel))) (run_lc0 (own := [("one", 5)]) (by exact pwi_list (pwe_var 0 (pv 0))) (fun _ _ _ _ _ => by exact pwg_of (pg_name (i := 5) sck26_least.nd rfl (by first | exact Or.inl rfl | exact Or.inr rfl)) (rung_name 5)) (fun _ _ _ _ _ => by exact pwe_of (pe_callB (call_maxA rfl) (by rfl) T.b_max (by decide +kernel) pa_sem) (run_prim ok_max (pwa_cons (pwo_val (by exact pwe_int)) (pwa_cons (pwo_val (by exact pwe_of (pe_op op_sub pe_sem pe_sem) (run_bin ok_sub (pwo_var 5 (pv 5)) (pwo_var 2 (pv 2))))) (pwa_nil)))))))) (pwa_nil))))))
    (pwss_cons (pws_set (ps_set (i := 4) sck26_least.nd rfl (Or.inl rfl) pe_sem) (PWE.sem (pwe_of (pe_callB (cr_sum rfl) (by rfl) T.b_sum (by decide +kernel) pa_sem) (run_prim ok_sum (pwa_cons (pwo_val (by exact pwe_of (pe_lc0 rfl sck26_least.nd (blkOk_by (own := [("one", 5)]) (N := Nk26_least) (sc := defScope sk26_least) (by decide +kernel))) (run_lc0 (own := [("one", 5)]) (by exact pwi_list (pwe_var 0 (pv 0))) (fun _ _ _ _ _ => by exact pwg_of (pg_name (i := 5) sck26_least.nd rfl (by first | exact Or.inl rfl | exact Or.inr rfl)) (rung_name 5)) (fun _ _ _ _ _ => by exact pwe_of (pe_callB (call_maxA rfl) (by rfl) T.b_max (by decide +kernel) pa_sem) (run_prim ok_max (pwa_cons (pwo_val (by exact pwe_int)) (pwa_cons (pwo_val (by exact pwe_of (pe_op op_addA pe_sem pe_sem) (run_bin ok_add (pwo_val (by exact pwe_of (pe_op op_sub pe_sem pe_sem) (run_bin ok_sub (pwo_var 5 (pv 5)) (pwo_var 2 (pv 2))))) (pwo_val (by exact pwe_int))))) (pwa_nil)))))))) (pwa_nil))))))
    (pwss_one (pws_ret (pwe_and (pwe_of (pe_cmpR op_le pe_sem pe_sem (nomark _)) (run_bin ok_le (pwo_var 3 (pv 3)) (pwo_val (by exact pwe_of (pe_op op_mulA pe_sem pe_sem) (run_bin ok_mul (pwo_var 1 (pv 1)) (pwo_var 2 (pv 2))))))) (pwe_one (pwe_or (pwe_of (pe_cmpR (op_eqA hu64) pe_sem pe_sem (nomark _)) (run_bin ok_eq (pwo_var 2 (pv 2)) (pwo_val (by exact pwe_int)))) (pwe_one (pwe_of (pe_cmpR op_gtA pe_sem pe_sem (nomark _)) (run_bin ok_gt (pwo_var 4 (pv 4)) (pwo_val (by exact pwe_of (pe_op op_mulA pe_sem pe_sem) (run_bin ok_mul (pwo_var 1 (pv 1)) (pwo_val (by exact pwe_of (pe_op op_sub pe_sem pe_sem) (run_bin ok_sub (pwo_var 2 (pv 2)) (pwo_val (by exact pwe_int))))))))))))))))))
theorem def_k26_groups {f : Addr} {fd : FuncData} (T : Blt mg) (F : Fun K "_law_k26_groups" "_law_k26_groups" sk26_groups f fd) (g : mg "_law_k26_groups" = some (.ref f))
    (rd : Reads S_k26_groups (fun EX => v_k26_groups) 3) (len : ∀ ρs R RX, S_k26_groups ρs R RX → ρs.length = 2) : Def P w K mg base 1 "_law_k26_groups" ["sizes", "w"] S_k26_groups := by
  refine ⟨f, fd, fn_w (t := fun EX => v_k26_groups) F sck26_groups (by decide) len (fun Φ cdv A outer s H E hr tk => ?_) rd, g, F.kp, F.binds fun _ _ _ _ _ _ us hl => match us, hl with | [_, _], _ => rfl⟩
  show PWSs _ Φ _ (v_k26_groups)
  have hu : (A.deeper (envOfC "_law_k26_groups" (defScope sk26_groups) s.heap.objs.size f cdv)).units + 1 < cLine := hu_of hr
  have hu64 : (A.deeper (envOfC "_law_k26_groups" (defScope sk26_groups) s.heap.objs.size f cdv)).units + 64 < cLine := hr.units
  have hu65 : (A.deeper (envOfC "_law_k26_groups" (defScope sk26_groups) s.heap.objs.size f cdv)).units + 65 < cLine := by have := hr.un; omega
  unfold v_k26_groups
  exact pwss_cons (pws_set (ps_set (i := 2) sck26_groups.nd rfl (Or.inl rfl) pe_sem) (PWE.sem (pwe_int)))
    (pwss_cons (pws_set (ps_set (i := 3) sck26_groups.nd rfl (Or.inl rfl) pe_sem) (PWE.sem (pwe_of (pe_callTy (call_listA rfl) (by rfl) T.b_list (by decide +kernel) pa_sem) (run_prim ok_list (pwa_cons (pwo_var 0 (pv 0)) (pwa_nil))))))
    (pwss_cons (pws_while (ps_while (passes_of rfl) pt_sem pss_sem) (pwt_of (pt_cmpR op_gtA pe_sem pe_sem (nomark _)) (run_bin ok_gt (pwo_val (by exact pwe_of (pe_callB call_lenA (by rfl) T.b_len (by decide +kernel) pa_sem) (run_prim ok_len (pwa_cons (pwo_var 3 (pv 3)) (pwa_nil))))) (pwo_val (by exact pwe_int)))) (pwss_cons (pws_set (ps_set (i := 4) sck26_groups.nd rfl (Or.inl rfl) pe_sem) (PWE.sem (pwe_int)))
    (pwss_cons (pws_while (ps_while (passes_of rfl) pt_sem pss_sem) (PWW.pt (pww_and (pwt_of (pt_cmpR op_ltA pe_sem pe_sem (nomark _)) (run_bin ok_lt (pwo_var 4 (pv 4)) (pwo_val (by exact pwe_of (pe_callB call_lenA (by rfl) T.b_len (by decide +kernel) pa_sem) (run_prim ok_len (pwa_cons (pwo_var 3 (pv 3)) (pwa_nil))))))) (pww_and1 (pwt_of (pt_cmpR op_le pe_sem pe_sem (nomark _)) (run_bin ok_le (pwo_val (by exact pwe_of (pe_callB (cr_sum rfl) (by rfl) T.b_sum (by decide +kernel) pa_sem) (run_prim ok_sum (pwa_cons (pwo_val (by exact pwe_of (pe_slice sl_all pe_sem (po_some pe_sem) (po_some pe_sem)) (run_sl (pwo_var 3 (pv 3)) (runo_some (pwe_int)) (runo_some (pwe_of (pe_op op_addA pe_sem pe_sem) (run_bin ok_add (pwo_var 4 (pv 4)) (pwo_val (by exact pwe_int)))))))) (pwa_nil))))) (pwo_var 1 (pv 1))))))) (pwss_one (pws_set (ps_set (i := 4) sck26_groups.nd rfl (Or.inl rfl) pe_sem) (PWE.sem (pwe_of (pe_op op_addA pe_sem pe_sem) (run_bin ok_add (pwo_var 4 (pv 4)) (pwo_val (by exact pwe_int))))))))
    (pwss_cons (pws_set (ps_set (i := 3) sck26_groups.nd rfl (Or.inl rfl) pe_sem) (PWE.sem (pwe_of (pe_slice sl_all pe_sem (po_some pe_sem) po_none) (run_sl (pwo_var 3 (pv 3)) (runo_some (pwe_var 4 (pv 4))) runo_none))))
    (pwss_one (pws_set (ps_set (i := 2) sck26_groups.nd rfl (Or.inl rfl) pe_sem) (PWE.sem (pwe_of (pe_op op_addA pe_sem pe_sem) (run_bin ok_add (pwo_var 2 (pv 2)) (pwo_val (by exact pwe_int)))))))))))
    (pwss_one (pws_ret (pwe_mv 2 (pv 2))))))
theorem def_k26_line_looks {f : Addr} {fd : FuncData} (T : Blt mg) (F : Fun K "_law_k26_line_looks" "_law_k26_line_looks" sk26_line_looks f fd) (g : mg "_law_k26_line_looks" = some (.ref f))
    (rd : Reads S_k26_line_looks (fun EX => v_k26_line_looks) 3) (len : ∀ ρs R RX, S_k26_line_looks ρs R RX → ρs.length = 1) : Def P w K mg base 1 "_law_k26_line_looks" ["lengths"] S_k26_line_looks := by
  refine ⟨f, fd, fn_w (t := fun EX => v_k26_line_looks) F sck26_line_looks (by decide) len (fun Φ cdv A outer s H E hr tk => ?_) rd, g, F.kp, F.binds fun _ _ _ _ _ _ us hl => match us, hl with | [_], _ => rfl⟩
  show PWSs _ Φ _ (v_k26_line_looks)
  have hu : (A.deeper (envOfC "_law_k26_line_looks" (defScope sk26_line_looks) s.heap.objs.size f cdv)).units + 1 < cLine := hu_of hr
  have hu64 : (A.deeper (envOfC "_law_k26_line_looks" (defScope sk26_line_looks) s.heap.objs.size f cdv)).units + 64 < cLine := hr.units
  have hu65 : (A.deeper (envOfC "_law_k26_line_looks" (defScope sk26_line_looks) s.heap.objs.size f cdv)).units + 65 < cLine := by have := hr.un; omega
  unfold v_k26_line_looks
  exact pwss_cons (pws_set (ps_set (i := 1) sck26_line_looks.nd rfl (Or.inl rfl) pe_sem) (PWE.sem (pwe_lst (pwa_nil))))
    (pwss_cons (pws_for (ps_for (passes_of rfl) rfl pi_sem pg_sem pss_sem) (pwi_range1 (pi_range1 (by rfl) T.b_range pa_sem) (pwa_cons (pwo_val (by exact pwe_of (pe_callB call_lenA (by rfl) T.b_len (by decide +kernel) pa_sem) (run_prim ok_len (pwa_cons (pwo_var 0 (pv 0)) (pwa_nil))))) (pwa_nil))) (pwg_of (pg_name (i := 2) sck26_line_looks.nd rfl (Or.inr rfl)) (rung_name 2)) (pwss_one (pws_set (ps_set (i := 1) sck26_line_looks.nd rfl (Or.inl rfl) pe_sem) (PWE.sem (pwe_of (pe_op op_addA pe_sem pe_sem) (run_bin ok_add (pwo_var 1 (pv 1)) (pwo_val (by exact pwe_of (pe_lc0 rfl sck26_line_looks.nd (blkOk_by (own := [("place", 3)]) (N := Nk26_line_looks) (sc := defScope sk26_line_looks) (by decide +kernel))) (run_lc0 (own := [("place", 3)]) (by exact pwi_range1 (pi_range1 (by rfl) T.b_range pa_sem) (pwa_cons (pwo_val (by exact pwe_of (pe_ix (ix_all hu) pe_sem pe_sem (fun _ _ => rfl)) (run_bin ok_ix (pwo_var 0 (pv 0)) (pwo_var 2 (pv 2))))) (pwa_nil))) (fun _ _ _ _ _ => by exact pwg_of (pg_name (i := 3) sck26_line_looks.nd rfl (by first | exact Or.inl rfl | exact Or.inr rfl)) (rung_name 3)) (fun _ _ _ _ _ => by exact pwe_tup (pwa_cons (pwo_val (by exact pwe_var 2 (pv 2))) (pwa_cons (pwo_val (by exact pwe_var 3 (pv 3))) (pwa_nil)))))))))))))
    (pwss_one (pws_ret (pwe_mv 1 (pv 1)))))
theorem def_k26_line_sure {f : Addr} {fd : FuncData} (T : Blt mg) (F : Fun K "_law_k26_line_sure" "_law_k26_line_sure" sk26_line_sure f fd) (g : mg "_law_k26_line_sure" = some (.ref f))
    (rd : Reads S_k26_line_sure (fun EX => v_k26_line_sure) 3) (len : ∀ ρs R RX, S_k26_line_sure ρs R RX → ρs.length = 2) : Def P w K mg base 1 "_law_k26_line_sure" ["lengths", "known"] S_k26_line_sure := by
  refine ⟨f, fd, fn_w (t := fun EX => v_k26_line_sure) F sck26_line_sure (by decide) len (fun Φ cdv A outer s H E hr tk => ?_) rd, g, F.kp, F.binds fun _ _ _ _ _ _ us hl => match us, hl with | [_, _], _ => rfl⟩
  show PWSs _ Φ _ (v_k26_line_sure)
  have hu : (A.deeper (envOfC "_law_k26_line_sure" (defScope sk26_line_sure) s.heap.objs.size f cdv)).units + 1 < cLine := hu_of hr
  have hu64 : (A.deeper (envOfC "_law_k26_line_sure" (defScope sk26_line_sure) s.heap.objs.size f cdv)).units + 64 < cLine := hr.units
  have hu65 : (A.deeper (envOfC "_law_k26_line_sure" (defScope sk26_line_sure) s.heap.objs.size f cdv)).units + 65 < cLine := by have := hr.un; omega
  unfold v_k26_line_sure
  exact pwss_cons (pws_set (ps_set (i := 2) sck26_line_sure.nd rfl (Or.inl rfl) pe_sem) (PWE.sem (pwe_lst (pwa_nil))))
    (pwss_cons (pws_for (ps_for (passes_of rfl) rfl pi_sem pg_sem pss_sem) (pwi_range1 (pi_range1 (by rfl) T.b_range pa_sem) (pwa_cons (pwo_val (by exact pwe_of (pe_callB call_lenA (by rfl) T.b_len (by decide +kernel) pa_sem) (run_prim ok_len (pwa_cons (pwo_var 0 (pv 0)) (pwa_nil))))) (pwa_nil))) (pwg_of (pg_name (i := 3) sck26_line_sure.nd rfl (Or.inl rfl)) (rung_name 3)) (pwss_one (pws_for (ps_for (passes_of rfl) rfl pi_sem pg_sem pss_sem) (pwi_range1 (pi_range1 (by rfl) T.b_range pa_sem) (pwa_cons (pwo_val (by exact pwe_of (pe_ix (ix_all hu) pe_sem pe_sem (fun _ _ => rfl)) (run_bin ok_ix (pwo_var 0 (pv 0)) (pwo_var 3 (pv 3))))) (pwa_nil))) (pwg_of (pg_name (i := 4) sck26_line_sure.nd rfl (Or.inl rfl)) (rung_name 4)) (pwss_cons (pws_expr (ps_expr pe_sem) (PWE.sem (pwe_of (pe_bm PySem.F.plainAttrs_list PySem.F.slot_list_append PySem.F.type_list_append mt_append (pv 2) (pa_cons pe_sem pa_nil)) (run_app 2 (pwe_tup (pwa_cons (pwo_val (by exact pwe_var 3 (pv 3))) (pwa_cons (pwo_val (by exact pwe_var 4 (pv 4))) (pwa_nil))))))))
    (pwss_one (pws_if (pwt_of (pt_cmpR (op_notinEA hu65) pe_sem pe_sem (by rfl)) (run_bin ok_inE (pwo_val (by exact pwe_tup (pwa_cons (pwo_val (by exact pwe_var 3 (pv 3))) (pwa_cons (pwo_val (by exact pwe_var 4 (pv 4))) (pwa_nil))))) (pwo_var 1 (pv 1)))) (pwss_one (pws_break)) (pwss_nil)))))))
    (pwss_one (pws_ret (pwe_mv 2 (pv 2)))))
theorem def_k26_group_sure {f : Addr} {fd : FuncData} (T : Blt mg) (F : Fun K "_law_k26_group_sure" "_law_k26_group_sure" sk26_group_sure f fd) (g : mg "_law_k26_group_sure" = some (.ref f))
    (rd : Reads S_k26_group_sure (fun EX => v_k26_group_sure) 5) (len : ∀ ρs R RX, S_k26_group_sure ρs R RX → ρs.length = 2) : Def P w K mg base 1 "_law_k26_group_sure" ["sizes", "known"] S_k26_group_sure := by
  refine ⟨f, fd, fn_w (t := fun EX => v_k26_group_sure) F sck26_group_sure (by decide) len (fun Φ cdv A outer s H E hr tk => ?_) rd, g, F.kp, F.binds fun _ _ _ _ _ _ us hl => match us, hl with | [_, _], _ => rfl⟩
  show PWSs _ Φ _ (v_k26_group_sure)
  have hu : (A.deeper (envOfC "_law_k26_group_sure" (defScope sk26_group_sure) s.heap.objs.size f cdv)).units + 1 < cLine := hu_of hr
  have hu64 : (A.deeper (envOfC "_law_k26_group_sure" (defScope sk26_group_sure) s.heap.objs.size f cdv)).units + 64 < cLine := hr.units
  have hu65 : (A.deeper (envOfC "_law_k26_group_sure" (defScope sk26_group_sure) s.heap.objs.size f cdv)).units + 65 < cLine := by have := hr.un; omega
  unfold v_k26_group_sure
  exact pwss_cons (pws_set (ps_set (i := 2) sck26_group_sure.nd rfl (Or.inl rfl) pe_sem) (PWE.sem (pwe_lst (pwa_nil))))
    (pwss_cons (pws_for (ps_for (passes_of rfl) rfl pi_sem pg_sem pss_sem) (pwi_range1 (pi_range1 (by rfl) T.b_range pa_sem) (pwa_cons (pwo_val (by exact pwe_of (pe_callB call_lenA (by rfl) T.b_len (by decide +kernel) pa_sem) (run_prim ok_len (pwa_cons (pwo_var 0 (pv 0)) (pwa_nil))))) (pwa_nil))) (pwg_of (pg_name (i := 3) sck26_group_sure.nd rfl (Or.inr rfl)) (rung_name 3)) (pwss_cons (pws_set (ps_setLc0 (i := 4) rfl sck26_group_sure.nd rfl rfl (sw_true rfl rfl rfl (by decide +kernel)) pi_sem (blkOk_by (own := [("place", 5)]) (N := Nk26_group_sure) (sc := defScope sk26_group_sure) (by decide +kernel))) (run_lc0 (own := [("place", 5)]) (by exact pwi_range1 (pi_range1 (by rfl) T.b_range pa_sem) (pwa_cons (pwo_val (by exact pwe_of (pe_ix (ix_all hu) pe_sem pe_sem (fun _ _ => rfl)) (run_bin ok_ix (pwo_var 0 (pv 0)) (pwo_var 3 (pv 3))))) (pwa_nil))) (fun _ _ _ _ _ => by exact pwg_of (pg_name (i := 5) sck26_group_sure.nd rfl (by first | exact Or.inl rfl | exact Or.inr rfl)) (rung_name 5)) (fun _ _ _ _ _ => by exact pwe_tup (pwa_cons (pwo_val (by exact pwe_var 3 (pv 3))) (pwa_cons (pwo_val (by exact pwe_var 5 (pv 5))) (pwa_nil))))))
    (pwss_cons (pws_set (ps_set (i := 2) sck26_group_sure.nd rfl (Or.inl rfl) pe_sem) (PWE.sem (pwe_of (pe_op op_addA pe_sem pe_sem) (run_bin ok_add (pwo_var 2 (pv 2)) (pwo_var 4 (pv 4))))))
    (pwss_one (pws_if (pwt_of (pt_cmpR (op_neA hu64) pe_sem pe_sem (nomark _)) (run_bin ok_ne (pwo_val (by exact pwe_of (pe_lc1 rfl sck26_group_sure.nd (blkOk_by (own := [("one", 6)]) (N := Nk26_group_sure) (sc := defScope sk26_group_sure) (by decide +kernel))) (run_lc1 (own := [("one", 6)]) (by exact pwi_list (pwe_var 4 (pv 4))) (fun _ _ _ _ _ => by exact pwg_of (pg_name (i := 6) sck26_group_sure.nd rfl (by first | exact Or.inl rfl | exact Or.inr rfl)) (rung_name 6)) (fun _ _ _ _ _ => by exact pwt_of (pt_cmpR (op_notinEA hu65) pe_sem pe_sem (by rfl)) (run_bin ok_inE (pwo_var 6 (pv 6)) (pwo_var 1 (pv 1)))) (fun _ _ _ _ _ => by exact pwe_var 6 (pv 6))))) (pwo_val (by exact pwe_lst (pwa_nil))))) (pwss_one (pws_break)) (pwss_nil))))))
    (pwss_one (pws_ret (pwe_mv 2 (pv 2)))))
theorem def_k26_small {f : Addr} {fd : FuncData} (T : Blt mg) (D_k26_group_sure : Def P w K mg base 1 "_law_k26_group_sure" ["sizes", "known"] S_k26_group_sure) (D_k26_line_looks : Def P w K mg base 1 "_law_k26_line_looks" ["lengths"] S_k26_line_looks) (D_k26_line_sure : Def P w K mg base 1 "_law_k26_line_sure" ["lengths", "known"] S_k26_line_sure) (D_pick : Def P w K mg base 1 "_law_pick" ["source", "many"] S_pick) (D_group_turns : Def P w K mg base 5 "group_turns" ["sizes", "w"] S_group_turns) (D_line_turns : Def P w K mg base 5 "line_turns" ["lengths", "w"] S_line_turns) {g_e_turns : Addr} (TL_e_turns : ∀ (X : Cx) (n : Nat) (SSl : VSp), X.prog = P → X.w = w → X.K = K → X.mg = mg → X.base = base → TakesLam X "_law_e_turns" se_turns g_e_turns Ne_turns ["looks", "certain", "w"] 7 7 n SSl (SG_e_turns SSl)) {c Pt : Addr} (TB : LamX.TabB base mg c Pt) (tm : (Pt, (("_law_k26_small" : Str) ++ ".<locals>." ++ "<lambda>")) ∈ TBs.tb) (tu : ∀ p ∈ TBs.tb, p.1 = Pt → p.2 = (("_law_k26_small" : Str) ++ ".<locals>." ++ "<lambda>")) (F : FunL K "_law_k26_small" "_law_k26_small" sk26_small f fd c) (g : mg "_law_k26_small" = some (.ref f))
    (rd : Reads S_k26_small (fun EX => v_k26_small EX) 7) (len : ∀ ρs R RX, S_k26_small ρs R RX → ρs.length = 1) : Def P w K mg base 9 "_law_k26_small" ["source"] S_k26_small := by
  refine ⟨f, fd, fn_wL (t := fun EX => v_k26_small EX) F sck26_small len (fun Φ A outer s H E hr tk => ?_) rd, g, F.kp, F.fn.binds fun _ _ _ _ _ _ us hl => match us, hl with | [_], _ => rfl⟩
  show PWSs _ Φ _ (v_k26_small Φ.EX)
  have hu : (A.deeper (envOfC "_law_k26_small" (defScope sk26_small) s.heap.objs.size f (.ref c))).units + 1 < cLine := hu_of hr
  have hu64 : (A.deeper (envOfC "_law_k26_small" (defScope sk26_small) s.heap.objs.size f (.ref c))).units + 64 < cLine := hr.units
  have hu65 : (A.deeper (envOfC "_law_k26_small" (defScope sk26_small) s.heap.objs.size f (.ref c))).units + 65 < cLine := by have := hr.un; omega
  unfold v_k26_small
  exact pwss_cons (pws_set (ps_set (i := 1) sck26_small.nd rfl (Or.inr rfl) pe_sem) (PWE.sem (pwe_sh (pwe_of (pe_lc0 rfl sck26_small.nd (blkOk_by (own := [("at", 7)]) (N := Nk26_small) (sc := defScope sk26_small) (by decide +kernel))) (run_lc0 (own := [("at", 7)]) (by exact pwi_range1 (pi_range1 (by rfl) T.b_range pa_sem) (pwa_cons (pwo_val (by exact pwe_of (pe_op op_addA pe_sem pe_sem) (run_bin ok_add (pwo_val (by exact pwe_int)) (pwo_val (by exact pwe_callD D_pick (hr.mono (by decide)) (by rfl) (pwa_cons (pwo_var 0 (pv 0)) (pwa_cons (pwo_val (pwe_int)) (pwa_nil)))))))) (pwa_nil))) (fun _ _ _ _ _ => by exact pwg_of (pg_name (i := 7) sck26_small.nd rfl (by first | exact Or.inl rfl | exact Or.inr rfl)) (rung_name 7)) (fun _ _ _ _ _ => by exact pwe_of (pe_op op_addA pe_sem pe_sem) (run_bin ok_add (pwo_val (by exact pwe_int)) (pwo_val (by exact pwe_callD D_pick (hr.mono (by decide)) (by rfl) (pwa_cons (pwo_var 0 (pv 0)) (pwa_cons (pwo_val (pwe_int)) (pwa_nil))))))))))))
    (pwss_cons (pws_while (ps_while (passes_of rfl) pt_sem pss_sem) (pwt_of (pt_cmpR op_gtA pe_sem pe_sem (nomark _)) (run_bin ok_gt (pwo_val (by exact pwe_of (pe_callB (cr_sum rfl) (by rfl) T.b_sum (by decide +kernel) pa_sem) (run_prim ok_sum (pwa_cons (pwo_var 1 (pv 1)) (pwa_nil))))) (pwo_val (by exact pwe_int)))) (pwss_one (pws_set (ps_set (i := 1) sck26_small.nd rfl (Or.inr rfl) pe_sem) (PWE.sem (pwe_sh (pwe_of (pe_slice sl_all pe_sem (po_some pe_sem) po_none) (run_sl (pwo_var 1 (pv 1)) (runo_some (pwe_int)) runo_none)))))))
    (pwss_cons (pws_set (ps_set (i := 2) sck26_small.nd rfl (Or.inl rfl) pe_sem) (PWE.sem (pwe_callD D_pick (hr.mono (by decide)) (by rfl) (pwa_cons (pwo_var 0 (pv 0)) (pwa_cons (pwo_val (pwe_int)) (pwa_nil))))))
    (pwss_cons (pws_set (ps_set (i := 3) sck26_small.nd rfl (Or.inl rfl) pe_sem) (PWE.sem (pwe_sh (pwe_callD D_k26_line_looks (hr.mono (by decide)) (by rfl) (pwa_cons (pwo_val (pwe_var 1 (pv 1))) (pwa_nil))))))
    (pwss_cons (pws_set (ps_set (i := 4) sck26_small.nd rfl (Or.inl rfl) pe_sem) (PWE.sem (pwe_lam3 (k := 6) (caps := ["lengths"]) (ps := ["known"]) (js := [1]) (i := 3) (j := 2) (TL_e_turns _ _ _ rfl rfl rfl rfl rfl) (hr.mono (by decide)) (by rfl) ⟨TB, rfl, tm, tu, ⟨rfl, rfl, rfl, by decide +kernel, by decide +kernel, by decide +kernel, (by show ∀ y ∈ (_ : List (Str × NameKind)), y.2 = NameKind.free → (defScope sk26_small).names.lookup y.1 = some .cell ∨ (defScope sk26_small).names.lookup y.1 = some .free; decide +kernel), by decide +kernel⟩, rfl, fun _ _ _ _ us hl => match us, hl with | [_], _ => rfl, rfl, fun _ _ _ h => h.1, ⟨_, fun f' c' A' outer' s1 HZ E' Φ hr tk => by
      have hu := hu_of hr
      have hu64 := hr.units
      show PWE _ Φ _ (w_k26_small_1 Φ.EX)
      unfold w_k26_small_1
      exact pwe_callD D_k26_line_sure (hr.mono (by decide)) (by rfl) (pwa_cons (pwo_val (pwe_var 0 (pv 0))) (pwa_cons (pwo_val (pwe_var 1 (pv 1))) (pwa_nil))), fun _ _ _ h => h.2⟩⟩ (by rfl) (by first | exact Or.inl rfl | exact Or.inr (Or.inl rfl)) (by rfl) (by first | exact Or.inl rfl | exact Or.inr (Or.inl rfl)))))
    (pwss_cons (pws_set (ps_set (i := 5) sck26_small.nd rfl (Or.inl rfl) pe_sem) (PWE.sem (pwe_lam3 (k := 6) (caps := ["lengths"]) (ps := ["known"]) (js := [1]) (i := 3) (j := 2) (TL_e_turns _ _ _ rfl rfl rfl rfl rfl) (hr.mono (by decide)) (by rfl) ⟨TB, rfl, tm, tu, ⟨rfl, rfl, rfl, by decide +kernel, by decide +kernel, by decide +kernel, (by show ∀ y ∈ (_ : List (Str × NameKind)), y.2 = NameKind.free → (defScope sk26_small).names.lookup y.1 = some .cell ∨ (defScope sk26_small).names.lookup y.1 = some .free; decide +kernel), by decide +kernel⟩, rfl, fun _ _ _ _ us hl => match us, hl with | [_], _ => rfl, rfl, fun _ _ _ h => h.1, ⟨_, fun f' c' A' outer' s1 HZ E' Φ hr tk => by
      have hu := hu_of hr
      have hu64 := hr.units
      show PWE _ Φ _ (w_k26_small_2 Φ.EX)
      unfold w_k26_small_2
      exact pwe_callD D_k26_group_sure (hr.mono (by decide)) (by rfl) (pwa_cons (pwo_val (pwe_var 0 (pv 0))) (pwa_cons (pwo_val (pwe_var 1 (pv 1))) (pwa_nil))), fun _ _ _ h => h.2⟩⟩ (by rfl) (by first | exact Or.inl rfl | exact Or.inr (Or.inl rfl)) (by rfl) (by first | exact Or.inl rfl | exact Or.inr (Or.inl rfl)))))
    (pwss_cons (pws_set (ps_set (i := 6) sck26_small.nd rfl (Or.inl rfl) pe_sem) (PWE.sem (pwe_of (pe_callTy (call_listA rfl) (by rfl) T.b_list (by decide +kernel) pa_sem) (run_prim ok_list (pwa_cons (pwo_var 1 (pv 1)) (pwa_nil))))))
    (pwss_one (pws_ret (pwe_and (pwe_of (pe_cmpR (op_eqA hu64) pe_sem pe_sem (nomark _)) (run_bin ok_eq (pwo_val (by exact pwe_callX tk D_line_turns (hr.mono (by decide)) (by rfl) (pwa_cons (pwo_val (pwe_var 1 (pv 1))) (pwa_cons (pwo_val (pwe_var 2 (pv 2))) (pwa_nil))))) (pwo_var 4 (pv 4)))) (pwe_and (pwe_of (pe_cmpR (op_eqA hu64) pe_sem pe_sem (nomark _)) (run_bin ok_eq (pwo_val (by exact pwe_callX tk D_group_turns (hr.mono (by decide)) (by rfl) (pwa_cons (pwo_val (pwe_var 1 (pv 1))) (pwa_cons (pwo_val (pwe_var 2 (pv 2))) (pwa_nil))))) (pwo_var 5 (pv 5)))) (pwe_one (pwe_of (pe_cmpR (op_eqA hu64) pe_sem pe_sem (nomark _)) (run_bin ok_eq (pwo_var 1 (pv 1)) (pwo_var 6 (pv 6)))))))))))))))
theorem def_k26_large {f : Addr} {fd : FuncData} (T : Blt mg) (D_choice : Def P w K mg base 2 "_law_choice" ["source", "things"] S_choice) (D_k26_groups : Def P w K mg base 1 "_law_k26_groups" ["sizes", "w"] S_k26_groups) (D_k26_laid : Def P w K mg base 1 "_law_k26_laid" ["lengths", "k"] S_k26_laid) (D_k26_least : Def P w K mg base 1 "_law_k26_least" ["lengths", "w", "turns"] S_k26_least) (D_pick : Def P w K mg base 1 "_law_pick" ["source", "many"] S_pick) (D_same : Def P w K mg base 4 "_law_same" ["answer", "due"] S_same) (D_group_turns : Def P w K mg base 5 "group_turns" ["sizes", "w"] S_group_turns) (D_hands_time : Def P w K mg base 5 "hands_time" ["lengths", "k"] S_hands_time) (D_line_turns : Def P w K mg base 5 "line_turns" ["lengths", "w"] S_line_turns) (F : Fun K "_law_k26_large" "_law_k26_large" sk26_large f fd) (g : mg "_law_k26_large" = some (.ref f))
    (rd : Reads S_k26_large (fun EX => v_k26_large EX) 5) (len : ∀ ρs R RX, S_k26_large ρs R RX → ρs.length = 1) : Def P w K mg base 6 "_law_k26_large" ["source"] S_k26_large := by
  refine ⟨f, fd, fn_w (t := fun EX => v_k26_large EX) F sck26_large (by decide) len (fun Φ cdv A outer s H E hr tk => ?_) rd, g, F.kp, F.binds fun _ _ _ _ _ _ us hl => match us, hl with | [_], _ => rfl⟩
  show PWSs _ Φ _ (v_k26_large Φ.EX)
  have hu : (A.deeper (envOfC "_law_k26_large" (defScope sk26_large) s.heap.objs.size f cdv)).units + 1 < cLine := hu_of hr
  have hu64 : (A.deeper (envOfC "_law_k26_large" (defScope sk26_large) s.heap.objs.size f cdv)).units + 64 < cLine := hr.units
  have hu65 : (A.deeper (envOfC "_law_k26_large" (defScope sk26_large) s.heap.objs.size f cdv)).units + 65 < cLine := by have := hr.un; omega
  unfold v_k26_large
  exact pwss_cons (pws_set (ps_set (i := 1) sck26_large.nd rfl (Or.inr rfl) pe_sem) (PWE.sem (pwe_callD D_choice (hr.mono (by decide)) (by rfl) (pwa_cons (pwo_var 0 (pv 0)) (pwa_cons (pwo_val (pwe_sh (by exact pwe_lst (pwa_cons (pwo_val (by exact pwe_int)) (pwa_cons (pwo_val (by exact pwe_int)) (pwa_cons (pwo_val (by exact pwe_int)) (pwa_cons (pwo_val (by exact pwe_int)) (pwa_nil)))))))) (pwa_nil))))))
    (pwss_cons (pws_set (ps_setLc0 (i := 2) rfl sck26_large.nd rfl rfl (sw_true rfl rfl rfl (by decide +kernel)) pi_sem (blkOk_by (own := [("at", 5)]) (N := Nk26_large) (sc := defScope sk26_large) (by decide +kernel))) (run_lc0 (own := [("at", 5)]) (by exact pwi_range1 (pi_range1 (by rfl) T.b_range pa_sem) (pwa_cons (pwo_val (by exact pwe_callD D_pick (hr.mono (by decide)) (by rfl) (pwa_cons (pwo_var 0 (pv 0)) (pwa_cons (pwo_val (pwe_int)) (pwa_nil))))) (pwa_nil))) (fun _ _ _ _ _ => by exact pwg_of (pg_name (i := 5) sck26_large.nd rfl (by first | exact Or.inl rfl | exact Or.inr rfl)) (rung_name 5)) (fun _ _ _ _ _ => by exact pwe_of (pe_op op_addA pe_sem pe_sem) (run_bin ok_add (pwo_val (by exact pwe_int)) (pwo_val (by exact pwe_callD D_pick (hr.mono (by decide)) (by rfl) (pwa_cons (pwo_var 0 (pv 0)) (pwa_cons (pwo_val (pwe_var 1 (pv 1))) (pwa_nil)))))))))
    (pwss_cons (pws_if (pwt_of (pt_cmpR (op_eqA hu64) pe_sem pe_sem (nomark _)) (run_bin ok_eq (pwo_val (by exact pwe_callD D_pick (hr.mono (by decide)) (by rfl) (pwa_cons (pwo_var 0 (pv 0)) (pwa_cons (pwo_val (pwe_int)) (pwa_nil))))) (pwo_val (by exact pwe_int)))) (pwss_one (pws_set (ps_set (i := 2) sck26_large.nd rfl (Or.inl rfl) pe_sem) (PWE.sem (pwe_of (pe_op op_addA pe_sem pe_sem) (run_bin ok_add (pwo_var 2 (pv 2)) (pwo_val (by exact pwe_lst (pwa_cons (pwo_val (by exact pwe_int)) (pwa_nil))))))))) (pwss_nil))
    (pwss_cons (pws_set (ps_set (i := 3) sck26_large.nd rfl (Or.inl rfl) pe_sem) (PWE.sem (pwe_callD D_choice (hr.mono (by decide)) (by rfl) (pwa_cons (pwo_var 0 (pv 0)) (pwa_cons (pwo_val (pwe_sh (by exact pwe_lst (pwa_cons (pwo_val (by exact pwe_int)) (pwa_cons (pwo_val (by exact pwe_int)) (pwa_cons (pwo_val (by exact pwe_int)) (pwa_cons (pwo_val (by exact pwe_int)) (pwa_cons (pwo_val (by exact pwe_var 1 (pv 1))) (pwa_cons (pwo_val (by exact pwe_of (pe_op op_mulA pe_sem pe_sem) (run_bin ok_mul (pwo_val (by exact pwe_int)) (pwo_var 1 (pv 1))))) (pwa_nil)))))))))) (pwa_nil))))))
    (pwss_cons (pws_set (ps_set (i := 4) sck26_large.nd rfl (Or.inl rfl) pe_sem) (PWE.sem (pwe_callD D_pick (hr.mono (by decide)) (by rfl) (pwa_cons (pwo_var 0 (pv 0)) (pwa_cons (pwo_val (pwe_int)) (pwa_nil))))))
    (pwss_cons (pws_if (PWW.pt (pww_or (pwt_not (pwt_truth (pwo_val (by exact pwe_callD D_same (hr.mono (by decide)) (by rfl) (pwa_cons (pwo_val (pwe_sh (by exact pwe_callX tk D_hands_time (hr.mono (by decide)) (by rfl) (pwa_cons (pwo_val (pwe_sh (by exact pwe_of (pe_callTy (call_listA rfl) (by rfl) T.b_list (by decide +kernel) pa_sem) (run_prim ok_list (pwa_cons (pwo_var 2 (pv 2)) (pwa_nil)))))) (pwa_cons (pwo_val (pwe_var 4 (pv 4))) (pwa_nil)))))) (pwa_cons (pwo_val (pwe_sh (by exact pwe_callD D_k26_laid (hr.mono (by decide)) (by rfl) (pwa_cons (pwo_val (pwe_var 2 (pv 2))) (pwa_cons (pwo_val (pwe_var 4 (pv 4))) (pwa_nil)))))) (pwa_nil))))))) (pww_or1 (pwt_not (pwt_truth (pwo_val (by exact pwe_callD D_same (hr.mono (by decide)) (by rfl) (pwa_cons (pwo_val (pwe_sh (by exact pwe_callX tk D_group_turns (hr.mono (by decide)) (by rfl) (pwa_cons (pwo_val (pwe_sh (by exact pwe_of (pe_callTy (call_listA rfl) (by rfl) T.b_list (by decide +kernel) pa_sem) (run_prim ok_list (pwa_cons (pwo_var 2 (pv 2)) (pwa_nil)))))) (pwa_cons (pwo_val (pwe_var 3 (pv 3))) (pwa_nil)))))) (pwa_cons (pwo_val (pwe_sh (by exact pwe_callD D_k26_groups (hr.mono (by decide)) (by rfl) (pwa_cons (pwo_val (pwe_var 2 (pv 2))) (pwa_cons (pwo_val (pwe_var 3 (pv 3))) (pwa_nil)))))) (pwa_nil)))))))))) (pwss_one (pws_ret (pwe_bl))) (pwss_nil))
    (pwss_one (pws_ret (pwe_callD D_k26_least (hr.mono (by decide)) (by rfl) (pwa_cons (pwo_val (pwe_var 2 (pv 2))) (pwa_cons (pwo_val (pwe_var 3 (pv 3))) (pwa_cons (pwo_val (pwe_sh (by exact pwe_callX tk D_line_turns (hr.mono (by decide)) (by rfl) (pwa_cons (pwo_val (pwe_sh (by exact pwe_of (pe_callTy (call_listA rfl) (by rfl) T.b_list (by decide +kernel) pa_sem) (run_prim ok_list (pwa_cons (pwo_var 2 (pv 2)) (pwa_nil)))))) (pwa_cons (pwo_val (pwe_var 3 (pv 3))) (pwa_nil)))))) (pwa_nil))))))))))))
theorem def_k26_bounds {f : Addr} {fd : FuncData} (T : Blt mg) (D_pick : Def P w K mg base 1 "_law_pick" ["source", "many"] S_pick) (D_same : Def P w K mg base 4 "_law_same" ["answer", "due"] S_same) (D_group_turns : Def P w K mg base 5 "group_turns" ["sizes", "w"] S_group_turns) (D_hands_time : Def P w K mg base 5 "hands_time" ["lengths", "k"] S_hands_time) (D_line_turns : Def P w K mg base 5 "line_turns" ["lengths", "w"] S_line_turns) {g_k26_told : Addr} (TL_k26_told : ∀ (X : Cx) (n : Nat) (SSl : VSp), X.prog = P → X.w = w → X.K = K → X.mg = mg → X.base = base → TakesLam X "_law_k26_told" sk26_told g_k26_told Nk26_told ["make"] 7 7 n SSl (SG_k26_told SSl)) {c Pt : Addr} (TB : LamX.TabB base mg c Pt) (tm : (Pt, (("_law_k26_bounds" : Str) ++ ".<locals>." ++ "<lambda>")) ∈ TBs.tb) (tu : ∀ p ∈ TBs.tb, p.1 = Pt → p.2 = (("_law_k26_bounds" : Str) ++ ".<locals>." ++ "<lambda>")) (F : FunL K "_law_k26_bounds" "_law_k26_bounds" sk26_bounds f fd c) (g : mg "_law_k26_bounds" = some (.ref f))
    (rd : Reads S_k26_bounds (fun EX => v_k26_bounds) 10) (len : ∀ ρs R RX, S_k26_bounds ρs R RX → ρs.length = 1) : Def P w K mg base 9 "_law_k26_bounds" ["source"] S_k26_bounds := by
  refine ⟨f, fd, fn_wL (t := fun EX => v_k26_bounds) F sck26_bounds len (fun Φ A outer s H E hr tk => ?_) rd, g, F.kp, F.fn.binds fun _ _ _ _ _ _ us hl => match us, hl with | [_], _ => rfl⟩
  show PWSs _ Φ _ (v_k26_bounds)
  have hu : (A.deeper (envOfC "_law_k26_bounds" (defScope sk26_bounds) s.heap.objs.size f (.ref c))).units + 1 < cLine := hu_of hr
  have hu64 : (A.deeper (envOfC "_law_k26_bounds" (defScope sk26_bounds) s.heap.objs.size f (.ref c))).units + 64 < cLine := hr.units
  have hu65 : (A.deeper (envOfC "_law_k26_bounds" (defScope sk26_bounds) s.heap.objs.size f (.ref c))).units + 65 < cLine := by have := hr.un; omega
  unfold v_k26_bounds
  exact pwss_cons (pws_set (ps_set (i := 1) sck26_bounds.nd rfl (Or.inl rfl) pe_sem) (PWE.sem (pwe_of (pe_op op_addA pe_sem pe_sem) (run_bin ok_add (pwo_val (by exact pwe_int)) (pwo_val (by exact pwe_callD D_pick (hr.mono (by decide)) (by rfl) (pwa_cons (pwo_var 0 (pv 0)) (pwa_cons (pwo_val (pwe_int)) (pwa_nil)))))))))
    (pwss_cons (pws_set (ps_set (i := 2) sck26_bounds.nd rfl (Or.inr rfl) pe_sem) (PWE.sem (pwe_of (pe_op op_mulA pe_sem pe_sem) (run_bin ok_mul (pwo_val (by exact pwe_lst (pwa_cons (pwo_val (by exact pwe_int)) (pwa_nil)))) (pwo_var 1 (pv 1))))))
    (pwss_cons (pws_set (ps_set (i := 3) sck26_bounds.nd rfl (Or.inl rfl) pe_sem) (PWE.sem (pwe_callD D_pick (hr.mono (by decide)) (by rfl) (pwa_cons (pwo_var 0 (pv 0)) (pwa_cons (pwo_val (pwe_var 1 (pv 1))) (pwa_nil))))))
    (pwss_cons (pws_set (ps_set (i := 4) sck26_bounds.nd rfl (Or.inl rfl) pe_sem) (PWE.sem (pwe_of (pe_cmpR (op_eqA hu64) pe_sem pe_sem (nomark _)) (run_bin ok_eq (pwo_val (by exact pwe_callD D_pick (hr.mono (by decide)) (by rfl) (pwa_cons (pwo_var 0 (pv 0)) (pwa_cons (pwo_val (pwe_int)) (pwa_nil))))) (pwo_val (by exact pwe_int))))))
    (pwss_cons (pws_if (pwt_truth (pwo_var 4 (pv 4))) (pwss_one (pws_setL 2 (ps_asg pe_sem (pg_sub (pv 2) pe_sem set_list)) (pwe_var 3 (pv 3)) (pwe_int))) (pwss_nil))
    (pwss_cons (pws_set (ps_set (i := 5) sck26_bounds.nd rfl (Or.inr rfl) pe_sem) (PWE.sem (pwe_of (pe_op op_addA pe_sem pe_sem) (run_bin ok_add (pwo_val (by exact pwe_int)) (pwo_val (by exact pwe_callD D_pick (hr.mono (by decide)) (by rfl) (pwa_cons (pwo_var 0 (pv 0)) (pwa_cons (pwo_val (pwe_int)) (pwa_nil)))))))))
    (pwss_knows 2 (pwss_cons (pws_set (ps_set (i := 6) sck26_bounds.nd rfl (Or.inl rfl) pe_sem) (PWE.sem (pwe_tup (pwa_cons (pwo_val (by exact pwe_str)) (pwa_cons (pwo_val (by exact pwe_str)) (pwa_nil))))))
    (pwss_cons (pws_set (ps_set (i := 7) sck26_bounds.nd rfl (Or.inl rfl) pe_sem) (PWE.sem (pwe_or (pwe_var 4 (pv 4)) (pwe_one (pwe_of (pe_cmpR op_gtA pe_sem pe_sem (nomark _)) (run_bin ok_gt (pwo_var 1 (pv 1)) (pwo_val (by exact pwe_int))))))))
    (pwss_cons (pws_set (ps_set (i := 8) sck26_bounds.nd rfl (Or.inl rfl) pe_sem) (PWE.sem (pwe_if (pwt_truth (pwo_var 7 (pv 7))) (pwe_var 6 (pv 6)) (pwe_if (pwt_of (pt_cmpR op_gtA pe_sem pe_sem (nomark _)) (run_bin ok_gt (pwo_var 5 (pv 5)) (pwo_val (by exact pwe_int)))) (pwe_tup (pwa_cons (pwo_val (by exact pwe_str)) (pwa_cons (pwo_val (by exact pwe_str)) (pwa_nil)))) (pwe_if (pwt_of (pt_cmpR (op_eqA hu64) pe_sem pe_sem (nomark _)) (run_bin ok_eq (pwo_var 5 (pv 5)) (pwo_val (by exact pwe_int)))) (pwe_int) (pwe_int))))))
    (pwss_cons (pws_if (pwt_not (pwt_truth (pwo_val (by exact pwe_callD D_same (hr.mono (by decide)) (by rfl) (pwa_cons (pwo_val (pwe_sh (by exact pwe_lam1 (k := 6) (caps := ["lengths", "hands"]) (ps := []) (js := [2, 5]) (TL_k26_told _ _ _ rfl rfl rfl rfl rfl) (hr.mono (by decide)) (by rfl) ⟨TB, rfl, tm, tu, ⟨rfl, rfl, rfl, by decide +kernel, by decide +kernel, by decide +kernel, (by show ∀ y ∈ (_ : List (Str × NameKind)), y.2 = NameKind.free → (defScope sk26_bounds).names.lookup y.1 = some .cell ∨ (defScope sk26_bounds).names.lookup y.1 = some .free; decide +kernel), by decide +kernel⟩, rfl, fun _ _ _ _ us hl => match us, hl with | [], _ => rfl, rfl, fun _ _ _ h => h.1, ⟨_, fun f' c' A' outer' s1 HZ E' Φ hr tk => by
      have hu := hu_of hr
      have hu64 := hr.units
      show PWE _ Φ _ (w_k26_bounds_1 Φ.EX)
      unfold w_k26_bounds_1
      exact pwe_callX tk D_hands_time (hr.mono (by decide)) (by rfl) (pwa_cons (pwo_val (pwe_sh (by exact pwe_of (pe_callTy (call_listA rfl) (by rfl) T.b_list (by decide +kernel) pa_sem) (run_prim ok_list (pwa_cons (pwo_var 0 (pv 0)) (pwa_nil)))))) (pwa_cons (pwo_val (pwe_var 1 (pv 1))) (pwa_nil))), fun _ _ _ h => h.2⟩⟩))) (pwa_cons (pwo_val (pwe_var 8 (pv 8))) (pwa_nil))))))) (pwss_one (pws_ret (pwe_bl))) (pwss_nil))
    (pwss_cons (pws_set (ps_set (i := 9) sck26_bounds.nd rfl (Or.inl rfl) pe_sem) (PWE.sem (pwe_lam1 (k := 6) (caps := ["lengths"]) (ps := []) (js := [2]) (TL_k26_told _ _ _ rfl rfl rfl rfl rfl) (hr.mono (by decide)) (by rfl) ⟨TB, rfl, tm, tu, ⟨rfl, rfl, rfl, by decide +kernel, by decide +kernel, by decide +kernel, (by show ∀ y ∈ (_ : List (Str × NameKind)), y.2 = NameKind.free → (defScope sk26_bounds).names.lookup y.1 = some .cell ∨ (defScope sk26_bounds).names.lookup y.1 = some .free; decide +kernel), by decide +kernel⟩, rfl, fun _ _ _ _ us hl => match us, hl with | [], _ => rfl, rfl, fun _ _ _ h => h.1, ⟨_, fun f' c' A' outer' s1 HZ E' Φ hr tk => by
      have hu := hu_of hr
      have hu64 := hr.units
      show PWE _ Φ _ (w_k26_bounds_2 Φ.EX)
      unfold w_k26_bounds_2
      exact pwe_callX tk D_line_turns (hr.mono (by decide)) (by rfl) (pwa_cons (pwo_val (pwe_sh (by exact pwe_of (pe_callTy (call_listA rfl) (by rfl) T.b_list (by decide +kernel) pa_sem) (run_prim ok_list (pwa_cons (pwo_var 0 (pv 0)) (pwa_nil)))))) (pwa_cons (pwo_val (pwe_int)) (pwa_nil))), fun _ _ _ h => h.2⟩⟩)))
    (pwss_cons (pws_set (ps_set (i := 10) sck26_bounds.nd rfl (Or.inl rfl) pe_sem) (PWE.sem (pwe_lam1 (k := 6) (caps := ["lengths"]) (ps := []) (js := [2]) (TL_k26_told _ _ _ rfl rfl rfl rfl rfl) (hr.mono (by decide)) (by rfl) ⟨TB, rfl, tm, tu, ⟨rfl, rfl, rfl, by decide +kernel, by decide +kernel, by decide +kernel, (by show ∀ y ∈ (_ : List (Str × NameKind)), y.2 = NameKind.free → (defScope sk26_bounds).names.lookup y.1 = some .cell ∨ (defScope sk26_bounds).names.lookup y.1 = some .free; decide +kernel), by decide +kernel⟩, rfl, fun _ _ _ _ us hl => match us, hl with | [], _ => rfl, rfl, fun _ _ _ h => h.1, ⟨_, fun f' c' A' outer' s1 HZ E' Φ hr tk => by
      have hu := hu_of hr
      have hu64 := hr.units
      show PWE _ Φ _ (w_k26_bounds_3 Φ.EX)
      unfold w_k26_bounds_3
      exact pwe_callX tk D_group_turns (hr.mono (by decide)) (by rfl) (pwa_cons (pwo_val (pwe_sh (by exact pwe_of (pe_callTy (call_listA rfl) (by rfl) T.b_list (by decide +kernel) pa_sem) (run_prim ok_list (pwa_cons (pwo_var 0 (pv 0)) (pwa_nil)))))) (pwa_cons (pwo_val (pwe_int)) (pwa_nil))), fun _ _ _ h => h.2⟩⟩)))
    (pwss_one (pws_ret (pwe_and (pwe_callD D_same (hr.mono (by decide)) (by rfl) (pwa_cons (pwo_val (pwe_var 9 (pv 9))) (pwa_cons (pwo_val (pwe_sh (by exact pwe_if (pwt_truth (pwo_var 7 (pv 7))) (pwe_var 6 (pv 6)) (pwe_int)))) (pwa_nil)))) (pwe_one (pwe_callD D_same (hr.mono (by decide)) (by rfl) (pwa_cons (pwo_val (pwe_var 10 (pv 10))) (pwa_cons (pwo_val (pwe_sh (by exact pwe_if (pwt_truth (pwo_var 7 (pv 7))) (pwe_var 6 (pv 6)) (pwe_int)))) (pwa_nil))))))))))))))))))))
theorem fn_law {f : Addr} {fd : FuncData} (T : Blt mg) (D_k26_bounds : Def P w K mg base 9 "_law_k26_bounds" ["source"] S_k26_bounds) (D_k26_large : Def P w K mg base 6 "_law_k26_large" ["source"] S_k26_large) (D_k26_small : Def P w K mg base 9 "_law_k26_small" ["source"] S_k26_small) (D_source : Def P w K mg base 1 "_law_source" ["script", "at"] S_source) (D_group_turns : Def P w K mg base 5 "group_turns" ["sizes", "w"] S_group_turns) (D_hands_time : Def P w K mg base 5 "hands_time" ["lengths", "k"] S_hands_time) (F : Fun K "law" "law" slaw f fd) (g : mg "law" = some (.ref f))
    (rd : Reads S_law (fun EX => v_law EX) 1) (len : ∀ ρs R RX, S_law ρs R RX → ρs.length = 1) : FnOk P w K mg base (L2.CX P w) 10 f fd ["script"] (spV K S_law) := by
  refine fn_w (t := fun EX => v_law EX) F sclaw (by decide) len (fun Φ cdv A outer s H E hr tk => ?_) rd
  show PWSs _ Φ _ (v_law Φ.EX)
  have hu : (A.deeper (envOfC "law" (defScope slaw) s.heap.objs.size f cdv)).units + 1 < cLine := hu_of hr
  have hu64 : (A.deeper (envOfC "law" (defScope slaw) s.heap.objs.size f cdv)).units + 64 < cLine := hr.units
  have hu65 : (A.deeper (envOfC "law" (defScope slaw) s.heap.objs.size f cdv)).units + 65 < cLine := by have := hr.un; omega
  unfold v_law
  exact pwss_cons (pws_if (pwt_not (pwt_truth (pwo_val (by exact pwe_callD D_k26_small (hr.mono (by decide)) (by rfl) (pwa_cons (pwo_val (by exact pwe_callD D_source (hr.mono (by decide)) (by rfl) (pwa_cons (pwo_val (pwe_var 0 (pv 0))) (pwa_cons (pwo_val (pwe_int)) (pwa_nil))))) (pwa_nil)))))) (pwss_one (pws_ret (pwe_bl))) (pwss_nil))
    (pwss_cons (pws_for (ps_for (passes_of rfl) rfl pi_sem pg_sem pss_sem) (pwi_range1 (pi_range1 (by rfl) T.b_range pa_sem) (pwa_cons (pwo_val (by exact pwe_int)) (pwa_nil))) (pwg_of (pg_name (i := 1) sclaw.nd rfl (Or.inl rfl)) (rung_name 1)) (pwss_one (pws_if (pwt_not (pwt_truth (pwo_val (by exact pwe_callD D_k26_large (hr.mono (by decide)) (by rfl) (pwa_cons (pwo_val (by exact pwe_callD D_source (hr.mono (by decide)) (by rfl) (pwa_cons (pwo_val (pwe_var 0 (pv 0))) (pwa_cons (pwo_val (pwe_sh (by exact pwe_of (pe_op op_addA pe_sem pe_sem) (run_bin ok_add (pwo_val (by exact pwe_int)) (pwo_var 1 (pv 1)))))) (pwa_nil))))) (pwa_nil)))))) (pwss_one (pws_ret (pwe_bl))) (pwss_nil))))
    (pwss_one (pws_ret (pwe_and (pwe_callD D_k26_bounds (hr.mono (by decide)) (by rfl) (pwa_cons (pwo_val (by exact pwe_callD D_source (hr.mono (by decide)) (by rfl) (pwa_cons (pwo_val (pwe_var 0 (pv 0))) (pwa_cons (pwo_val (pwe_int)) (pwa_nil))))) (pwa_nil))) (pwe_and (pwe_of (pe_cmpR (op_eqA hu64) pe_sem pe_sem (nomark _)) (run_bin ok_eq (pwo_val (by exact pwe_callX tk D_hands_time (hr.mono (by decide)) (by rfl) (pwa_cons (pwo_val (pwe_sh (by exact pwe_lst (pwa_nil)))) (pwa_cons (pwo_val (pwe_int)) (pwa_nil))))) (pwo_val (by exact pwe_int)))) (pwe_one (pwe_of (pe_cmpR (op_eqA hu64) pe_sem pe_sem (nomark _)) (run_bin ok_eq (pwo_val (by exact pwe_callX tk D_group_turns (hr.mono (by decide)) (by rfl) (pwa_cons (pwo_val (pwe_sh (by exact pwe_lst (pwa_nil)))) (pwa_cons (pwo_val (pwe_int)) (pwa_nil))))) (pwo_val (by exact pwe_int))))))))))
end
end WL

set_option Elab.async false
set_option linter.all false
set_option maxRecDepth 100000
set_option maxHeartbeats 4000000
namespace WL
open PySem PySem.Spec PyProof.Rows L2
abbrev sTMi : Stmt := inClass (topS 2) 0
theorem scTMi : FnScope ["self", "what"] ["self", "what"] (defScope sTMi) := ⟨rfl, rfl, rfl, by decide +kernel, rfl, by decide +kernel, by decide +kernel⟩
theorem ini_TooMany [TBs] {P : Program} {w : World} {K : PySem.W.Frag} {mg : Str → Option Value} {base : Heap} {f : Addr} {fd : FuncData} (F : Fun K "__init__" "TooMany.__init__" sTMi f fd) : FnOk P w K mg base (L2.CX P w) 1 f fd ["self", "what"] (spI K ["what"]) := by
  refine F.okX scTMi (fun vs H Q E h => ?_) (fun cdv A outer s H vs Q E hr h => ⟨_, pss_one (ps_ost (pv 0) (pv 1)), ?_⟩)
  · obtain ⟨a, C, ys, rfl, hl, _⟩ := h
    simpa using hl
  · obtain ⟨a, y, rfl, h2⟩ := init1 (D := { nx := fun _ H' => Q .non H', rt := Q }) h fun _ _ q => q
    exact h2
/-- what is caught by its own name -/
theorem exm_self {K : PySem.W.Frag} {S : Addr} (h1 : PySem.W.subIn K (.ref S) (.type "BaseException") = some true) (h2 : PySem.W.isClsIn K S = true) (h3 : PySem.W.typeIn K (.ref S) = some (.type "type")) (h4 : PySem.W.subIn K (.ref S) (.ref S) = some true) :
    PySem.W.exmOne K (.ref S) (.ref S) = some true := by
  unfold PySem.W.exmOne
  have e2 : ((PySem.W.clsIn K S).isSome && PySem.W.typeIn K (.ref S) == some (.type "type")) = true := by
    rw [show (PySem.W.clsIn K S).isSome = true from h2, h3]; rfl
  rw [if_pos (by rw [h1]; rfl)]
  exact (if_pos e2).trans h4
def OexCls (K : PySem.W.Frag) (C : Addr) : Prop := ∃ nm q N bs bm sn sub ab col dd k0 k1 k2 k3 k5, K.lookup C = some (excClassObj nm q C N bs bm true sn sub ab col dd k0 k1 k2 k3 k5 "ValueError.__new__") ∧ PySem.HandSPX.refsVE bm = true
theorem oexCls {K : PySem.W.Frag} {C : Addr} {nm q N bs bm sn sub ab col dd k0 k1 k2 k3 k5} (h1 : K.lookup C = some (excClassObj nm q C N bs bm true sn sub ab col dd k0 k1 k2 k3 k5 "ValueError.__new__")) (h2 : PySem.HandSPX.refsVE bm = true) : OexCls K C := ⟨_, _, _, _, _, _, _, _, _, _, _, _, _, _, _, h1, h2⟩
/-! ### what the top has written; the head (printed by gen.py) -/
local macro_rules | `(tactic| walk_at "len") => `(tactic| (intro ρs R RX h; first | (rcases h with ⟨e, _⟩; subst e; rfl) | (rcases h with ⟨_, e, _⟩; subst e; rfl) | (rcases h with ⟨_, _, e, _⟩; subst e; rfl) | (rcases h with ⟨_, _, _, e, _⟩; subst e; rfl) | (rcases h with ⟨_, _, _, _, e, _⟩; subst e; rfl) | (rcases h with ⟨_, _, _, _, _, e, _⟩; subst e; rfl) | (rcases h with ⟨_, _, _, _, _, _, e, _⟩; subst e; rfl) | (rcases h with ⟨_, _, _, _, _, _, _, e, _⟩; subst e; rfl) | (rcases h with ⟨_, _, _, _, _, _, _, _, e, _⟩; subst e; rfl) | (rcases h with ⟨_, _, _, _, _, _, _, _, _, e, _⟩; subst e; rfl)))
theorem all_mk {l : PySem.W.OpenLaw} {w : World} {K : PySem.W.Frag} {h : Heap} {mg : Str → Option Value} {fa f1 f2 f3 f4 f5 f6 f7 f8 f9 f10 f11 f12 f13 f14 f15 f16 f17 f18 f19 f20 f21 : Addr} (X : K.In h) (G : h.Ns mainGlobals mg) (hfa : mg "law" = some (.ref fa)) {c'18 c'20 p'18 p'20 dL C fI : Addr}
    {od1 an1 : Option Addr} {sl1 : Array (Option Value)} {oc1 kV1 dc1 pm1 cd1 ct1 : Value}
    (a1 : PySem.W.nsIn K mainGlobals "bound" = some (some (.ref f1))) (l1 : K.lookup f1 = some ⟨oc1, od1, .func (PySem.W.fnOf "bound" "bound" (defArgs sbound) (defBody sbound) (defScope sbound) .none kV1 dc1 pm1 an1 cd1 ct1), sl1⟩) (c1 : PySem.W.codeIn K cd1 "bound" = true) (k1 : PySem.W.keepIn K (.ref f1) = true)
    {od2 an2 : Option Addr} {sl2 : Array (Option Value)} {oc2 kV2 dc2 pm2 cd2 ct2 : Value}
    (a2 : PySem.W.nsIn K mainGlobals "check_lengths" = some (some (.ref f2))) (l2 : K.lookup f2 = some ⟨oc2, od2, .func (PySem.W.fnOf "check_lengths" "check_lengths" (defArgs scheck_lengths) (defBody scheck_lengths) (defScope scheck_lengths) .none kV2 dc2 pm2 an2 cd2 ct2), sl2⟩) (c2 : PySem.W.codeIn K cd2 "check_lengths" = true) (k2 : PySem.W.keepIn K (.ref f2) = true)
    {od3 an3 : Option Addr} {sl3 : Array (Option Value)} {oc3 kV3 dc3 pm3 cd3 ct3 : Value}
    (a3 : PySem.W.nsIn K mainGlobals "line_turns" = some (some (.ref f3))) (l3 : K.lookup f3 = some ⟨oc3, od3, .func (PySem.W.fnOf "line_turns" "line_turns" (defArgs sline_turns) (defBody sline_turns) (defScope sline_turns) .none kV3 dc3 pm3 an3 cd3 ct3), sl3⟩) (c3 : PySem.W.codeIn K cd3 "line_turns" = true) (k3 : PySem.W.keepIn K (.ref f3) = true)
    {od4 an4 : Option Addr} {sl4 : Array (Option Value)} {oc4 kV4 dc4 pm4 cd4 ct4 : Value}
    (a4 : PySem.W.nsIn K mainGlobals "group_turns" = some (some (.ref f4))) (l4 : K.lookup f4 = some ⟨oc4, od4, .func (PySem.W.fnOf "group_turns" "group_turns" (defArgs sgroup_turns) (defBody sgroup_turns) (defScope sgroup_turns) .none kV4 dc4 pm4 an4 cd4 ct4), sl4⟩) (c4 : PySem.W.codeIn K cd4 "group_turns" = true) (k4 : PySem.W.keepIn K (.ref f4) = true)
    {od5 an5 : Option Addr} {sl5 : Array (Option Value)} {oc5 kV5 dc5 pm5 cd5 ct5 : Value}
    (a5 : PySem.W.nsIn K mainGlobals "hands_time" = some (some (.ref f5))) (l5 : K.lookup f5 = some ⟨oc5, od5, .func (PySem.W.fnOf "hands_time" "hands_time" (defArgs shands_time) (defBody shands_time) (defScope shands_time) .none kV5 dc5 pm5 an5 cd5 ct5), sl5⟩) (c5 : PySem.W.codeIn K cd5 "hands_time" = true) (k5 : PySem.W.keepIn K (.ref f5) = true)
    {od6 an6 : Option Addr} {sl6 : Array (Option Value)} {oc6 kV6 dc6 pm6 cd6 ct6 : Value}
    (a6 : PySem.W.nsIn K mainGlobals "_law_e_turns" = some (some (.ref f6))) (l6 : K.lookup f6 = some ⟨oc6, od6, .func (PySem.W.fnOf "_law_e_turns" "_law_e_turns" (defArgs se_turns) (defBody se_turns) (defScope se_turns) .none kV6 dc6 pm6 an6 cd6 ct6), sl6⟩) (c6 : PySem.W.codeIn K cd6 "_law_e_turns" = true) (k6 : PySem.W.keepIn K (.ref f6) = true)
    {od7 an7 : Option Addr} {sl7 : Array (Option Value)} {oc7 kV7 dc7 pm7 cd7 ct7 : Value}
    (a7 : PySem.W.nsIn K mainGlobals "_law_source" = some (some (.ref f7))) (l7 : K.lookup f7 = some ⟨oc7, od7, .func (PySem.W.fnOf "_law_source" "_law_source" (defArgs ssource) (defBody ssource) (defScope ssource) .none kV7 dc7 pm7 an7 cd7 ct7), sl7⟩) (c7 : PySem.W.codeIn K cd7 "_law_source" = true) (k7 : PySem.W.keepIn K (.ref f7) = true)
    {od8 an8 : Option Addr} {sl8 : Array (Option Value)} {oc8 kV8 dc8 pm8 cd8 ct8 : Value}
    (a8 : PySem.W.nsIn K mainGlobals "_law_pick" = some (some (.ref f8))) (l8 : K.lookup f8 = some ⟨oc8, od8, .func (PySem.W.fnOf "_law_pick" "_law_pick" (defArgs spick) (defBody spick) (defScope spick) .none kV8 dc8 pm8 an8 cd8 ct8), sl8⟩) (c8 : PySem.W.codeIn K cd8 "_law_pick" = true) (k8 : PySem.W.keepIn K (.ref f8) = true)
    {od9 an9 : Option Addr} {sl9 : Array (Option Value)} {oc9 kV9 dc9 pm9 cd9 ct9 : Value}
    (a9 : PySem.W.nsIn K mainGlobals "_law_choice" = some (some (.ref f9))) (l9 : K.lookup f9 = some ⟨oc9, od9, .func (PySem.W.fnOf "_law_choice" "_law_choice" (defArgs schoice) (defBody schoice) (defScope schoice) .none kV9 dc9 pm9 an9 cd9 ct9), sl9⟩) (c9 : PySem.W.codeIn K cd9 "_law_choice" = true) (k9 : PySem.W.keepIn K (.ref f9) = true)
    {od10 an10 : Option Addr} {sl10 : Array (Option Value)} {oc10 kV10 dc10 pm10 cd10 ct10 : Value}
    (a10 : PySem.W.nsIn K mainGlobals "_law_same" = some (some (.ref f10))) (l10 : K.lookup f10 = some ⟨oc10, od10, .func (PySem.W.fnOf "_law_same" "_law_same" (defArgs ssame) (defBody ssame) (defScope ssame) .none kV10 dc10 pm10 an10 cd10 ct10), sl10⟩) (c10 : PySem.W.codeIn K cd10 "_law_same" = true) (k10 : PySem.W.keepIn K (.ref f10) = true)
    {od11 an11 : Option Addr} {sl11 : Array (Option Value)} {oc11 kV11 dc11 pm11 cd11 ct11 : Value}
    (a11 : PySem.W.nsIn K mainGlobals "_law_k26_told" = some (some (.ref f11))) (l11 : K.lookup f11 = some ⟨oc11, od11, .func (PySem.W.fnOf "_law_k26_told" "_law_k26_told" (defArgs sk26_told) (defBody sk26_told) (defScope sk26_told) .none kV11 dc11 pm11 an11 cd11 ct11), sl11⟩) (c11 : PySem.W.codeIn K cd11 "_law_k26_told" = true) (k11 : PySem.W.keepIn K (.ref f11) = true)
    {od12 an12 : Option Addr} {sl12 : Array (Option Value)} {oc12 kV12 dc12 pm12 cd12 ct12 : Value}
    (a12 : PySem.W.nsIn K mainGlobals "_law_k26_laid" = some (some (.ref f12))) (l12 : K.lookup f12 = some ⟨oc12, od12, .func (PySem.W.fnOf "_law_k26_laid" "_law_k26_laid" (defArgs sk26_laid) (defBody sk26_laid) (defScope sk26_laid) .none kV12 dc12 pm12 an12 cd12 ct12), sl12⟩) (c12 : PySem.W.codeIn K cd12 "_law_k26_laid" = true) (k12 : PySem.W.keepIn K (.ref f12) = true)
    {od13 an13 : Option Addr} {sl13 : Array (Option Value)} {oc13 kV13 dc13 pm13 cd13 ct13 : Value}
    (a13 : PySem.W.nsIn K mainGlobals "_law_k26_least" = some (some (.ref f13))) (l13 : K.lookup f13 = some ⟨oc13, od13, .func (PySem.W.fnOf "_law_k26_least" "_law_k26_least" (defArgs sk26_least) (defBody sk26_least) (defScope sk26_least) .none kV13 dc13 pm13 an13 cd13 ct13), sl13⟩) (c13 : PySem.W.codeIn K cd13 "_law_k26_least" = true) (k13 : PySem.W.keepIn K (.ref f13) = true)
    {od14 an14 : Option Addr} {sl14 : Array (Option Value)} {oc14 kV14 dc14 pm14 cd14 ct14 : Value}
    (a14 : PySem.W.nsIn K mainGlobals "_law_k26_groups" = some (some (.ref f14))) (l14 : K.lookup f14 = some ⟨oc14, od14, .func (PySem.W.fnOf "_law_k26_groups" "_law_k26_groups" (defArgs sk26_groups) (defBody sk26_groups) (defScope sk26_groups) .none kV14 dc14 pm14 an14 cd14 ct14), sl14⟩) (c14 : PySem.W.codeIn K cd14 "_law_k26_groups" = true) (k14 : PySem.W.keepIn K (.ref f14) = true)
    {od15 an15 : Option Addr} {sl15 : Array (Option Value)} {oc15 kV15 dc15 pm15 cd15 ct15 : Value}
    (a15 : PySem.W.nsIn K mainGlobals "_law_k26_line_looks" = some (some (.ref f15))) (l15 : K.lookup f15 = some ⟨oc15, od15, .func (PySem.W.fnOf "_law_k26_line_looks" "_law_k26_line_looks" (defArgs sk26_line_looks) (defBody sk26_line_looks) (defScope sk26_line_looks) .none kV15 dc15 pm15 an15 cd15 ct15), sl15⟩) (c15 : PySem.W.codeIn K cd15 "_law_k26_line_looks" = true) (k15 : PySem.W.keepIn K (.ref f15) = true)
    {od16 an16 : Option Addr} {sl16 : Array (Option Value)} {oc16 kV16 dc16 pm16 cd16 ct16 : Value}
    (a16 : PySem.W.nsIn K mainGlobals "_law_k26_line_sure" = some (some (.ref f16))) (l16 : K.lookup f16 = some ⟨oc16, od16, .func (PySem.W.fnOf "_law_k26_line_sure" "_law_k26_line_sure" (defArgs sk26_line_sure) (defBody sk26_line_sure) (defScope sk26_line_sure) .none kV16 dc16 pm16 an16 cd16 ct16), sl16⟩) (c16 : PySem.W.codeIn K cd16 "_law_k26_line_sure" = true) (k16 : PySem.W.keepIn K (.ref f16) = true)
    {od17 an17 : Option Addr} {sl17 : Array (Option Value)} {oc17 kV17 dc17 pm17 cd17 ct17 : Value}
    (a17 : PySem.W.nsIn K mainGlobals "_law_k26_group_sure" = some (some (.ref f17))) (l17 : K.lookup f17 = some ⟨oc17, od17, .func (PySem.W.fnOf "_law_k26_group_sure" "_law_k26_group_sure" (defArgs sk26_group_sure) (defBody sk26_group_sure) (defScope sk26_group_sure) .none kV17 dc17 pm17 an17 cd17 ct17), sl17⟩) (c17 : PySem.W.codeIn K cd17 "_law_k26_group_sure" = true) (k17 : PySem.W.keepIn K (.ref f17) = true)
    {od18 an18 : Option Addr} {sl18 : Array (Option Value)} {oc18 kV18 dc18 pm18 ct18 : Value}
    (a18 : PySem.W.nsIn K mainGlobals "_law_k26_small" = some (some (.ref f18))) (l18 : K.lookup f18 = some ⟨oc18, od18, .func (PySem.W.fnOf "_law_k26_small" "_law_k26_small" (defArgs sk26_small) (defBody sk26_small) (defScope sk26_small) .none kV18 dc18 pm18 an18 (.ref c'18) ct18), sl18⟩) (c18 : PySem.W.codeIn K (.ref c'18) "_law_k26_small" = true) (k18 : PySem.W.keepIn K (.ref f18) = true)
    {od19 an19 : Option Addr} {sl19 : Array (Option Value)} {oc19 kV19 dc19 pm19 cd19 ct19 : Value}
    (a19 : PySem.W.nsIn K mainGlobals "_law_k26_large" = some (some (.ref f19))) (l19 : K.lookup f19 = some ⟨oc19, od19, .func (PySem.W.fnOf "_law_k26_large" "_law_k26_large" (defArgs sk26_large) (defBody sk26_large) (defScope sk26_large) .none kV19 dc19 pm19 an19 cd19 ct19), sl19⟩) (c19 : PySem.W.codeIn K cd19 "_law_k26_large" = true) (k19 : PySem.W.keepIn K (.ref f19) = true)
    {od20 an20 : Option Addr} {sl20 : Array (Option Value)} {oc20 kV20 dc20 pm20 ct20 : Value}
    (a20 : PySem.W.nsIn K mainGlobals "_law_k26_bounds" = some (some (.ref f20))) (l20 : K.lookup f20 = some ⟨oc20, od20, .func (PySem.W.fnOf "_law_k26_bounds" "_law_k26_bounds" (defArgs sk26_bounds) (defBody sk26_bounds) (defScope sk26_bounds) .none kV20 dc20 pm20 an20 (.ref c'20) ct20), sl20⟩) (c20 : PySem.W.codeIn K (.ref c'20) "_law_k26_bounds" = true) (k20 : PySem.W.keepIn K (.ref f20) = true)
    {od21 an21 : Option Addr} {sl21 : Array (Option Value)} {oc21 kV21 dc21 pm21 cd21 ct21 : Value}
    (a21 : PySem.W.nsIn K mainGlobals "law" = some (some (.ref f21))) (l21 : K.lookup f21 = some ⟨oc21, od21, .func (PySem.W.fnOf "law" "law" (defArgs slaw) (defBody slaw) (defScope slaw) .none kV21 dc21 pm21 an21 cd21 ct21), sl21⟩) (c21 : PySem.W.codeIn K cd21 "law" = true) (k21 : PySem.W.keepIn K (.ref f21) = true)
    {oc'18 oc'20 : Value} {od'18 od'20 : Option Addr} {vs'18 vs'20 : Array Value} {sl'18 sl'20 : Array (Option Value)}
    (g18 : K.lookup c'18 = some ⟨oc'18, od'18, .fields vs'18, sl'18⟩) (p18 : vs'18[11]? = some (.ref p'18)) (h18 : PySem.W.codeHdIn K c'18 p'18 = true) (n18 : K.lookup p'18 = none) (t18 : h.get? p'18 = some { cls := .none, data := .fields #[] })
    (g20 : K.lookup c'20 = some ⟨oc'20, od'20, .fields vs'20, sl'20⟩) (p20 : vs'20[11]? = some (.ref p'20)) (h20 : PySem.W.codeHdIn K c'20 p'20 = true) (n20 : K.lookup p'20 = none) (t20 : h.get? p'20 = some { cls := .none, data := .fields #[] }) (ne : (p'18 == p'20) = false)
    {esL : Array DictEntry} {nL : Nat} {tk1 tk2 tk3 : Tok} (aL : PySem.W.nsIn K mainGlobals "LIMITS" = some (some (.ref dL))) (lL : K.lookup dL = some ⟨.type "dict", none, .dict esL nL, #[]⟩) (kL : PySem.W.KeysLit w.params esL.toList) (oL : (dL == sysModules) = false)
    (v1 : PySem.W.nsIn K dL "lengths" = some (some (.int 40 tk1))) (v2 : PySem.W.nsIn K dL "hands" = some (some (.int 40 tk2))) (aG : PySem.W.nsIn K mainGlobals "LONGEST" = some (some (.int 1000 tk3)))
    (aC : PySem.W.nsIn K mainGlobals "TooMany" = some (some (.ref C))) (x1 : OexCls K C)
    (x3 : PySem.W.findIn K (.ref C) "__setattr__" = some (some (.builtin "object.__setattr__"))) (x4 : PySem.W.subIn K (.ref C) (.type "BaseException") = some true) (x5 : PySem.W.typeIn K (.ref C) = some (.type "type")) (x6 : PySem.W.keepIn K (.ref C) = true)
    (x7 : PySem.W.isClsIn K C = true) (x8 : PySem.W.subIn K (.ref C) (.ref C) = some true) (x9 : PySem.W.findIn K (.ref C) "__getattribute__" = some (some (.builtin "BaseException.__getattribute__"))) (xa : PySem.W.findIn K (.ref C) "__getattr__" = some none) (xb : PySem.W.hasDictIn K C = true) (xc : PySem.W.findIn K (.ref C) "what" = some none)
    {odI anI : Option Addr} {slI : Array (Option Value)} {ocI kVI dcI pmI cdI ctI : Value} (i1 : PySem.W.findIn K (.ref C) "__init__" = some (some (.ref fI))) (i2 : PySem.W.typeIn K (.ref fI) = some (.type "function")) (lI : K.lookup fI = some ⟨ocI, odI, .func (PySem.W.fnOf "__init__" "TooMany.__init__" (defArgs sTMi) (defBody sTMi) (defScope sTMi) .none kVI dcI pmI anI cdI ctI), slI⟩) (cI : PySem.W.codeIn K cdI "TooMany.__init__" = true) (kI : PySem.W.keepIn K (.ref fI) = true)
    (z_abs : PySem.W.nsIn K mainGlobals "abs" = some none) (z_all : PySem.W.nsIn K mainGlobals "all" = some none) (z_bool : PySem.W.nsIn K mainGlobals "bool" = some none) (z_dict : PySem.W.nsIn K mainGlobals "dict" = some none) (z_int : PySem.W.nsIn K mainGlobals "int" = some none) (z_isinstance : PySem.W.nsIn K mainGlobals "isinstance" = some none) (z_len : PySem.W.nsIn K mainGlobals "len" = some none) (z_list : PySem.W.nsIn K mainGlobals "list" = some none) (z_max : PySem.W.nsIn K mainGlobals "max" = some none) (z_min : PySem.W.nsIn K mainGlobals "min" = some none) (z_range : PySem.W.nsIn K mainGlobals "range" = some none) (z_repr : PySem.W.nsIn K mainGlobals "repr" = some none) (z_sorted : PySem.W.nsIn K mainGlobals "sorted" = some none) (z_str : PySem.W.nsIn K mainGlobals "str" = some none) (z_sum : PySem.W.nsIn K mainGlobals "sum" = some none) (z_tuple : PySem.W.nsIn K mainGlobals "tuple" = some none) :
    LamX.LawAtS l w K (L2.CX l.prog w) 10 63 "script" mg fa h := by
  have e := hfa.symm.trans (PySem.W.mg_of X G a21)
  cases e
  have T : Blt mg := ⟨PySem.W.mg_none_of X G z_abs, PySem.W.mg_none_of X G z_all, PySem.W.mg_none_of X G z_bool, PySem.W.mg_none_of X G z_dict, PySem.W.mg_none_of X G z_int, PySem.W.mg_none_of X G z_isinstance, PySem.W.mg_none_of X G z_len, PySem.W.mg_none_of X G z_list, PySem.W.mg_none_of X G z_max, PySem.W.mg_none_of X G z_min, PySem.W.mg_none_of X G z_range, PySem.W.mg_none_of X G z_repr, PySem.W.mg_none_of X G z_sorted, PySem.W.mg_none_of X G z_str, PySem.W.mg_none_of X G z_sum, PySem.W.mg_none_of X G z_tuple⟩
  letI TI : TBs := ⟨[(p'18, ("_law_k26_small" : Str) ++ ".<locals>." ++ "<lambda>"), (p'20, ("_law_k26_bounds" : Str) ++ ".<locals>." ++ "<lambda>")], fun _ => C⟩
  have np : p'18 ≠ p'20 := fun z => by rw [z] at ne; simp at ne
  have KD : KInts K w dL [("lengths", 40), ("hands", 40)] := ⟨⟨esL, nL, lL, kL, oL⟩, fun z i hm => by
    rcases List.mem_cons.mp hm with e | hm
    · cases e; exact ⟨tk1, v1⟩
    · rw [List.mem_singleton] at hm
      cases hm; exact ⟨tk2, v2⟩⟩
  have OX : OexC K C := ⟨x1, x3, x4, x5, x6⟩
  have EX1 : PySem.W.exmOne K (.ref C) (.ref C) = some true := exm_self x4 x7 x5 x8
  have XF : XfOk K TM "what" := ⟨C, rfl, ⟨x9, xa, x4, xb⟩, xc⟩
  refine ⟨PySem.W.fnOf "law" "law" (defArgs slaw) (defBody slaw) (defScope slaw) .none kV21 dc21 pm21 an21 cd21 ct21, [(c'18, p'18), (c'20, p'20)], spV K S_law, fun p hp => ?_, fun p hp => ?_, fun p hp => ?_, fun s v => .of_eq rfl, fun H a ns hl _ hT hS => start_of (fun p hp => ?_) hS ⟨ns, rfl, hl, rfl⟩, fun base KB GB TBh => ?_⟩
  · rcases List.mem_cons.mp hp with rfl | hp
    · exact t18
    · rw [List.mem_singleton.mp hp]; exact t20
  · rcases List.mem_cons.mp hp with rfl | hp
    · exact n18
    · rw [List.mem_singleton.mp hp]; exact n20
  · rcases List.mem_cons.mp hp with rfl | hp
    · exact PySem.W.codeHd_of_K X h18
    · rw [List.mem_singleton.mp hp]; exact PySem.W.codeHd_of_K X h20
  · have hp : p ∈ [(p'18, ("_law_k26_small" : Str) ++ ".<locals>." ++ "<lambda>"), (p'20, ("_law_k26_bounds" : Str) ++ ".<locals>." ++ "<lambda>")] := hp
    rcases List.mem_cons.mp hp with rfl | hp
    · exact hT (c'18, p'18) (List.mem_cons_self ..)
    · rw [List.mem_singleton.mp hp]; exact hT (c'20, p'20) (List.mem_cons_of_mem _ (List.mem_cons_self ..))
  have TB18 : LamX.TabB base mg c'18 p'18 := TBh (c'18, p'18) (List.mem_cons_self ..)
  have TB20 : LamX.TabB base mg c'20 p'20 := TBh (c'20, p'20) (List.mem_cons_of_mem _ (List.mem_cons_self ..))
  have tm18 : (p'18, ("_law_k26_small" : Str) ++ ".<locals>." ++ "<lambda>") ∈ TBs.tb := List.mem_cons_self ..
  have tm20 : (p'20, ("_law_k26_bounds" : Str) ++ ".<locals>." ++ "<lambda>") ∈ TBs.tb := List.mem_cons_of_mem _ (List.mem_cons_self ..)
  have tu18 : ∀ p ∈ TBs.tb, p.1 = p'18 → p.2 = ("_law_k26_small" : Str) ++ ".<locals>." ++ "<lambda>" := fun p hp e => by
    rcases List.mem_cons.mp hp with rfl | hp
    · rfl
    · have hp := List.mem_singleton.mp hp
      subst hp
      exact absurd e.symm np
  have tu20 : ∀ p ∈ TBs.tb, p.1 = p'20 → p.2 = ("_law_k26_bounds" : Str) ++ ".<locals>." ++ "<lambda>" := fun p hp e => by
    rcases List.mem_cons.mp hp with rfl | hp
    · exact absurd e np
    · rw [List.mem_singleton.mp hp]
  have FI := fun_mk (st := sTMi) lI cI kI
  have XC : XCls l.prog w K mg base "TooMany" C ["what"] 1 := ⟨OX, ⟨fI, _, _, i1, i2, ini_TooMany FI, FI.binds fun _ _ _ _ _ _ us hl => match us, hl with | [_, _], _ => rfl⟩, fun f hf => by rw [List.mem_singleton.mp hf]; exact xc, PySem.W.mg_of X G aC⟩
  have F6 := fun_mk (st := se_turns) l6 c6 k6
  have TL_e_turns := tl_e_turns (P := l.prog) (w := w) (base := base) T F6 (PySem.W.mg_of X G a6) rd_e_turns (fun SSl f dcap => by walk_at "len")
  have F7 := fun_mk (st := ssource) l7 c7 k7
  have D_source := def_source (P := l.prog) (w := w) (base := base) T F7 (PySem.W.mg_of X G a7) rd_source (by walk_at "len")
  have F8 := fun_mk (st := spick) l8 c8 k8
  have D_pick := def_pick (P := l.prog) (w := w) (base := base) T F8 (PySem.W.mg_of X G a8) rd_pick (by walk_at "len")
  have F12 := fun_mk (st := sk26_laid) l12 c12 k12
  have D_k26_laid := def_k26_laid (P := l.prog) (w := w) (base := base) T F12 (PySem.W.mg_of X G a12) rd_k26_laid (by walk_at "len")
  have F13 := fun_mk (st := sk26_least) l13 c13 k13
  have D_k26_least := def_k26_least (P := l.prog) (w := w) (base := base) T F13 (PySem.W.mg_of X G a13) rd_k26_least (by walk_at "len")
  have F14 := fun_mk (st := sk26_groups) l14 c14 k14
  have D_k26_groups := def_k26_groups (P := l.prog) (w := w) (base := base) T F14 (PySem.W.mg_of X G a14) rd_k26_groups (by walk_at "len")
  have F15 := fun_mk (st := sk26_line_looks) l15 c15 k15
  have D_k26_line_looks := def_k26_line_looks (P := l.prog) (w := w) (base := base) T F15 (PySem.W.mg_of X G a15) rd_k26_line_looks (by walk_at "len")
  have F16 := fun_mk (st := sk26_line_sure) l16 c16 k16
  have D_k26_line_sure := def_k26_line_sure (P := l.prog) (w := w) (base := base) T F16 (PySem.W.mg_of X G a16) rd_k26_line_sure (by walk_at "len")
  have F17 := fun_mk (st := sk26_group_sure) l17 c17 k17
  have D_k26_group_sure := def_k26_group_sure (P := l.prog) (w := w) (base := base) T F17 (PySem.W.mg_of X G a17) rd_k26_group_sure (by walk_at "len")
  have F9 := fun_mk (st := schoice) l9 c9 k9
  have D_choice := def_choice (P := l.prog) (w := w) (base := base) T D_pick F9 (PySem.W.mg_of X G a9) rd_choice (by walk_at "len")
  have F1 := fun_mk (st := sbound) l1 c1 k1
  have D_bound := def_bound (P := l.prog) (w := w) (base := base) T (PySem.W.mg_of X G aL) KD XC F1 (PySem.W.mg_of X G a1) rd_bound (by walk_at "len")
  have F11 := fun_mk (st := sk26_told) l11 c11 k11
  have TL_k26_told := tl_k26_told (P := l.prog) (w := w) (base := base) T XC F11 (PySem.W.mg_of X G a11) (rd_k26_told (M := PySem.W.exmOne K) (Xf := XfOk K) EX1 XF) (fun SSl f dcap => by walk_at "len")
  have F2 := fun_mk (st := scheck_lengths) l2 c2 k2
  have D_check_lengths := def_check_lengths (P := l.prog) (w := w) (base := base) T D_bound (PySem.W.mg_of X G aG) XC F2 (PySem.W.mg_of X G a2) rd_check_lengths (by walk_at "len")
  have F10 := fun_mk (st := ssame) l10 c10 k10
  have D0_same : Def l.prog w K mg base 0 "_law_same" ["answer", "due"] (Sn_same 0) := Def.never F10 (PySem.W.mg_of X G a10) (F10.binds fun _ _ _ _ _ _ us hl => match us, hl with | [_, _], _ => rfl)
  have D1_same : Def l.prog w K mg base 1 "_law_same" ["answer", "due"] (Sn_same 1) := def_same T D0_same F10 (PySem.W.mg_of X G a10) (rd_same 0) (by walk_at "len")
  have D2_same : Def l.prog w K mg base 2 "_law_same" ["answer", "due"] (Sn_same 2) := def_same T D1_same F10 (PySem.W.mg_of X G a10) (rd_same 1) (by walk_at "len")
  have D3_same : Def l.prog w K mg base 3 "_law_same" ["answer", "due"] (Sn_same 3) := def_same T D2_same F10 (PySem.W.mg_of X G a10) (rd_same 2) (by walk_at "len")
  have D_same : Def l.prog w K mg base 4 "_law_same" ["answer", "due"] (Sn_same 4) := def_same T D3_same F10 (PySem.W.mg_of X G a10) (rd_same 3) (by walk_at "len")
  have F3 := fun_mk (st := sline_turns) l3 c3 k3
  have D_line_turns := def_line_turns (P := l.prog) (w := w) (base := base) T D_check_lengths F3 (PySem.W.mg_of X G a3) rd_line_turns (by walk_at "len")
  have F4 := fun_mk (st := sgroup_turns) l4 c4 k4
  have D_group_turns := def_group_turns (P := l.prog) (w := w) (base := base) T D_check_lengths F4 (PySem.W.mg_of X G a4) rd_group_turns (by walk_at "len")
  have F5 := fun_mk (st := shands_time) l5 c5 k5
  have D_hands_time := def_hands_time (P := l.prog) (w := w) (base := base) T D_bound D_check_lengths F5 (PySem.W.mg_of X G a5) rd_hands_time (by walk_at "len")
  have F19 := fun_mk (st := sk26_large) l19 c19 k19
  have D_k26_large := def_k26_large (P := l.prog) (w := w) (base := base) T D_choice D_k26_groups D_k26_laid D_k26_least D_pick D_same D_group_turns D_hands_time D_line_turns F19 (PySem.W.mg_of X G a19) rd_k26_large (by walk_at "len")
  have F18 : FunL K "_law_k26_small" "_law_k26_small" sk26_small f18 _ c'18 := ⟨⟨oc18, od18, kV18, dc18, pm18, an18, ct18, sl18, rfl, l18, c18⟩, k18⟩
  have D_k26_small := def_k26_small (P := l.prog) (w := w) (base := base) T D_k26_group_sure D_k26_line_looks D_k26_line_sure D_pick D_group_turns D_line_turns TL_e_turns TB18 tm18 tu18 F18 (PySem.W.mg_of X G a18) rd_k26_small (by walk_at "len")
  have F20 : FunL K "_law_k26_bounds" "_law_k26_bounds" sk26_bounds f20 _ c'20 := ⟨⟨oc20, od20, kV20, dc20, pm20, an20, ct20, sl20, rfl, l20, c20⟩, k20⟩
  have D_k26_bounds := def_k26_bounds (P := l.prog) (w := w) (base := base) T D_pick D_same D_group_turns D_hands_time D_line_turns TL_k26_told TB20 tm20 tu20 F20 (PySem.W.mg_of X G a20) rd_k26_bounds (by walk_at "len")
  have F21 := fun_mk (st := slaw) l21 c21 k21
  exact fn_law T D_k26_bounds D_k26_large D_k26_small D_source D_group_turns D_hands_time F21 (PySem.W.mg_of X G a21) rd_law (by walk_at "len")
end WL
open PySem PySem.W PyProof.Rows
set_option maxHeartbeats 0 in
theorem PySem.Challenge.cw_firstreasons_k26_hands_lines_and_groups_holds : PySem.Challenge.rw_firstreasons_k26_hands_lines_and_groups.Holds := by
  w_on; o_law; k_head; (case hw => w_witness2)
  k_fill
  refine LamX.walk_ofTs (l := PySem.Challenge.rw_firstreasons_k26_hands_lines_and_groups) (n := 63) (k := 10) (x := "script") (CX := fun w => L2.CX PySem.Challenge.rw_firstreasons_k26_hands_lines_and_groups.prog w) rfl (by decide) rfl ⟨rfl, by decide, by decide⟩ (fun w h Y => PySem.W.km_in_of Y) ?F (fun _ _ _ _ _ h => by obtain ⟨_, _, _, _, _, _, _, _, _, _, _, _, z⟩ := h; exact z)
  case F =>
    intro w mg fa h Y KX G hmg
    have hT8 := PySem.W.km_tabs_of Y
    refine' WL.all_mk KX G hmg ?a1 ?l1 ?c1 ?k1 ?a2 ?l2 ?c2 ?k2 ?a3 ?l3 ?c3 ?k3 ?a4 ?l4 ?c4 ?k4 ?a5 ?l5 ?c5 ?k5 ?a6 ?l6 ?c6 ?k6 ?a7 ?l7 ?c7 ?k7 ?a8 ?l8 ?c8 ?k8 ?a9 ?l9 ?c9 ?k9 ?a10 ?l10 ?c10 ?k10 ?a11 ?l11 ?c11 ?k11 ?a12 ?l12 ?c12 ?k12 ?a13 ?l13 ?c13 ?k13 ?a14 ?l14 ?c14 ?k14 ?a15 ?l15 ?c15 ?k15 ?a16 ?l16 ?c16 ?k16 ?a17 ?l17 ?c17 ?k17 ?a18 ?l18 ?c18 ?k18 ?a19 ?l19 ?c19 ?k19 ?a20 ?l20 ?c20 ?k20 ?a21 ?l21 ?c21 ?k21 ?g18 ?p18 ?h18 ?n18 ?t18 ?g20 ?p20 ?h20 ?n20 ?t20 ?ne ?aL ?lL ?kL ?oL ?v1 ?v2 ?aG ?aC ?x1 ?x3 ?x4 ?x5 ?x6 ?x7 ?x8 ?x9 ?xa ?xb ?xc ?i1 ?i2 ?lI ?cI ?kI ?z_abs ?z_all ?z_bool ?z_dict ?z_int ?z_isinstance ?z_len ?z_list ?z_max ?z_min ?z_range ?z_repr ?z_sorted ?z_str ?z_sum ?z_tuple
    (case a1 => k_is)
    (case l1 => k_is)
    (case c1 => k_is)
    (case k1 => k_is)
    (case a2 => k_is)
    (case l2 => k_is)
    (case c2 => k_is)
    (case k2 => k_is)
    (case a3 => k_is)
    (case l3 => k_is)
    (case c3 => k_is)
    (case k3 => k_is)
    (case a4 => k_is)
    (case l4 => k_is)
    (case c4 => k_is)
    (case k4 => k_is)
    (case a5 => k_is)
    (case l5 => k_is)
    (case c5 => k_is)
    (case k5 => k_is)
    (case a6 => k_is)
    (case l6 => k_is)
    (case c6 => k_is)
    (case k6 => k_is)
    (case a7 => k_is)
    (case l7 => k_is)
    (case c7 => k_is)
    (case k7 => k_is)
    (case a8 => k_is)
    (case l8 => k_is)
    (case c8 => k_is)
    (case k8 => k_is)
    (case a9 => k_is)
    (case l9 => k_is)
    (case c9 => k_is)
    (case k9 => k_is)
    (case a10 => k_is)
    (case l10 => k_is)
    (case c10 => k_is)
    (case k10 => k_is)
    (case a11 => k_is)
    (case l11 => k_is)
    (case c11 => k_is)
    (case k11 => k_is)
    (case a12 => k_is)
    (case l12 => k_is)
    (case c12 => k_is)
    (case k12 => k_is)
    (case a13 => k_is)
    (case l13 => k_is)
    (case c13 => k_is)
    (case k13 => k_is)
    (case a14 => k_is)
    (case l14 => k_is)
    (case c14 => k_is)
    (case k14 => k_is)
    (case a15 => k_is)
    (case l15 => k_is)
    (case c15 => k_is)
    (case k15 => k_is)
    (case a16 => k_is)
    (case l16 => k_is)
    (case c16 => k_is)
    (case k16 => k_is)
    (case a17 => k_is)
    (case l17 => k_is)
    (case c17 => k_is)
    (case k17 => k_is)
    (case a18 => k_is)
    (case l18 => k_is)
    (case c18 => k_is)
    (case k18 => k_is)
    (case a19 => k_is)
    (case l19 => k_is)
    (case c19 => k_is)
    (case k19 => k_is)
    (case a20 => k_is)
    (case l20 => k_is)
    (case c20 => k_is)
    (case k20 => k_is)
    (case a21 => k_is)
    (case l21 => k_is)
    (case c21 => k_is)
    (case k21 => k_is)
    (case g18 => k_is)
    (case p18 => rfl)
    (case h18 => kernel_rfl)
    (case n18 => kernel_rfl)
    (case t18 => exact hT8 _ (by k_mem))
    (case g20 => k_is)
    (case p20 => rfl)
    (case h20 => kernel_rfl)
    (case n20 => kernel_rfl)
    (case t20 => exact hT8 _ (by k_mem))
    (case ne => rfl)
    (case aL => k_is)
    (case lL => k_is)
    (case kL => k_keys)
    (case oL => decide)
    (case v1 => k_is)
    (case v2 => k_is)
    (case aG => k_is)
    (case aC => k_is)
    (case x1 => refine' WL.oexCls ?xq ?xr; (case xq => k_is); (case xr => kernel_rfl))
    (case x3 => k_is)
    (case x4 => k_is)
    (case x5 => k_is)
    (case x6 => k_is)
    (case x7 => k_is)
    (case x8 => first | rfl | k_is)
    (case x9 => k_is)
    (case xa => k_is)
    (case xb => k_is)
    (case xc => k_is)
    (case i1 => k_is)
    (case i2 => k_is)
    (case lI => k_is)
    (case cI => k_is)
    (case kI => k_is)
    (case z_abs => k_is)
    (case z_all => k_is)
    (case z_bool => k_is)
    (case z_dict => k_is)
    (case z_int => k_is)
    (case z_isinstance => k_is)
    (case z_len => k_is)
    (case z_list => k_is)
    (case z_max => k_is)
    (case z_min => k_is)
    (case z_range => k_is)
    (case z_repr => k_is)
    (case z_sorted => k_is)
    (case z_str => k_is)
    (case z_sum => k_is)
    (case z_tuple => k_is)
