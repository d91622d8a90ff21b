import PyProof.Rows.All
import Wide.All
import OpenK.AllK
import Wide.FinOn
import HandS.ForMost
import HandS.ForExc
import HandS.TupAny
import HandS.TupMul
import HandS.Wide
import KE.DataEq
import KE.DataIsa
import KE.SortData
import PyProof.ReprRoads
import HandS.IsInst
import HandS.Codes
import HandS.More
import HandS.Strs
import PyProof.CollectStr
import PyProof.ListStr
import PyProof.TupleOfGen
import PySem.Challenge.RW_copyover_k32_lists_counted_for_many_fold
set_option Elab.async false
set_option linter.all false
set_option autoImplicit false
set_option maxRecDepth 100000
/-! The data layer: values as data (frozen part F of the heap), owned trees, the relation between data slots and the heap. -/
namespace DL
open PySem PySem.Spec PyProof.Rows L2

def keyD : Key → PyData
  | .inl i => .int i
  | .inr x => .str x

theorem Same.rd {H H' : Hp} {a : Addr} {u : HO} (e : Same H H') (h : Rd H a u) : Rd H' a u := by
  rcases h with h | ⟨o, h⟩
  · exact .inl (e _ _ h)
  · exact .inr ⟨o, e _ _ h⟩
theorem Same.sqt {K : PySem.W.Frag} {H H' : Hp} {a : Addr} {xs : List V} (e : Same H H') (h : SqT K H a xs) : SqT K H' a xs := by
  rcases h with h | h
  · exact .inl (DL.Same.rd e h)
  · exact .inr h

/-- values that stand for data, all of whose objects stand in F -/
inductive Reps (K : PySem.W.Frag) (F : Hp) : List V → List PyData → Prop
  | nil : Reps K F [] []
  | non {vs ds} : Reps K F vs ds → Reps K F (.non :: vs) (.none :: ds)
  | bl (b) {vs ds} : Reps K F vs ds → Reps K F (.bl b :: vs) (.bool b :: ds)
  | int (i) {vs ds} : Reps K F vs ds → Reps K F (.int i :: vs) (.int i :: ds)
  | str (x : Str) {vs ds} : x.length ≤ sizeLine → Reps K F vs ds → Reps K F (.str x :: vs) (.str x :: ds)
  | lst {a : Addr} {ws : List V} {xs vs ds} : F a = some (.lst ws) → Reps K F ws xs → Reps K F vs ds → Reps K F (.ref a :: vs) (.list xs :: ds)
  | tup {a ws xs vs ds} : SqT K F a ws → Reps K F ws xs → Reps K F vs ds → Reps K F (.ref a :: vs) (.tuple xs :: ds)
  | dic {a : Addr} {kvs : List (Key × V)} {ks : List Key} {xs : List PyData} {vs ds} : Rd F a (.dK kvs) → kvs.map (·.1) = ks → Reps K F (kvs.map (·.2)) xs → Reps K F vs ds →
      Reps K F (.ref a :: vs) (.dict ((ks.map keyD).zip xs) :: ds)
abbrev Rp (K : PySem.W.Frag) (F : Hp) (v : V) (d : PyData) : Prop := Reps K F [v] [d]

section
variable {K : PySem.W.Frag} {F F' H H' : Hp}
theorem Reps.mono (e : Same F F') : ∀ {vs ds}, Reps K F vs ds → Reps K F' vs ds := by
  intro vs ds h
  induction h with
  | nil => exact .nil
  | non _ ih => exact .non ih
  | bl b _ ih => exact .bl b ih
  | int i _ ih => exact .int i ih
  | str x hx _ ih => exact .str x hx ih
  | lst h1 _ _ ih1 ih2 => exact .lst (e _ _ h1) ih1 ih2
  | tup h1 _ _ ih1 ih2 => exact .tup (DL.Same.sqt e h1) ih1 ih2
  | dic h1 h2 _ _ ih1 ih2 => exact .dic (DL.Same.rd e h1) h2 ih1 ih2
theorem Reps.len {vs ds} (h : Reps K F vs ds) : vs.length = ds.length := by
  induction h with
  | nil => rfl
  | non _ ih => simp [ih]
  | bl b _ ih => simp [ih]
  | int i _ ih => simp [ih]
  | str x hx _ ih => simp [ih]
  | lst h1 _ _ ih1 ih2 => simp [ih2]
  | tup h1 _ _ ih1 ih2 => simp [ih2]
  | dic h1 h2 _ _ ih1 ih2 => simp [ih2]
theorem Reps.inv {v vs d ds} (h : Reps K F (v :: vs) (d :: ds)) : Rp K F v d ∧ Reps K F vs ds := by
  cases h with
  | non t => exact ⟨.non .nil, t⟩
  | bl b t => exact ⟨.bl b .nil, t⟩
  | int i t => exact ⟨.int i .nil, t⟩
  | str x hx t => exact ⟨.str x hx .nil, t⟩
  | lst h1 h2 t => exact ⟨.lst h1 h2 .nil, t⟩
  | tup h1 h2 t => exact ⟨.tup h1 h2 .nil, t⟩
  | dic h1 h2 h3 t => exact ⟨.dic h1 h2 h3 .nil, t⟩
theorem Reps.cons {v vs d ds} (h : Rp K F v d) (t : Reps K F vs ds) : Reps K F (v :: vs) (d :: ds) := by
  cases h with
  | non _ => exact .non t
  | bl b _ => exact .bl b t
  | int i _ => exact .int i t
  | str x hx _ => exact .str x hx t
  | lst h1 h2 _ => exact .lst h1 h2 t
  | tup h1 h2 _ => exact .tup h1 h2 t
  | dic h1 h2 h3 _ => exact .dic h1 h2 h3 t
theorem Reps.get : ∀ {vs ds} {i : Nat} {v d}, Reps K F vs ds → vs[i]? = some v → ds[i]? = some d → Rp K F v d
  | [], _, i, _, _, _, h, _ => by simp at h
  | _ :: _, [], i, _, _, _, _, h => by simp at h
  | a :: vs, b :: ds, 0, v, d, r, h, h' => by
    simp at h h'
    subst h h'
    exact r.inv.1
  | a :: vs, b :: ds, i + 1, v, d, r, h, h' => by
    simp at h h'
    exact Reps.get r.inv.2 h h'
theorem Reps.of : ∀ {vs : List V} {ds : List PyData}, vs.length = ds.length → (∀ (i : Nat) v d, vs[i]? = some v → ds[i]? = some d → Rp K F v d) → Reps K F vs ds
  | [], [], _, _ => .nil
  | [], _ :: _, h, _ => by simp at h
  | _ :: _, [], h, _ => by simp at h
  | v :: vs, d :: ds, h, f => .cons (f 0 v d rfl rfl) (Reps.of (by simpa using h) fun i x y h1 h2 => f (i + 1) x y (by simpa using h1) (by simpa using h2))
theorem Reps.getD {vs ds} {i : Nat} {d} (r : Reps K F vs ds) (h : ds[i]? = some d) : ∃ v, vs[i]? = some v ∧ Rp K F v d := by
  have hl := r.len
  have hi : i < vs.length := by rw [hl]; exact (List.getElem?_eq_some_iff.mp h).1
  exact ⟨vs[i], by simp [hi], r.get (by simp [hi]) h⟩
theorem Reps.append {vs ws ds es} (a : Reps K F vs ds) (b : Reps K F ws es) : Reps K F (vs ++ ws) (ds ++ es) := by
  have ha := a.len
  have hb := b.len
  refine .of (by simp [ha, hb]) fun i v d h1 h2 => ?_
  rw [List.getElem?_append] at h1 h2
  rw [← ha] at h2
  by_cases hi : i < vs.length
  · rw [if_pos hi] at h1 h2
    exact a.get h1 h2
  · rw [if_neg hi] at h1 h2
    exact b.get h1 h2
theorem Reps.drop {vs ds} (a : Reps K F vs ds) (n : Nat) : Reps K F (vs.drop n) (ds.drop n) := by
  have ha := a.len
  refine .of (by simp [ha]) fun i v d h1 h2 => ?_
  rw [List.getElem?_drop] at h1 h2
  exact a.get h1 h2
theorem Reps.take {vs ds} (a : Reps K F vs ds) (n : Nat) : Reps K F (vs.take n) (ds.take n) := by
  have ha := a.len
  refine .of (by simp [ha]) fun i v d h1 h2 => ?_
  rw [List.getElem?_take] at h1 h2
  split at h1
  · rename_i hi
    rw [if_pos hi] at h2
    exact a.get h1 h2
  · cases h1
theorem Reps.reverse {vs ds} (a : Reps K F vs ds) : Reps K F vs.reverse ds.reverse := by
  have ha := a.len
  refine .of (by simp [ha]) fun i v d h1 h2 => ?_
  have hi : i < vs.length := by
    have := (List.getElem?_eq_some_iff.mp h1).1
    simpa using this
  rw [List.getElem?_reverse hi] at h1
  rw [List.getElem?_reverse (by omega), ← ha] at h2
  exact a.get h1 h2
theorem Reps.eraseIdx {vs ds} (a : Reps K F vs ds) (n : Nat) : Reps K F (vs.eraseIdx n) (ds.eraseIdx n) := by
  have ha := a.len
  refine .of (by simp [List.length_eraseIdx, ha]) fun i v d h1 h2 => ?_
  rw [List.getElem?_eraseIdx] at h1 h2
  by_cases hi : i < n
  · rw [if_pos hi] at h1 h2
    exact a.get h1 h2
  · rw [if_neg hi] at h1 h2
    exact a.get h1 h2
theorem Rp.dict_inv {v kds} (h : Rp K F v (.dict kds)) : ∃ a kvs xs, v = .ref a ∧ Rd F a (.dK kvs) ∧ kds = ((kvs.map (·.1)).map keyD).zip xs ∧ Reps K F (kvs.map (·.2)) xs := by
  cases h with
  | dic h1 h2 h3 _ => subst h2; exact ⟨_, _, _, rfl, h1, rfl, h3⟩
theorem Rp.int_inv {v i} (h : Rp K F v (.int i)) : v = .int i := by cases h; rfl
theorem Rp.str_inv {v x} (h : Rp K F v (.str x)) : v = .str x ∧ x.length ≤ sizeLine := by cases h; exact ⟨rfl, by assumption⟩
theorem Rp.bool_inv {v b} (h : Rp K F v (.bool b)) : v = .bl b := by cases h; rfl
theorem Rp.none_inv {v} (h : Rp K F v .none) : v = .non := by cases h; rfl
theorem Rp.list_inv {v xs} (h : Rp K F v (.list xs)) : ∃ a ws, v = .ref a ∧ F a = some (.lst ws) ∧ Reps K F ws xs := by
  cases h with
  | lst h1 h2 _ => exact ⟨_, _, rfl, h1, h2⟩
theorem Rp.tuple_inv {v xs} (h : Rp K F v (.tuple xs)) : ∃ a ws, v = .ref a ∧ SqT K F a ws ∧ Reps K F ws xs := by
  cases h with
  | tup h1 h2 _ => exact ⟨_, _, rfl, h1, h2⟩
end

/-! ### owned trees -/
inductive OD where
  | d (x : PyData)
  | l (os : List OD)
  | m (ks : List Key) (os : List OD)
  /-- the law's own argument: read where it stands -/
  | s (ns : List Int)

mutual
def OD.erase : OD → PyData
  | .d x => x
  | .l os => .list (eraseL os)
  | .m ks os => .dict ((ks.map keyD).zip (eraseL os))
  | .s ns => .list (ns.map .int)
def eraseL : List OD → List PyData
  | [] => []
  | o :: os => o.erase :: eraseL os
end
theorem eraseL_map : ∀ os : List OD, eraseL os = os.map OD.erase
  | [] => rfl
  | o :: os => by rw [eraseL, eraseL_map os]; rfl
mutual
def OD.noS : OD → Bool
  | .d _ => true
  | .l os => noSL os
  | .m _ os => noSL os
  | .s _ => false
def noSL : List OD → Bool
  | [] => true
  | o :: os => o.noS && noSL os
end
theorem noSL_d : ∀ ds : List PyData, noSL (ds.map .d) = true
  | [] => rfl
  | d :: ds => by simp [noSL, OD.noS, noSL_d ds]
/-- the data within are all frozen -/
def OD.isD : OD → Bool
  | .d _ => true
  | _ => false
def OD.shallow : OD → Bool
  | .d _ => true
  | .l os => os.all OD.isD
  | .m _ os => os.all OD.isD
  | .s _ => false

inductive OReps (K : PySem.W.Frag) (F H : Hp) : List V → List OD → List Addr → Prop
  | nil : OReps K F H [] [] []
  | d {v x vs os fp} : Rp K F v x → OReps K F H vs os fp → OReps K F H (v :: vs) (.d x :: os) fp
  | l {a ws ps fp1 vs os fp} : F a = none → H a = some (.lst ws) → OReps K F H ws ps fp1 → OReps K F H vs os fp → OReps K F H (.ref a :: vs) (.l ps :: os) (a :: (fp1 ++ fp))
  | m {a kvs ks ps fp1 vs os fp} : F a = none → H a = some (.dK kvs) → kvs.map (·.1) = ks → OReps K F H (kvs.map (·.2)) ps fp1 → OReps K F H vs os fp →
      OReps K F H (.ref a :: vs) (.m ks ps :: os) (a :: (fp1 ++ fp))
  | s {a ns vs os fp} : SqL K F a (ns.map V.int) → OReps K F H vs os fp → OReps K F H (.ref a :: vs) (.s ns :: os) fp
abbrev ORp (K : PySem.W.Frag) (F H : Hp) (v : V) (o : OD) (fp : List Addr) : Prop := OReps K F H [v] [o] fp

section
variable {K : PySem.W.Frag} {F F' H H' : Hp}
theorem OReps.len {vs os fp} (h : OReps K F H vs os fp) : vs.length = os.length := by
  induction h with
  | nil => rfl
  | d _ _ ih => simp [ih]
  | l _ _ _ _ _ ih => simp [ih]
  | m _ _ _ _ _ _ ih => simp [ih]
  | s _ _ ih => simp [ih]
theorem OReps.cons : ∀ {v o fp1 vs os fp2}, ORp K F H v o fp1 → OReps K F H vs os fp2 → OReps K F H (v :: vs) (o :: os) (fp1 ++ fp2) := by
  intro v o fp1 vs os fp2 h t
  cases h with
  | d h1 h2 => cases h2; exact .d h1 t
  | l h1 h2 h3 h4 =>
    cases h4
    have := OReps.l h1 h2 h3 t
    simpa using this
  | m h1 h2 h3 h4 h5 =>
    cases h5
    have := OReps.m h1 h2 h3 h4 t
    simpa using this
  | s h1 h2 => cases h2; exact .s h1 t
theorem OReps.inv {v o vs os fp} (h : OReps K F H (v :: vs) (o :: os) fp) : ∃ fp1 fp2, ORp K F H v o fp1 ∧ OReps K F H vs os fp2 ∧ fp = fp1 ++ fp2 := by
  cases h with
  | d h1 h2 => exact ⟨[], _, .d h1 .nil, h2, rfl⟩
  | l h1 h2 h3 h4 => exact ⟨_ :: _, _, by simpa using OReps.l h1 h2 h3 .nil, h4, by simp⟩
  | m h1 h2 h3 h4 h5 => exact ⟨_ :: _, _, by simpa using OReps.m h1 h2 h3 h4 .nil, h5, by simp⟩
  | s h1 h2 => exact ⟨[], _, .s h1 .nil, h2, rfl⟩
theorem OReps.app : ∀ {vs os fp1 ws ps fp2}, OReps K F H vs os fp1 → OReps K F H ws ps fp2 → OReps K F H (vs ++ ws) (os ++ ps) (fp1 ++ fp2)
  | [], [], _, _, _, _, h, t => by cases h; exact t
  | [], _ :: _, _, _, _, _, h, t => nomatch h
  | _ :: _, [], _, _, _, _, h, t => nomatch h
  | v :: vs, o :: os, _, _, _, _, h, t => by
    obtain ⟨f1, f2, a, b, rfl⟩ := h.inv
    have := a.cons (OReps.app b t)
    simpa using this
theorem OReps.split : ∀ {vs : List V} {os : List OD} {ws ps fp}, vs.length = os.length → OReps K F H (vs ++ ws) (os ++ ps) fp → ∃ fp1 fp2, OReps K F H vs os fp1 ∧ OReps K F H ws ps fp2 ∧ fp = fp1 ++ fp2
  | [], [], _, _, _, _, h => ⟨[], _, .nil, h, rfl⟩
  | [], _ :: _, _, _, _, e, h => by simp at e
  | _ :: _, [], _, _, _, e, h => by simp at e
  | v :: vs, o :: os, _, _, _, e, h => by
    obtain ⟨f1, f2, a, b, rfl⟩ := OReps.inv (by simpa using h)
    obtain ⟨g1, g2, c, d, rfl⟩ := OReps.split (by simpa using e) b
    exact ⟨f1 ++ g1, g2, a.cons c, d, by simp⟩
theorem ORp.d_inv {v x fp} (h : ORp K F H v (.d x) fp) : fp = [] ∧ Rp K F v x := by
  cases h with
  | d h1 h2 => cases h2; exact ⟨rfl, h1⟩
theorem ORp.l_inv {v ps fp} (h : ORp K F H v (.l ps) fp) : ∃ a ws fp1, v = .ref a ∧ F a = none ∧ H a = some (.lst ws) ∧ OReps K F H ws ps fp1 ∧ fp = a :: fp1 := by
  cases h with
  | l h1 h2 h3 h4 => cases h4; exact ⟨_, _, _, rfl, h1, h2, h3, by simp⟩
theorem ORp.m_inv {v ks ps fp} (h : ORp K F H v (.m ks ps) fp) : ∃ a kvs fp1, v = .ref a ∧ F a = none ∧ H a = some (.dK kvs) ∧ kvs.map (·.1) = ks ∧ OReps K F H (kvs.map (·.2)) ps fp1 ∧ fp = a :: fp1 := by
  cases h with
  | m h1 h2 h3 h4 h5 => cases h5; exact ⟨_, _, _, rfl, h1, h2, h3, h4, by simp⟩
theorem ORp.s_inv {v ns fp} (h : ORp K F H v (.s ns) fp) : ∃ a, v = .ref a ∧ SqL K F a (ns.map V.int) := by
  cases h with
  | s h1 h2 => exact ⟨_, rfl, h1⟩
theorem ORp.mkd {v x} (h : Rp K F v x) : ORp K F H v (.d x) [] := .d h .nil
theorem ORp.mkl {a ws ps fp} (h1 : F a = none) (h2 : H a = some (.lst ws)) (h3 : OReps K F H ws ps fp) : ORp K F H (.ref a) (.l ps) (a :: fp) := by simpa using OReps.l h1 h2 h3 .nil
theorem ORp.mkm {a kvs ks ps fp} (h1 : F a = none) (h2 : H a = some (.dK kvs)) (h3 : kvs.map (·.1) = ks) (h4 : OReps K F H (kvs.map (·.2)) ps fp) : ORp K F H (.ref a) (.m ks ps) (a :: fp) := by simpa using OReps.m h1 h2 h3 h4 .nil
/-- frozen things only -/
theorem OReps.ofReps : ∀ {vs ds}, Reps K F vs ds → OReps K F H vs (ds.map .d) []
  | [], [], h => .nil
  | [], _ :: _, h => nomatch h
  | _ :: _, [], h => nomatch h
  | v :: vs, y :: ds, h => .d h.inv.1 (OReps.ofReps h.inv.2)
theorem OReps.toReps : ∀ {vs os fp}, OReps K F H vs os fp → os.all OD.isD = true → fp = [] ∧ Reps K F vs (os.map OD.erase)
  | [], [], _, h, _ => by cases h; exact ⟨rfl, .nil⟩
  | [], _ :: _, _, h, _ => nomatch h
  | _ :: _, [], _, h, _ => nomatch h
  | v :: vs, (OD.d x) :: os, _, h, e => by
    cases h with
    | d h1 h2 =>
      obtain ⟨a, b⟩ := OReps.toReps h2 (by simpa [OD.isD] using e)
      exact ⟨a, .cons (by simpa [OD.erase] using h1) b⟩
  | v :: vs, (OD.l x) :: os, _, h, e => by simp [OD.isD] at e
  | v :: vs, (OD.m x y) :: os, _, h, e => by simp [OD.isD] at e
theorem OReps.change {vs os fp} (h : OReps K F H vs os fp) (e : Same F F') (k : ∀ a ∈ fp, F' a = none ∧ H' a = H a) : OReps K F' H' vs os fp := by
  induction h with
  | nil => exact .nil
  | d h1 _ ih => exact .d (h1.mono e) (ih k)
  | l h1 h2 _ _ ih1 ih2 =>
    obtain ⟨k1, k2⟩ := k _ List.mem_cons_self
    exact .l k1 (k2.trans h2) (ih1 fun b hb => k b (List.mem_cons_of_mem _ (List.mem_append_left _ hb))) (ih2 fun b hb => k b (List.mem_cons_of_mem _ (List.mem_append_right _ hb)))
  | m h1 h2 h3 _ _ ih1 ih2 =>
    obtain ⟨k1, k2⟩ := k _ List.mem_cons_self
    exact .m k1 (k2.trans h2) h3 (ih1 fun b hb => k b (List.mem_cons_of_mem _ (List.mem_append_left _ hb))) (ih2 fun b hb => k b (List.mem_cons_of_mem _ (List.mem_append_right _ hb)))
  | s h1 _ ih => exact .s (e.seq h1) (ih k)
theorem OReps.fnone {vs os fp} (h : OReps K F H vs os fp) : ∀ a ∈ fp, F a = none ∧ ∃ o, H a = some o := by
  induction h with
  | nil => intro a h; simp at h
  | d h1 _ ih => exact ih
  | l h1 h2 _ _ ih1 ih2 =>
    intro b hb
    rcases List.mem_cons.mp hb with rfl | hb
    · exact ⟨h1, _, h2⟩
    · exact (List.mem_append.mp hb).elim (ih1 b) (ih2 b)
  | m h1 h2 h3 _ _ ih1 ih2 =>
    intro b hb
    rcases List.mem_cons.mp hb with rfl | hb
    · exact ⟨h1, _, h2⟩
    · exact (List.mem_append.mp hb).elim (ih1 b) (ih2 b)
  | s h1 _ ih => exact ih
/-- read through, where it stands -/
theorem OReps.peek {vs os fp} (h : OReps K F H vs os fp) (e : Same F F') (k : ∀ a ∈ fp, F' a = H a) (hs : noSL os = true) : Reps K F' vs (os.map OD.erase) := by
  induction h with
  | nil => exact .nil
  | d h1 _ ih => exact .cons (by simpa [OD.erase] using h1.mono e) (ih k (by simpa [noSL, OD.noS] using hs))
  | s _ _ _ => simp [noSL, OD.noS] at hs
  | l h1 h2 _ _ ih1 ih2 =>
    simp only [noSL, OD.noS, Bool.and_eq_true] at hs
    refine .cons (v := .ref _) ?_ (ih2 (fun b hb => k b (List.mem_cons_of_mem _ (List.mem_append_right _ hb))) hs.2)
    have q := ih1 (fun b hb => k b (List.mem_cons_of_mem _ (List.mem_append_left _ hb))) hs.1
    rw [OD.erase, eraseL_map]
    exact .lst ((k _ List.mem_cons_self).trans h2) q .nil
  | m h1 h2 h3 _ _ ih1 ih2 =>
    simp only [noSL, OD.noS, Bool.and_eq_true] at hs
    refine .cons (v := .ref _) ?_ (ih2 (fun b hb => k b (List.mem_cons_of_mem _ (List.mem_append_right _ hb))) hs.2)
    have q := ih1 (fun b hb => k b (List.mem_cons_of_mem _ (List.mem_append_left _ hb))) hs.1
    rw [OD.erase, eraseL_map]
    exact .dic (Rd.of ((k _ List.mem_cons_self).trans h2)) h3 q .nil
/-- freezing: the objects at fp go over to the frozen part -/
def frz (F H : Hp) (fp : List Addr) : Hp := fun a => if a ∈ fp then H a else F a
theorem frz_same {fp : List Addr} (hn : ∀ a ∈ fp, F a = none) : Same F (frz F H fp) := fun a o h => by
  unfold frz
  by_cases ha : a ∈ fp
  · rw [hn a ha] at h; cases h
  · rw [if_neg ha]; exact h
theorem frz_sub {fp : List Addr} (e : Same F H) : Same (frz F H fp) H := fun a o h => by
  unfold frz at h
  by_cases ha : a ∈ fp
  · rw [if_pos ha] at h; exact h
  · rw [if_neg ha] at h; exact e a o h
theorem frz_none {fp : List Addr} {a : Addr} (ha : a ∉ fp) (h : F a = none) : frz F H fp a = none := by unfold frz; rw [if_neg ha]; exact h
end

/-! ### slots -/
abbrev DEnv := List (Option OD)
inductive ERep (K : PySem.W.Frag) (F H : Hp) : L2.St → DEnv → List Addr → Prop
  | nil : ERep K F H [] [] []
  | un {x σ env fp} : ERep K F H σ env fp → ERep K F H (x :: σ) (none :: env) fp
  | so {v o fp1 σ env fp} : ORp K F H v o fp1 → ERep K F H σ env fp → ERep K F H (some v :: σ) (some o :: env) (fp1 ++ fp)
section
variable {K : PySem.W.Frag} {F F' H H' : Hp}
theorem ERep.len {σ env fp} (h : ERep K F H σ env fp) : σ.length = env.length := by
  induction h with
  | nil => rfl
  | un _ ih => simp [ih]
  | so _ _ ih => simp [ih]
theorem ERep.change {σ env fp} (h : ERep K F H σ env fp) (e : Same F F') (k : ∀ a ∈ fp, F' a = none ∧ H' a = H a) : ERep K F' H' σ env fp := by
  induction h with
  | nil => exact .nil
  | un _ ih => exact .un (ih k)
  | so h1 _ ih => exact .so (h1.change e fun a ha => k a (List.mem_append_left _ ha)) (ih fun a ha => k a (List.mem_append_right _ ha))
theorem ERep.fnone {σ env fp} (h : ERep K F H σ env fp) : ∀ a ∈ fp, F a = none ∧ ∃ o, H a = some o := by
  induction h with
  | nil => intro a h; simp at h
  | un _ ih => exact ih
  | so h1 _ ih => exact fun a ha => (List.mem_append.mp ha).elim (h1.fnone a) (ih a)
/-- a slot taken out, and another thing put in -/
theorem ERep.at : ∀ {σ env fp} {i : Nat} {o : OD}, ERep K F H σ env fp → env[i]? = some (some o) → ∃ v fpi rest, σ[i]? = some (some v) ∧ ORp K F H v o fpi ∧ fp.Perm (fpi ++ rest) ∧
    ∀ (F' H' : Hp) (v' : V) (o' : OD) (fpi' : List Addr), Same F F' → (∀ a ∈ rest, F' a = none ∧ H' a = H a) → ORp K F' H' v' o' fpi' → ∃ fp', ERep K F' H' (σ.set i (some v')) (env.set i (some o')) fp' ∧ fp'.Perm (fpi' ++ rest)
  | [], [], _, i, o, h, e => by simp at e
  | _ :: _, [], _, i, o, h, e => nomatch h
  | [], _ :: _, _, i, o, h, e => nomatch h
  | x :: σ, y :: env, fp, 0, o, h, e => by
    simp at e
    subst e
    cases h with
    | so h1 h2 =>
      refine ⟨_, _, _, rfl, h1, List.Perm.refl _, fun F' H' v' o' fpi' s k r => ⟨_, .so r (h2.change s k), List.Perm.refl _⟩⟩
  | x :: σ, y :: env, fp, i + 1, o, h, e => by
    have e' : env[i]? = some (some o) := by simpa using e
    cases h with
    | un h2 =>
      obtain ⟨v, fpi, rest, a, b, c, d⟩ := ERep.at h2 e'
      refine ⟨v, fpi, rest, by simpa using a, b, c, fun F' H' v' o' fpi' s k r => ?_⟩
      obtain ⟨fp', p, q⟩ := d F' H' v' o' fpi' s k r
      exact ⟨fp', .un p, q⟩
    | so h1 h2 =>
      rename_i v0 o0 fp1 fp2
      obtain ⟨v, fpi, rest, a, b, c, d⟩ := ERep.at h2 e'
      refine ⟨v, fpi, fp1 ++ rest, by simpa using a, b, ?_, fun F' H' v' o' fpi' s k r => ?_⟩
      · exact (List.Perm.append_left fp1 c).trans (by simpa [← List.append_assoc] using (List.perm_append_comm (l₁ := fp1) (l₂ := fpi)).append_right rest)
      · obtain ⟨fp', p, q⟩ := d F' H' v' o' fpi' s (fun a ha => k a (List.mem_append_right _ ha)) r
        refine ⟨fp1 ++ fp', .so (h1.change s fun a ha => k a (List.mem_append_left _ ha)) p, ?_⟩
        exact (List.Perm.append_left fp1 q).trans (by simpa [← List.append_assoc] using (List.perm_append_comm (l₁ := fp1) (l₂ := fpi')).append_right rest)
/-- a thing put into any slot: what was there is let go -/
theorem ERep.put : ∀ {σ env fp} {i : Nat}, ERep K F H σ env fp → i < σ.length → ∃ rest, (∃ l, fp.Perm (l ++ rest)) ∧
    ∀ (v' : V) (o' : OD) (fpi' : List Addr), ORp K F H v' o' fpi' → ∃ fp', ERep K F H (σ.set i (some v')) (env.set i (some o')) fp' ∧ fp'.Perm (fpi' ++ rest)
  | [], _, _, i, h, e => by simp at e
  | _ :: _, [], _, i, h, e => nomatch h
  | x :: σ, y :: env, fp, 0, h, e => by
    cases h with
    | un h2 => exact ⟨fp, ⟨[], List.Perm.refl _⟩, fun v' o' fpi' r => ⟨_, .so r h2, List.Perm.refl _⟩⟩
    | so h1 h2 => exact ⟨_, ⟨_, List.Perm.refl _⟩, fun v' o' fpi' r => ⟨_, .so r h2, List.Perm.refl _⟩⟩
  | x :: σ, y :: env, fp, i + 1, h, e => by
    have e' : i < σ.length := by simpa using e
    cases h with
    | un h2 =>
      obtain ⟨rest, c, d⟩ := ERep.put h2 e'
      refine ⟨rest, c, fun v' o' fpi' r => ?_⟩
      obtain ⟨fp', p, q⟩ := d v' o' fpi' r
      exact ⟨fp', .un p, q⟩
    | so h1 h2 =>
      rename_i v0 o0 fp1 fp2
      obtain ⟨rest, ⟨l, c⟩, d⟩ := ERep.put h2 e'
      refine ⟨fp1 ++ rest, ⟨l, ?_⟩, fun v' o' fpi' r => ?_⟩
      · exact (List.Perm.append_left fp1 c).trans (by simpa [← List.append_assoc] using (List.perm_append_comm (l₁ := fp1) (l₂ := l)).append_right rest)
      · obtain ⟨fp', p, q⟩ := d v' o' fpi' r
        refine ⟨fp1 ++ fp', .so h1 p, ?_⟩
        exact (List.Perm.append_left fp1 q).trans (by simpa [← List.append_assoc] using (List.perm_append_comm (l₁ := fp1) (l₂ := fpi')).append_right rest)
/-- a slot forgotten -/
theorem ERep.drop : ∀ {σ env fp} (i : Nat), ERep K F H σ env fp → ∃ fp' l, ERep K F H (σ.set i none) (env.set i none) fp' ∧ fp.Perm (l ++ fp')
  | [], [], _, i, h => ⟨[], [], by simpa using ERep.nil, by cases h; simp⟩
  | _ :: _, [], _, i, h => nomatch h
  | [], _ :: _, _, i, h => nomatch h
  | x :: σ, y :: env, fp, 0, h => by
    cases h with
    | un h2 => exact ⟨fp, [], .un h2, List.Perm.refl _⟩
    | so h1 h2 => exact ⟨_, _, .un h2, List.Perm.refl _⟩
  | x :: σ, y :: env, fp, i + 1, h => by
    cases h with
    | un h2 =>
      obtain ⟨fp', l, a, b⟩ := ERep.drop i h2
      exact ⟨fp', l, .un a, b⟩
    | so h1 h2 =>
      rename_i v0 o0 fp1 fp2
      obtain ⟨fp', l, a, b⟩ := ERep.drop i h2
      refine ⟨fp1 ++ fp', l, .so h1 a, ?_⟩
      exact (List.Perm.append_left fp1 b).trans (by simpa [← List.append_assoc] using (List.perm_append_comm (l₁ := fp1) (l₂ := l)).append_right fp')
end

/-! ### the relation -/
/-- what is fixed through a def's run: its heap at the entry, the frozen part then, the addresses handed in as owned, their slots -/
structure Sx where
  H0 : Hp
  F0 : Hp
  io : List Addr
  pin : List (Nat × V)
structure Rel (K : PySem.W.Frag) (S : Sx) (F : Hp) (σ : L2.St) (H : Hp) (env : DEnv) (hs : List V) (ho : List OD) : Prop where
  sub : Same F H
  rep : ∃ fp1 fp2, ERep K F H σ env fp1 ∧ OReps K F H hs ho fp2 ∧ (fp1 ++ fp2).Nodup ∧ ∀ a ∈ fp1 ++ fp2, a ∈ S.io ∨ S.H0 a = none
  keep : ∀ a o, S.H0 a = some o → a ∉ S.io → H a = some o
  new : ∀ a, F a ≠ none → S.F0 a ≠ none ∨ S.H0 a = none ∨ a ∈ S.io
  f0 : Same S.F0 F
  pin : ∀ p ∈ S.pin, σ[p.1]? = some (some p.2)
section
variable {K : PySem.W.Frag} {S : Sx} {F F' H H' : Hp} {σ : L2.St} {env : DEnv} {hs ws : List V} {ho os : List OD}
theorem Rel.len (R : Rel K S F σ H env hs ho) : σ.length = env.length := let ⟨_, _, a, _⟩ := R.rep; a.len
theorem Rel.hlen (R : Rel K S F σ H env hs ho) : hs.length = ho.length := let ⟨_, _, _, b, _⟩ := R.rep; b.len
theorem Rel.notin (R : Rel K S F σ H env hs ho) {p : Addr} (hp : H p = none) : p ∈ S.io ∨ S.H0 p = none := by
  cases q : S.H0 p with
  | none => exact .inr rfl
  | some o =>
    by_cases hi : p ∈ S.io
    · exact .inl hi
    · have := R.keep p o q hi
      rw [hp] at this; cases this
theorem Rel.drop (R : Rel K S F σ H env (hs ++ ws) (ho ++ os)) (hl : hs.length = ho.length) : Rel K S F σ H env hs ho := by
  obtain ⟨f1, f2, a, b, nd, io⟩ := R.rep
  obtain ⟨g1, g2, c, d, rfl⟩ := OReps.split hl b
  refine ⟨R.sub, ⟨f1, g1, a, c, ?_, fun x hx => io x ?_⟩, R.keep, R.new, R.f0, R.pin⟩
  · rw [← List.append_assoc] at nd
    exact (List.nodup_append.mp nd).1
  · rw [← List.append_assoc]
    exact List.mem_append_left _ hx
theorem Rel.heldReps (R : Rel K S F σ H env (hs ++ ws) (ho ++ os)) (hl : hs.length = ho.length) : ∃ fp, OReps K F H ws os fp := by
  obtain ⟨f1, f2, a, b, nd, io⟩ := R.rep
  obtain ⟨g1, g2, c, d, rfl⟩ := OReps.split hl b
  exact ⟨g2, d⟩
theorem Rel.push (R : Rel K S F σ H env hs ho) {v : V} {x : PyData} (r : Rp K F v x) : Rel K S F σ H env (hs ++ [v]) (ho ++ [.d x]) := by
  obtain ⟨f1, f2, a, b, nd, io⟩ := R.rep
  refine ⟨R.sub, ⟨f1, f2, a, ?_, nd, io⟩, R.keep, R.new, R.f0, R.pin⟩
  have := b.app (ORp.mkd (H := H) r)
  simpa using this
/-- a new object is made: all stands -/
theorem Rel.grow (R : Rel K S F σ H env hs ho) {p : Addr} {u : HO} (hp : H p = none) : Rel K S F σ (upd H p u) env hs ho := by
  obtain ⟨f1, f2, a, b, nd, io⟩ := R.rep
  have ne : ∀ x o, H x = some o → x ≠ p := fun x o e z => by rw [z, hp] at e; cases e
  have ne1 : ∀ x ∈ f1, upd H p u x = H x := fun x hx => by
    obtain ⟨_, o, e⟩ := a.fnone x hx
    exact upd_ne (ne x o e)
  have ne2 : ∀ x ∈ f2, upd H p u x = H x := fun x hx => by
    obtain ⟨_, o, e⟩ := b.fnone x hx
    exact upd_ne (ne x o e)
  refine ⟨fun x o e => ?_, ⟨f1, f2, a.change (Same.refl _) fun x hx => ⟨(a.fnone x hx).1, ne1 x hx⟩, b.change (Same.refl _) fun x hx => ⟨(b.fnone x hx).1, ne2 x hx⟩, nd, io⟩, fun x o e hi => ?_, R.new, R.f0, R.pin⟩
  · rw [upd_ne (ne x o (R.sub x o e))]; exact R.sub x o e
  · have := R.keep x o e hi
    rw [upd_ne (ne x o this)]; exact this
/-- a new frozen object -/
theorem Rel.growF (R : Rel K S F σ H env hs ho) {p : Addr} {u : HO} (hp : H p = none) : Rel K S (upd F p u) σ (upd H p u) env hs ho ∧ Same F (upd F p u) := by
  obtain ⟨f1, f2, a, b, nd, io⟩ := R.rep
  have fp0 : F p = none := R.sub.free hp
  have ne : ∀ x o, H x = some o → x ≠ p := fun x o e z => by rw [z, hp] at e; cases e
  have sF : Same F (upd F p u) := fun x o e => by rw [upd_ne (ne_of_none e fp0)]; exact e
  have ne1 : ∀ x ∈ f1, x ≠ p := fun x hx => by
    obtain ⟨_, o, e⟩ := a.fnone x hx
    exact ne x o e
  have ne2 : ∀ x ∈ f2, x ≠ p := fun x hx => by
    obtain ⟨_, o, e⟩ := b.fnone x hx
    exact ne x o e
  refine ⟨⟨fun x o e => ?_, ⟨f1, f2, a.change sF fun x hx => ⟨by rw [upd_ne (ne1 x hx)]; exact (a.fnone x hx).1, upd_ne (ne1 x hx)⟩, b.change sF fun x hx => ⟨by rw [upd_ne (ne2 x hx)]; exact (b.fnone x hx).1, upd_ne (ne2 x hx)⟩, nd, io⟩,
    fun x o e hi => ?_, fun x hx => ?_, R.f0.trans sF, R.pin⟩, sF⟩
  · by_cases hx : x = p
    · subst hx; rw [upd_same] at e ⊢; exact e
    · rw [upd_ne hx] at e ⊢; exact R.sub x o e
  · have := R.keep x o e hi
    rw [upd_ne (ne x o this)]; exact this
  · by_cases hxp : x = p
    · subst hxp
      rcases R.notin hp with h | h
      · exact .inr (.inr h)
      · exact .inr (.inl h)
    · rw [upd_ne hxp] at hx
      exact R.new x hx
/-- a new list whose items are held -/
theorem Rel.newL (R : Rel K S F σ H env (hs ++ ws) (ho ++ os)) (hl : hs.length = ho.length) {p : Addr} (hp : H p = none) : Rel K S F σ (upd H p (.lst ws)) env (hs ++ [.ref p]) (ho ++ [.l os]) := by
  have R1 := R.grow (u := .lst ws) hp
  obtain ⟨f1, f2, a, b, nd, io⟩ := R.rep
  have ne1 : ∀ x ∈ f1 ++ f2, x ≠ p := fun x hx z => by
    have q : ∃ o, H x = some o := (List.mem_append.mp hx).elim (fun h => (a.fnone x h).2) fun h => (b.fnone x h).2
    rw [z, hp] at q
    obtain ⟨_, q⟩ := q
    cases q
  obtain ⟨g1, g2, c, d, rfl⟩ := OReps.split hl b
  have np : p ∉ f1 ++ (g1 ++ g2) := fun h => ne1 p h rfl
  have k : ∀ x, x ≠ p → upd H p (.lst ws) x = H x := fun x hx => upd_ne hx
  refine ⟨R1.sub, ⟨f1, g1 ++ (p :: g2), a.change (Same.refl _) fun x hx => ⟨(a.fnone x hx).1, k x (ne1 x (List.mem_append_left _ hx))⟩, ?_, ?_, ?_⟩, R1.keep, R1.new, R1.f0, R1.pin⟩
  · refine (c.change (Same.refl _) fun x hx => ⟨(c.fnone x hx).1, k x (ne1 x (by simp [hx]))⟩).app ?_
    exact ORp.mkl (R.sub.free hp) upd_same (d.change (Same.refl _) fun x hx => ⟨(d.fnone x hx).1, k x (ne1 x (by simp [hx]))⟩)
  · have : (f1 ++ (g1 ++ p :: g2)).Perm (p :: (f1 ++ (g1 ++ g2))) := by
      rw [← List.append_assoc, ← List.append_assoc]
      exact List.perm_middle
    exact (this.nodup_iff).mpr (List.nodup_cons.mpr ⟨np, nd⟩)
  · intro x hx
    have : x = p ∨ x ∈ f1 ++ (g1 ++ g2) := by
      simp only [List.mem_append, List.mem_cons] at hx ⊢
      rcases hx with h | h | h | h <;> simp [h]
    rcases this with rfl | h
    · exact R.notin hp
    · exact io x h
end
end DL

set_option Elab.async false
set_option linter.all false
set_option autoImplicit false
set_option maxRecDepth 100000
/-! More of the relation: freezing, storing, changing an owned thing; the evaluator's monad; judgements. -/
namespace DL
open PySem PySem.Spec PyProof.Rows L2

section
variable {K : PySem.W.Frag} {S : Sx} {F F' H H' : Hp} {σ : L2.St} {env : DEnv} {hs ws : List V} {ho os : List OD}

theorem nodup_perm_app {a a' b : List Addr} (h : (a ++ b).Nodup) (p : a.Perm a') : (a' ++ b).Nodup := ((p.append_right b).nodup_iff).mp h
/-- the last held thing goes over to the frozen part -/
theorem Rel.freeze {v : V} {o : OD} (R : Rel K S F σ H env (hs ++ [v]) (ho ++ [o])) (hl : hs.length = ho.length) (hns : o.noS = true) :
    ∃ F', Same F F' ∧ Rel K S F' σ H env (hs ++ [v]) (ho ++ [.d o.erase]) := by
  obtain ⟨f1, f2, a, b, nd, io⟩ := R.rep
  obtain ⟨g1, g2, c, d, rfl⟩ := OReps.split hl b
  have fn : ∀ x ∈ g2, F x = none := fun x hx => (d.fnone x hx).1
  have sF := frz_same (H := H) fn
  have hd : ∀ x ∈ f1 ++ g1, x ∉ g2 := fun x hx h2 => by
    rw [← List.append_assoc] at nd
    exact (List.nodup_append.mp nd).2.2 x hx x h2 rfl
  have pk := d.peek sF (fun x hx => by unfold frz; rw [if_pos hx]) (by simpa [noSL] using hns)
  refine ⟨frz F H g2, sF, frz_sub R.sub, ⟨f1, g1, a.change sF fun x hx => ⟨frz_none (hd x (by simp [hx])) (a.fnone x hx).1, rfl⟩, ?_, ?_, fun x hx => io x ?_⟩, R.keep, fun x hx => ?_, R.f0.trans sF, R.pin⟩
  · have := (c.change sF fun x hx => ⟨frz_none (hd x (by simp [hx])) (c.fnone x hx).1, rfl⟩).app (ORp.mkd (H := H) (show Rp K (frz F H g2) v o.erase by simpa using pk))
    simpa using this
  · rw [← List.append_assoc] at nd
    exact (List.nodup_append.mp nd).1
  · rw [← List.append_assoc]; exact List.mem_append_left _ hx
  · by_cases h2 : x ∈ g2
    · rcases io x (by simp [h2]) with h | h
      · exact .inr (.inr h)
      · exact .inr (.inl h)
    · unfold frz at hx
      rw [if_neg h2] at hx
      exact R.new x hx
/-- a slot's thing goes over to the frozen part -/
theorem Rel.freezeSlot {i : Nat} {o : OD} (R : Rel K S F σ H env hs ho) (e : env[i]? = some (some o)) (hns : o.noS = true) :
    ∃ F' v, Same F F' ∧ σ[i]? = some (some v) ∧ Rp K F' v o.erase ∧ Rel K S F' σ H (env.set i (some (.d o.erase))) hs ho := by
  obtain ⟨f1, f2, a, b, nd, io⟩ := R.rep
  obtain ⟨v, fpi, rest, h1, h2, h3, h4⟩ := a.at e
  have nd' := nodup_perm_app nd h3
  have fn : ∀ x ∈ fpi, F x = none := fun x hx => (h2.fnone x hx).1
  have sF := frz_same (H := H) fn
  have hd : ∀ x ∈ rest ++ f2, x ∉ fpi := fun x hx q => by
    rw [List.append_assoc] at nd'
    exact (List.nodup_append.mp nd').2.2 x q x hx rfl
  have pk := h2.peek sF (fun x hx => by unfold frz; rw [if_pos hx]) (by simpa [noSL] using hns)
  have rp : Rp K (frz F H fpi) v o.erase := by simpa using pk
  have rst : ∀ x ∈ rest, frz F H fpi x = none ∧ H x = H x := fun x hx => ⟨frz_none (hd x (by simp [hx])) (a.fnone x (h3.mem_iff.mpr (by simp [hx]))).1, rfl⟩
  obtain ⟨fp', q1, q2⟩ := h4 (frz F H fpi) H v (.d o.erase) [] sF rst (ORp.mkd rp)
  have hσ : σ.set i (some v) = σ := List.ext_getElem? fun j => by
    rw [List.getElem?_set]
    by_cases hj : i = j
    · subst hj
      rw [if_pos rfl, h1]
      have := (List.getElem?_eq_some_iff.mp h1).1
      rw [if_pos this]
    · rw [if_neg hj]
  rw [hσ] at q1
  have q2 : fp'.Perm rest := by simpa using q2
  have nd2 : (rest ++ f2).Nodup := by
    rw [List.append_assoc] at nd'
    exact (List.nodup_append.mp nd').2.1
  refine ⟨frz F H fpi, v, sF, h1, rp, frz_sub R.sub, ⟨fp', f2, q1, b.change sF fun x hx => ⟨frz_none (hd x (by simp [hx])) (b.fnone x hx).1, rfl⟩, nodup_perm_app nd2 q2.symm, fun x hx => io x ?_⟩, R.keep, fun x hx => ?_, R.f0.trans sF, R.pin⟩
  · rcases List.mem_append.mp hx with h | h
    · exact List.mem_append_left _ (h3.mem_iff.mpr (List.mem_append_right _ (q2.mem_iff.mp h)))
    · exact List.mem_append_right _ h
  · by_cases h5 : x ∈ fpi
    · rcases io x (List.mem_append_left _ (h3.mem_iff.mpr (List.mem_append_left _ h5))) with h | h
      · exact .inr (.inr h)
      · exact .inr (.inl h)
    · unfold frz at hx
      rw [if_neg h5] at hx
      exact R.new x hx
/-- a slot's thing as it stands -/
theorem Rel.slot {i : Nat} {o : OD} (R : Rel K S F σ H env hs ho) (e : env[i]? = some (some o)) : ∃ v fp, σ[i]? = some (some v) ∧ ORp K F H v o fp := by
  obtain ⟨f1, f2, a, b, nd, io⟩ := R.rep
  obtain ⟨v, fpi, rest, h1, h2, h3, h4⟩ := a.at e
  exact ⟨v, fpi, h1, h2⟩
/-- the last held thing is stored into a slot -/
theorem Rel.store {v : V} {o : OD} {i : Nat} (R : Rel K S F σ H env (hs ++ [v]) (ho ++ [o])) (hl : hs.length = ho.length) (hi : i < σ.length) (hp : ∀ p ∈ S.pin, p.1 ≠ i) :
    Rel K S F (σ.set i (some v)) H (env.set i (some o)) hs ho := by
  obtain ⟨f1, f2, a, b, nd, io⟩ := R.rep
  obtain ⟨g1, g2, c, d, rfl⟩ := OReps.split hl b
  obtain ⟨rest, ⟨l, p1⟩, p2⟩ := a.put hi
  obtain ⟨fp', q1, q2⟩ := p2 v o g2 d
  have pm : (f1 ++ (g1 ++ g2)).Perm (l ++ ((g2 ++ rest) ++ g1)) := by
    refine (p1.append_right _).trans ?_
    rw [List.append_assoc]
    refine List.Perm.append_left l ?_
    have e1 : (rest ++ (g1 ++ g2)).Perm (rest ++ (g2 ++ g1)) := List.Perm.append_left rest List.perm_append_comm
    refine e1.trans ?_
    rw [← List.append_assoc]
    exact List.perm_append_comm.append_right g1
  have pm2 : (fp' ++ g1).Perm ((g2 ++ rest) ++ g1) := q2.append_right g1
  refine ⟨R.sub, ⟨fp', g1, q1, c, ?_, fun x hx => io x ?_⟩, R.keep, R.new, R.f0, fun p hp' => ?_⟩
  · exact (pm2.nodup_iff).mpr (List.nodup_append.mp ((pm.nodup_iff).mp nd)).2.1
  · exact pm.mem_iff.mpr (List.mem_append_right _ (pm2.mem_iff.mp hx))
  · rw [List.getElem?_set_ne (Ne.symm (hp p hp'))]
    exact R.pin p hp'
/-- the list in slot i is changed: its new items are (parts of) the old ones and held ones, all at fresh-or-own places -/
theorem Rel.mutL {i : Nat} {ps ps' : List OD} {v : V} {us : List V} {us' : List OD} (R : Rel K S F σ H env (hs ++ us) (ho ++ us')) (hl : hs.length = ho.length) (e : env[i]? = some (some (.l ps))) :
    ∃ a ws, σ[i]? = some (some (.ref a)) ∧ H a = some (.lst ws) ∧ ws.length = ps.length ∧
      ∀ (ws' : List V) (ps' : List OD), (∀ F2 H2 fp fq, OReps K F2 H2 ws ps fp → OReps K F2 H2 us us' fq → ∃ fr l, OReps K F2 H2 ws' ps' fr ∧ (fp ++ fq).Perm (l ++ fr)) →
        Rel K S F σ (upd H a (.lst ws')) (env.set i (some (.l ps'))) hs ho := by
  obtain ⟨f1, f2, a, b, nd, io⟩ := R.rep
  obtain ⟨g1, g2, c, d, rfl⟩ := OReps.split hl b
  obtain ⟨v, fpi, rest, h1, h2, h3, h4⟩ := a.at e
  obtain ⟨p, ws, fp1, rfl, hFp, hHp, hw, rfl⟩ := h2.l_inv
  refine ⟨p, ws, h1, hHp, hw.len, fun ws' ps' hch => ?_⟩
  have nd' := nodup_perm_app nd h3
  have nd0 : (p :: (fp1 ++ rest ++ (g1 ++ g2))).Nodup := by simpa [List.append_assoc] using nd'
  have np : ∀ x ∈ fp1 ++ rest ++ (g1 ++ g2), x ≠ p := fun x hx z => (List.nodup_cons.mp nd0).1 (z ▸ hx)
  have hu : ∀ x, x ≠ p → upd H p (.lst ws') x = H x := fun x hx => upd_ne hx
  have w2 := hw.change (F' := F) (H' := upd H p (.lst ws')) (Same.refl _) fun x hx => ⟨(hw.fnone x hx).1, hu x (np x (by simp [hx]))⟩
  have d2 := d.change (F' := F) (H' := upd H p (.lst ws')) (Same.refl _) fun x hx => ⟨(d.fnone x hx).1, hu x (np x (by simp [hx]))⟩
  obtain ⟨fr, l, r1, r2⟩ := hch F _ _ _ w2 d2
  have rst : ∀ x ∈ rest, F x = none ∧ upd H p (.lst ws') x = H x := fun x hx => ⟨(a.fnone x (h3.mem_iff.mpr (by simp [hx]))).1, hu x (np x (by simp [hx]))⟩
  obtain ⟨fp', q1, q2⟩ := h4 F (upd H p (.lst ws')) (.ref p) (.l ps') (p :: fr) (Same.refl _) rst (ORp.mkl hFp upd_same r1)
  have hσ : σ.set i (some (.ref p)) = σ := List.ext_getElem? fun j => by
    rw [List.getElem?_set]
    by_cases hj : i = j
    · subst hj
      rw [if_pos rfl, h1]
      have := (List.getElem?_eq_some_iff.mp h1).1
      rw [if_pos this]
    · rw [if_neg hj]
  rw [hσ] at q1
  have pm : (p :: (fp1 ++ rest ++ (g1 ++ g2))).Perm (l ++ (p :: fr ++ rest ++ g1)) := by
    have e1 : (fp1 ++ rest ++ (g1 ++ g2)).Perm ((fp1 ++ g2) ++ (rest ++ g1)) := by
      rw [List.append_assoc, List.append_assoc]
      refine List.Perm.append_left fp1 ?_
      have : (rest ++ (g1 ++ g2)).Perm (g2 ++ (rest ++ g1)) := by
        rw [← List.append_assoc]
        exact List.perm_append_comm
      exact this
    have e2 := e1.trans (r2.append_right (rest ++ g1))
    have e3 : (l ++ fr ++ (rest ++ g1)).Perm (l ++ (fr ++ rest ++ g1)) := by simp [List.append_assoc]
    refine ((e2.trans e3).cons p).trans ?_
    have : (p :: (l ++ (fr ++ rest ++ g1))).Perm (l ++ p :: (fr ++ rest ++ g1)) := List.perm_middle.symm
    simpa using this
  have pm2 : (fp' ++ g1).Perm (p :: fr ++ rest ++ g1) := q2.append_right g1
  refine ⟨fun x o hx => ?_, ⟨fp', g1, q1, c.change (Same.refl _) fun x hx => ⟨(c.fnone x hx).1, hu x (np x (by simp [hx]))⟩, ?_, fun x hx => io x ?_⟩, fun x o hx hi => ?_, R.new, R.f0, R.pin⟩
  · rw [hu x fun z => by rw [z, hFp] at hx; cases hx]
    exact R.sub x o hx
  · exact (pm2.nodup_iff).mpr (List.nodup_append.mp ((pm.nodup_iff).mp nd0)).2.1
  · have m1 := pm.mem_iff.mpr (List.mem_append_right l (pm2.mem_iff.mp hx))
    have : x ∈ f1 ++ (g1 ++ g2) := by
      rcases List.mem_cons.mp m1 with rfl | m1
      · exact List.mem_append_left _ (h3.mem_iff.mpr (by simp))
      · simp only [List.mem_append] at m1 ⊢
        rcases m1 with (m1 | m1) | m1 | m1
        · exact .inl (h3.mem_iff.mpr (by simp [m1]))
        · exact .inl (h3.mem_iff.mpr (by simp [m1]))
        · exact .inr (.inl m1)
        · exact .inr (.inr m1)
    exact this
  · have := R.keep x o hx hi
    by_cases hxp : x = p
    · subst hxp
      rcases io x (List.mem_append_left _ (h3.mem_iff.mpr (by simp))) with h | h
      · exact absurd h hi
      · rw [h] at hx; cases hx
    · rw [hu x hxp]; exact this
/-- the dict in slot i is changed -/
theorem Rel.mutD {i : Nat} {ks : List Key} {ps : List OD} {us : List V} {us' : List OD} (R : Rel K S F σ H env (hs ++ us) (ho ++ us')) (hl : hs.length = ho.length) (e : env[i]? = some (some (.m ks ps))) :
    ∃ a kvs, σ[i]? = some (some (.ref a)) ∧ H a = some (.dK kvs) ∧ kvs.map (·.1) = ks ∧ kvs.length = ps.length ∧
      ∀ (kvs' : List (Key × V)) (ps' : List OD), (∀ F2 H2 fp fq, OReps K F2 H2 (kvs.map (·.2)) ps fp → OReps K F2 H2 us us' fq → ∃ fr l, OReps K F2 H2 (kvs'.map (·.2)) ps' fr ∧ (fp ++ fq).Perm (l ++ fr)) →
        Rel K S F σ (upd H a (.dK kvs')) (env.set i (some (.m (kvs'.map (·.1)) ps'))) hs ho := by
  obtain ⟨f1, f2, a, b, nd, io⟩ := R.rep
  obtain ⟨g1, g2, c, d, rfl⟩ := OReps.split hl b
  obtain ⟨v, fpi, rest, h1, h2, h3, h4⟩ := a.at e
  obtain ⟨p, kvs, fp1, rfl, hFp, hHp, hk, hw, rfl⟩ := h2.m_inv
  refine ⟨p, kvs, h1, hHp, hk, by simpa using hw.len, fun kvs' ps' hch => ?_⟩
  have nd' := nodup_perm_app nd h3
  have nd0 : (p :: (fp1 ++ rest ++ (g1 ++ g2))).Nodup := by simpa [List.append_assoc] using nd'
  have np : ∀ x ∈ fp1 ++ rest ++ (g1 ++ g2), x ≠ p := fun x hx z => (List.nodup_cons.mp nd0).1 (z ▸ hx)
  have hu : ∀ x, x ≠ p → upd H p (.dK kvs') x = H x := fun x hx => upd_ne hx
  have w2 := hw.change (F' := F) (H' := upd H p (.dK kvs')) (Same.refl _) fun x hx => ⟨(hw.fnone x hx).1, hu x (np x (by simp [hx]))⟩
  have d2 := d.change (F' := F) (H' := upd H p (.dK kvs')) (Same.refl _) fun x hx => ⟨(d.fnone x hx).1, hu x (np x (by simp [hx]))⟩
  obtain ⟨fr, l, r1, r2⟩ := hch F _ _ _ w2 d2
  have rst : ∀ x ∈ rest, F x = none ∧ upd H p (.dK kvs') x = H x := fun x hx => ⟨(a.fnone x (h3.mem_iff.mpr (by simp [hx]))).1, hu x (np x (by simp [hx]))⟩
  obtain ⟨fp', q1, q2⟩ := h4 F (upd H p (.dK kvs')) (.ref p) (.m (kvs'.map (·.1)) ps') (p :: fr) (Same.refl _) rst (ORp.mkm hFp upd_same rfl r1)
  have hσ : σ.set i (some (.ref p)) = σ := List.ext_getElem? fun j => by
    rw [List.getElem?_set]
    by_cases hj : i = j
    · subst hj
      rw [if_pos rfl, h1]
      have := (List.getElem?_eq_some_iff.mp h1).1
      rw [if_pos this]
    · rw [if_neg hj]
  rw [hσ] at q1
  have pm : (p :: (fp1 ++ rest ++ (g1 ++ g2))).Perm (l ++ (p :: fr ++ rest ++ g1)) := by
    have e1 : (fp1 ++ rest ++ (g1 ++ g2)).Perm ((fp1 ++ g2) ++ (rest ++ g1)) := by
      rw [List.append_assoc, List.append_assoc]
      refine List.Perm.append_left fp1 ?_
      have : (rest ++ (g1 ++ g2)).Perm (g2 ++ (rest ++ g1)) := by
        rw [← List.append_assoc]
        exact List.perm_append_comm
      exact this
    have e2 := e1.trans (r2.append_right (rest ++ g1))
    have e3 : (l ++ fr ++ (rest ++ g1)).Perm (l ++ (fr ++ rest ++ g1)) := by simp [List.append_assoc]
    refine ((e2.trans e3).cons p).trans ?_
    have : (p :: (l ++ (fr ++ rest ++ g1))).Perm (l ++ p :: (fr ++ rest ++ g1)) := List.perm_middle.symm
    simpa using this
  have pm2 : (fp' ++ g1).Perm (p :: fr ++ rest ++ g1) := q2.append_right g1
  refine ⟨fun x o hx => ?_, ⟨fp', g1, q1, c.change (Same.refl _) fun x hx => ⟨(c.fnone x hx).1, hu x (np x (by simp [hx]))⟩, ?_, fun x hx => io x ?_⟩, fun x o hx hi => ?_, R.new, R.f0, R.pin⟩
  · rw [hu x fun z => by rw [z, hFp] at hx; cases hx]
    exact R.sub x o hx
  · exact (pm2.nodup_iff).mpr (List.nodup_append.mp ((pm.nodup_iff).mp nd0)).2.1
  · have m1 := pm.mem_iff.mpr (List.mem_append_right l (pm2.mem_iff.mp hx))
    have : x ∈ f1 ++ (g1 ++ g2) := by
      rcases List.mem_cons.mp m1 with rfl | m1
      · exact List.mem_append_left _ (h3.mem_iff.mpr (by simp))
      · simp only [List.mem_append] at m1 ⊢
        rcases m1 with (m1 | m1) | m1 | m1
        · exact .inl (h3.mem_iff.mpr (by simp [m1]))
        · exact .inl (h3.mem_iff.mpr (by simp [m1]))
        · exact .inr (.inl m1)
        · exact .inr (.inr m1)
    exact this
  · have := R.keep x o hx hi
    by_cases hxp : x = p
    · subst hxp
      rcases io x (List.mem_append_left _ (h3.mem_iff.mpr (by simp))) with h | h
      · exact absurd h hi
      · rw [h] at hx; cases hx
    · rw [hu x hxp]; exact this
end

/-! ### the evaluator's monad -/
/-- an exception: its class's name, what it holds -/
structure Xn where
  cls : Str
  fld : Option PyData
inductive Rs (α : Type) where
  | ok (a : α)
  | ex (x : Xn)
abbrev M (α : Type) := DEnv → Option (Rs α × DEnv)
def M.ret {α : Type} (a : α) : M α := fun e => some (.ok a, e)
def M.bind {α β : Type} (m : M α) (f : α → M β) : M β := fun e => match m e with
  | none => none
  | some (.ex x, e') => some (.ex x, e')
  | some (.ok a, e') => f a e'
def M.of {α : Type} (o : Option α) : M α := fun e => match o with
  | none => none
  | some a => some (.ok a, e)
def Mwp {α : Type} (r : Option (Rs α × DEnv)) (Qo : α → DEnv → Prop) (Qx : Xn → DEnv → Prop) : Prop := match r with
  | some (.ok a, e) => Qo a e
  | some (.ex x, e) => Qx x e
  | none => False
theorem Mwp.bind {α β : Type} {m : M α} {f : α → M β} {e : DEnv} {Qo : β → DEnv → Prop} {Qx : Xn → DEnv → Prop} (h : Mwp (M.bind m f e) Qo Qx) : Mwp (m e) (fun a e' => Mwp (f a e') Qo Qx) Qx := by
  unfold M.bind at h
  cases q : m e with
  | none => rw [q] at h; exact h.elim
  | some r =>
    obtain ⟨r, e'⟩ := r
    rw [q] at h
    cases r with
    | ok a => exact h
    | ex x => exact h
theorem Mwp.imp {α : Type} {r : Option (Rs α × DEnv)} {Qo Qo' : α → DEnv → Prop} {Qx Qx' : Xn → DEnv → Prop} (h : Mwp r Qo Qx) (ho : ∀ a e, r = some (.ok a, e) → Qo a e → Qo' a e) (hx : ∀ x e, r = some (.ex x, e) → Qx x e → Qx' x e) : Mwp r Qo' Qx' := by
  cases r with
  | none => exact h.elim
  | some r =>
    obtain ⟨r, e⟩ := r
    cases r with
    | ok a => exact ho a e rfl h
    | ex x => exact hx x e rfl h

/-! ### judgements -/
def WE (X : Cx) (e : Expr) : TE := fun σ H Q => ∀ (pins : List (Addr × Obj)) (s : Shared), Inv X pins σ H s → wpAny (model X.prog X.w) X.A (eval e X.env) (EP X pins σ Q) X.xe s
theorem pe_we (X : Cx) (e : Expr) : PE X e (WE X e) := ⟨fun pins s _ _ _ I h => h pins s I⟩
theorem WE.of {X : Cx} {e : Expr} {t : TE} {σ : L2.St} {H : Hp} {Q : VK} (h : PE X e t) (q : t σ H Q) : WE X e σ H Q := fun pins s I => h.run pins s σ H Q I q
def WA (X : Cx) (es : List Expr) : TA := fun σ H Q => ∀ (pos : Pos) (pins : List (Addr × Obj)) (s : Shared), Inv X pins σ H s → wpAny (model X.prog X.w) X.A (spliced (backTo pos (starEach es X.env))) (AP X pins σ Q) X.xe s
theorem pa_wa (X : Cx) (es : List Expr) : PA X es (WA X es) := ⟨fun pos pins s _ _ _ I h => h pos pins s I⟩
theorem WA.of {X : Cx} {es : List Expr} {t : TA} {σ : L2.St} {H : Hp} {Q : List V → Hp → Prop} (h : PA X es t) (q : t σ H Q) : WA X es σ H Q := fun pos pins s I => h.run pos pins s σ H Q I q
def WT (X : Cx) (e : Expr) : TT := fun σ H Q => ∀ (pins : List (Addr × Obj)) (s : Shared), Inv X pins σ H s → wpAny (model X.prog X.w) X.A (isTrue e X.env (eval e X.env)) (TP X pins σ Q) X.xe s
theorem pt_wt (X : Cx) (e : Expr) : PT X e (WT X e) := ⟨fun pins s _ _ _ I h => h pins s I⟩
theorem WT.of {X : Cx} {e : Expr} {t : TT} {σ : L2.St} {H : Hp} {Q : Bool → Hp → Prop} (h : PT X e t) (q : t σ H Q) : WT X e σ H Q := fun pins s I => h.run pins s σ H Q I q
def WS (X : Cx) (st : Stmt) : TS := fun D σ H => ∀ (pins : List (Addr × Obj)) (s : Shared), Inv X pins σ H s → wpAny (model X.prog X.w) X.A (exec st X.env) (SP X pins D) X.xe s
theorem ps_ws (X : Cx) (st : Stmt) : PS X st (WS X st) := ⟨fun pins s _ _ _ I h => h pins s I⟩
theorem WS.of {X : Cx} {st : Stmt} {t : TS} {σ : L2.St} {H : Hp} {D : Ends} (h : PS X st t) (q : t D σ H) : WS X st D σ H := fun pins s I => h.run pins s σ H D I q
def WB (X : Cx) (st : List Stmt) : TS := fun D σ H => ∀ (pins : List (Addr × Obj)) (s : Shared), Inv X pins σ H s → wpAny (model X.prog X.w) X.A (execs st X.env) (SP X pins D) X.xe s
theorem pss_wb (X : Cx) (st : List Stmt) : PSs X st (WB X st) := ⟨fun pins s _ _ _ I h => h pins s I⟩
theorem WB.of {X : Cx} {st : List Stmt} {t : TS} {σ : L2.St} {H : Hp} {D : Ends} (h : PSs X st t) (q : t D σ H) : WB X st D σ H := fun pins s I => h.run pins s σ H D I q

/-- how an exception of the evaluator stands -/
def XR (K : PySem.W.Frag) (mg : Str → Option Value) (F H : Hp) (x : Xn) (cls : Value) (d : Option Addr) : Prop :=
  mg x.cls = some cls ∧ match x.fld with
    | none => d = none
    | some y => ∃ dx f v, d = some dx ∧ H dx = some (.xd [(f, v)]) ∧ Rp K F v y
/-- what is to be shown when an exception comes out -/
def QX (X : Cx) (S : Sx) (W : WX) (F : Hp) (σ : L2.St) (hs : List V) (ho : List OD) : Xn → DEnv → Prop := fun x env' =>
  ∀ F' H' cls d, Same F F' → Rel X.K S F' σ H' env' hs ho → XR X.K X.mg F' H' x cls d → W cls d σ H'
theorem QX.mono {X : Cx} {S : Sx} {W : WX} {F F1 : Hp} {σ : L2.St} {hs ws : List V} {ho os : List OD} {x : Xn} {e : DEnv} (h : QX X S W F σ hs ho x e) (s : Same F F1) (hl : hs.length = ho.length) : QX X S W F1 σ (hs ++ ws) (ho ++ os) x e :=
  fun F' H' cls d s' R r => h F' H' cls d (s.trans s') (R.drop hl) r
/-- an expression and its evaluator -/
def DE (X : Cx) (S : Sx) (W : WX) (e : Expr) (m : M OD) : Prop :=
  ∀ (F : Hp) (σ : L2.St) (H : Hp) (env : DEnv) (hs : List V) (ho : List OD) (Q : VK), Rel X.K S F σ H env hs ho →
    Mwp (m env) (fun o env' => ∀ F' H' v, Same F F' → Rel X.K S F' σ H' env' (hs ++ [v]) (ho ++ [o]) → Q v H') (QX X S W F σ hs ho) → WE X e σ H Q

/-! ### operands -/
inductive HE where
  | o (x : OD)
  | al (i : Nat)
inductive Opd where
  /-- the thing in a slot, read when all operands have been asked -/
  | plc (i : Nat)
  /-- a value as it comes -/
  | own (m : M OD)
  /-- a value, frozen -/
  | val (m : M OD)
def Opd.go : Opd → M HE
  | .plc i => fun e => match e[i]? with
    | some (some _) => some (.ok (.al i), e)
    | _ => none
  | .own m => M.bind m fun o => M.ret (.o o)
  | .val m => M.bind m fun o => if o.noS then M.ret (.o (.d o.erase)) else fun _ => none
def HE.rd (e : DEnv) : HE → Option OD
  | .o x => some x
  | .al i => (e[i]?).join
def rds (e : DEnv) : List HE → Option (List OD)
  | [] => some []
  | h :: hs => match h.rd e with
    | none => none
    | some o => match rds e hs with
      | none => none
      | some os => some (o :: os)
def args : List Opd → M (List HE)
  | [] => M.ret []
  | q :: qs => M.bind q.go fun h => M.bind (args qs) fun hs => M.ret (h :: hs)
/-- a pure operation on operands -/
def prim (g : List OD → Option OD) (qs : List Opd) : M OD := M.bind (args qs) fun hes e => match rds e hes with
  | none => none
  | some os => match g os with
    | none => none
    | some o => some (.ok o, e)

/-- what an operand leaves: a held thing, or a slot's -/
def Left (K : PySem.W.Frag) (S : Sx) (F : Hp) (σ : L2.St) (H : Hp) (env : DEnv) (hs : List V) (ho : List OD) (v : V) : HE → Prop
  | .o x => Rel K S F σ H env (hs ++ [v]) (ho ++ [x])
  | .al i => σ[i]? = some (some v) ∧ Rel K S F σ H env hs ho
def DO (X : Cx) (S : Sx) (W : WX) (e : Expr) (q : Opd) : Prop :=
  ∀ (F : Hp) (σ : L2.St) (H : Hp) (env : DEnv) (hs : List V) (ho : List OD) (Q : VK), Rel X.K S F σ H env hs ho →
    Mwp (q.go env) (fun he env' => ∀ F' H' v, Same F F' → Left X.K S F' σ H' env' hs ho v he → Q v H') (QX X S W F σ hs ho) → WE X e σ H Q
inductive Mt (σ : L2.St) : List HE → List V → List V → List OD → Prop
  | nil : Mt σ [] [] [] []
  | o {x v hes vs hvs hos} : Mt σ hes vs hvs hos → Mt σ (.o x :: hes) (v :: vs) (v :: hvs) (x :: hos)
  | al {i v hes vs hvs hos} : σ[i]? = some (some v) → Mt σ hes vs hvs hos → Mt σ (.al i :: hes) (v :: vs) hvs hos
theorem Mt.hlen {σ : L2.St} {hes vs hvs hos} (h : Mt σ hes vs hvs hos) : hvs.length = hos.length := by
  induction h with
  | nil => rfl
  | o _ ih => simp [ih]
  | al _ _ ih => exact ih
/-- each operand, as it stands when all have been asked -/
inductive Rdb (K : PySem.W.Frag) (F H : Hp) : List V → List OD → Prop
  | nil : Rdb K F H [] []
  | cons {v o vs os fp} : ORp K F H v o fp → Rdb K F H vs os → Rdb K F H (v :: vs) (o :: os)
theorem Mt.rdb {K : PySem.W.Frag} {S : Sx} {F H : Hp} {σ : L2.St} {env : DEnv} : ∀ {hes vs hvs hos} {hs : List V} {ho os : List OD}, Mt σ hes vs hvs hos → Rel K S F σ H env (hs ++ hvs) (ho ++ hos) → hs.length = ho.length → rds env hes = some os → Rdb K F H vs os
  | [], _, _, _, _, _, _, .nil, R, hl, e => by
    simp only [rds, Option.some.injEq] at e
    subst e
    exact .nil
  | .o x :: hes, v :: vs, _, _, hs, ho, os, .o (hvs := hvs) (hos := hos) m, R, hl, e => by
    simp only [rds, HE.rd] at e
    cases q : rds env hes with
    | none => rw [q] at e; cases e
    | some os' =>
      rw [q] at e
      cases e
      obtain ⟨fp, r⟩ := R.heldReps hl
      obtain ⟨g1, g2, r1, r2, _⟩ := r.inv
      refine .cons r1 (Mt.rdb (hs := hs ++ [v]) (ho := ho ++ [x]) m (by simpa [List.append_assoc] using R) (by simp [hl]) q)
  | .al i :: hes, v :: vs, _, _, hs, ho, os, .al h m, R, hl, e => by
    simp only [rds, HE.rd] at e
    cases q0 : env[i]? with
    | none => rw [q0] at e; simp at e
    | some oo =>
      rw [q0] at e
      cases oo with
      | none => simp at e
      | some o =>
        simp only [Option.join_some] at e
        cases q : rds env hes with
        | none => rw [q] at e; cases e
        | some os' =>
          rw [q] at e
          cases e
          obtain ⟨v', fp, h1, h2⟩ := R.slot q0
          rw [h1] at h
          cases h
          exact .cons h2 (Mt.rdb m R hl q)
def DAs (X : Cx) (S : Sx) (W : WX) (es : List Expr) (qs : List Opd) : Prop :=
  ∀ (F : Hp) (σ : L2.St) (H : Hp) (env : DEnv) (hs : List V) (ho : List OD) (Q : List V → Hp → Prop), Rel X.K S F σ H env hs ho →
    Mwp (args qs env) (fun hes env' => ∀ F' H' vs hvs hos, Same F F' → Mt σ hes vs hvs hos → Rel X.K S F' σ H' env' (hs ++ hvs) (ho ++ hos) → Q vs H') (QX X S W F σ hs ho) → WA X es σ H Q
section
variable {X : Cx} {S : Sx} {W : WX}
theorem DAs.nil : DAs X S W [] [] := fun F σ H env hs ho Q R h => WA.of pa_nil (h F H [] [] [] (Same.refl _) .nil (by simpa using R))
theorem args_step {F : Hp} {σ : L2.St} {env : DEnv} {hs : List V} {ho : List OD} {q : Opd} {qs : List Opd} {Q : List V → Hp → Prop} (hl : hs.length = ho.length)
    (h : Mwp (args (q :: qs) env) (fun hes env' => ∀ F' H' vs hvs hos, Same F F' → Mt σ hes vs hvs hos → Rel X.K S F' σ H' env' (hs ++ hvs) (ho ++ hos) → Q vs H') (QX X S W F σ hs ho)) :
    Mwp (q.go env) (fun he env1 => ∀ F1 H1 v, Same F F1 → Left X.K S F1 σ H1 env1 hs ho v he → ∃ hs1 ho1, Rel X.K S F1 σ H1 env1 hs1 ho1 ∧
      Mwp (args qs env1) (fun hes env' => ∀ F' H' vs hvs hos, Same F1 F' → Mt σ hes vs hvs hos → Rel X.K S F' σ H' env' (hs1 ++ hvs) (ho1 ++ hos) → Q (v :: vs) H') (QX X S W F1 σ hs1 ho1)) (QX X S W F σ hs ho) := by
  refine (Mwp.bind h).imp (fun he env1 _ h1 F1 H1 v s1 L => ?_) fun _ _ _ x => x
  have h2 := Mwp.bind h1
  cases he with
  | o x =>
    refine ⟨hs ++ [v], ho ++ [x], L, h2.imp (fun hes env' _ h3 F' H' vs hvs hos s' mt R => ?_) fun x e _ hx => QX.mono hx s1 hl⟩
    exact h3 F' H' (v :: vs) (v :: hvs) (x :: hos) (s1.trans s') (.o mt) (by simpa [List.append_assoc] using R)
  | al i =>
    obtain ⟨hv, L⟩ := L
    refine ⟨hs, ho, L, h2.imp (fun hes env' _ h3 F' H' vs hvs hos s' mt R => ?_) fun x e _ hx => ?_⟩
    · exact h3 F' H' (v :: vs) hvs hos (s1.trans s') (.al hv mt) R
    · have := QX.mono (ws := []) (os := []) hx s1 hl
      simpa using this
theorem DAs.cons {e : Expr} {es : List Expr} {q : Opd} {qs : List Opd} (h1 : DO X S W e q) (h2 : DAs X S W es qs) (hst : starEach (e :: es) X.env = (false, eval e X.env) :: starEach es X.env := by rfl) : DAs X S W (e :: es) (q :: qs) := by
  intro F σ H env hs ho Q R h
  refine WA.of (pa_cons (pe_we X e) (pa_wa X es) hst) ?_
  refine h1 F σ H env hs ho _ R ((args_step R.hlen h).imp (fun he env1 _ k F1 H1 v s1 L => ?_) fun _ _ _ x => x)
  obtain ⟨hs1, ho1, R1, k⟩ := k F1 H1 v s1 L
  exact h2 F1 σ H1 env1 hs1 ho1 _ R1 k
/-- two expressions, one after the other -/
theorem DA2 {a b : Expr} {qa qb : Opd} (h1 : DO X S W a qa) (h2 : DO X S W b qb) {F : Hp} {σ : L2.St} {H : Hp} {env : DEnv} {hs : List V} {ho : List OD} {Q : V → V → Hp → Prop} (R : Rel X.K S F σ H env hs ho)
    (h : Mwp (args [qa, qb] env) (fun hes env' => ∀ F' H' x y hvs hos, Same F F' → Mt σ hes [x, y] hvs hos → Rel X.K S F' σ H' env' (hs ++ hvs) (ho ++ hos) → Q x y H') (QX X S W F σ hs ho)) :
    WE X a σ H fun x H1 => WE X b σ H1 fun y H2 => Q x y H2 := by
  have h := h.imp (Qo' := fun hes env' => ∀ F' H' vs hvs hos, Same F F' → Mt σ hes vs hvs hos → Rel X.K S F' σ H' env' (hs ++ hvs) (ho ++ hos) → (match vs with | [x, y] => Q x y H' | _ => True)) (fun hes e' _ k F' H' vs hvs hos s mt R' => by
    match vs, mt with
    | [x, y], mt => exact k F' H' x y hvs hos s mt R'
    | [], _ => trivial
    | [_], _ => trivial
    | _ :: _ :: _ :: _, _ => trivial) fun _ _ _ x => x
  refine h1 F σ H env hs ho _ R ((args_step R.hlen h).imp (fun he env1 _ k F1 H1 v s1 L => ?_) fun _ _ _ x => x)
  obtain ⟨hs1, ho1, R1, k⟩ := k F1 H1 v s1 L
  refine h2 F1 σ H1 env1 hs1 ho1 _ R1 ((args_step R1.hlen k).imp (fun he env2 _ k F2 H2 w s2 L => ?_) fun _ _ _ x => x)
  obtain ⟨hs2, ho2, R2, k⟩ := k F2 H2 w s2 L
  have := k F2 H2 [] [] [] (Same.refl _) .nil (by simpa using R2)
  exact this
/-- one -/
theorem DA1 {a : Expr} {qa : Opd} (h1 : DO X S W a qa) {F : Hp} {σ : L2.St} {H : Hp} {env : DEnv} {hs : List V} {ho : List OD} {Q : V → Hp → Prop} (R : Rel X.K S F σ H env hs ho)
    (h : Mwp (args [qa] env) (fun hes env' => ∀ F' H' x hvs hos, Same F F' → Mt σ hes [x] hvs hos → Rel X.K S F' σ H' env' (hs ++ hvs) (ho ++ hos) → Q x H') (QX X S W F σ hs ho)) :
    WE X a σ H Q := by
  have h := h.imp (Qo' := fun hes env' => ∀ F' H' vs hvs hos, Same F F' → Mt σ hes vs hvs hos → Rel X.K S F' σ H' env' (hs ++ hvs) (ho ++ hos) → (match vs with | [x] => Q x H' | _ => True)) (fun hes e' _ k F' H' vs hvs hos s mt R' => by
    match vs, mt with
    | [x], mt => exact k F' H' x hvs hos s mt R'
    | [], _ => trivial
    | _ :: _ :: _, _ => trivial) fun _ _ _ x => x
  refine h1 F σ H env hs ho _ R ((args_step R.hlen h).imp (fun he env1 _ k F1 H1 v s1 L => ?_) fun _ _ _ x => x)
  obtain ⟨hs1, ho1, R1, k⟩ := k F1 H1 v s1 L
  have := k F1 H1 [] [] [] (Same.refl _) .nil (by simpa using R1)
  exact this

/-! ### names, constants -/
def mVar (i : Nat) : M OD := fun e => match e[i]? with
  | some (some o) => if o.noS then some (.ok (.d o.erase), e.set i (some (.d o.erase))) else none
  | _ => none
theorem de_var {i : Nat} {x : Str} {pos : Pos} (hN : X.N[i]? = some x := by rfl) (hv : Vis X.env.scope x := by first | exact Or.inl rfl | exact Or.inr (Or.inl rfl) | exact Or.inr (Or.inr rfl)) (hd : (x == ("__debug__" : Str)) = false := by decide)
    (hcd : (x == ("__classdict__" : Str)) = false := by decide) : DE X S W (.Name x pos) (mVar i) := by
  intro F σ H env hs ho Q R h
  unfold mVar at h
  cases q : env[i]? with
  | none => rw [q] at h; exact h.elim
  | some oo =>
    cases oo with
    | none => rw [q] at h; exact h.elim
    | some o =>
      rw [q] at h
      have hn : o.noS = true := by
        cases hn : o.noS with
        | true => rfl
        | false =>
          simp only [hn] at h
          exact h.elim
      simp only [hn, if_true] at h
      obtain ⟨F', v, s, h1, h2, R'⟩ := R.freezeSlot q hn
      exact WE.of (pe_var hN hv hd hcd) ⟨v, h1, h F' H v s (R'.push h2)⟩
theorem do_plc {i : Nat} {x : Str} {pos : Pos} (hN : X.N[i]? = some x := by rfl) (hv : Vis X.env.scope x := by first | exact Or.inl rfl | exact Or.inr (Or.inl rfl) | exact Or.inr (Or.inr rfl)) (hd : (x == ("__debug__" : Str)) = false := by decide)
    (hcd : (x == ("__classdict__" : Str)) = false := by decide) : DO X S W (.Name x pos) (.plc i) := by
  intro F σ H env hs ho Q R h
  simp only [Opd.go] at h
  cases q : env[i]? with
  | none => simp only [q] at h; exact h.elim
  | some oo =>
    cases oo with
    | none => simp only [q] at h; exact h.elim
    | some o =>
      simp only [q] at h
      obtain ⟨v, fp, h1, h2⟩ := R.slot q
      exact WE.of (pe_var hN hv hd hcd) ⟨v, h1, h F H v (Same.refl _) ⟨h1, R⟩⟩
theorem do_own {e : Expr} {m : M OD} (h : DE X S W e m) : DO X S W e (.own m) := by
  intro F σ H env hs ho Q R hq
  refine h F σ H env hs ho Q R ((Mwp.bind hq).imp (fun o env' _ k F' H' v s R' => ?_) fun _ _ _ x => x)
  exact k F' H' v s R'
theorem do_val {e : Expr} {m : M OD} (h : DE X S W e m) : DO X S W e (.val m) := by
  intro F σ H env hs ho Q R hq
  refine h F σ H env hs ho Q R ((Mwp.bind hq).imp (fun o env' _ k F' H' v s R' => ?_) fun _ _ _ x => x)
  have hn : o.noS = true := by
    cases hn : o.noS with
    | true => rfl
    | false =>
      simp only [hn] at k
      exact k.elim
  simp only [hn, if_true] at k
  obtain ⟨F2, s2, R2⟩ := R'.freeze R.hlen hn
  exact k F2 H' v (s.trans s2) R2
def mC (x : PyData) : M OD := M.ret (.d x)
theorem de_int {i j pos} : DE X S W (.Constant (.int i) j pos) (mC (.int i)) := fun F σ H env hs ho Q R h => WE.of pe_int (h F H _ (Same.refl _) (R.push (.int i .nil)))
theorem de_bl {b j pos} : DE X S W (.Constant (.bool b) j pos) (mC (.bool b)) := fun F σ H env hs ho Q R h => WE.of pe_bl (h F H _ (Same.refl _) (R.push (.bl b .nil)))
theorem de_non {j pos} : DE X S W (.Constant .none j pos) (mC .none) := fun F σ H env hs ho Q R h => WE.of pe_non (h F H _ (Same.refl _) (R.push (.non .nil)))
theorem de_str {x : Str} {j pos} (hx : x.length ≤ sizeLine := by decide) : DE X S W (.Constant (.str x) j pos) (mC (.str x)) := fun F σ H env hs ho Q R h => WE.of pe_str (h F H _ (Same.refl _) (R.push (.str x hx .nil)))
theorem de_globI {x : Str} {i : Int} {t : Tok} {pos : Pos} (hm : X.mg x = some (.int i t)) (hg : Gl X x := by rfl) (hd : (x == ("__debug__" : Str)) = false := by decide) : DE X S W (.Name x pos) (mC (.int i)) := fun F σ H env hs ho Q R h =>
  WE.of (pe_glob hg hm (v := .int i) ⟨t, rfl⟩ hd) (h F H _ (Same.refl _) (R.push (.int i .nil)))
theorem de_globS {x y : Str} {t : Tok} {pos : Pos} (hm : X.mg x = some (.str y t)) (hg : Gl X x := by rfl) (hy : y.length ≤ sizeLine := by decide) (hd : (x == ("__debug__" : Str)) = false := by decide) : DE X S W (.Name x pos) (mC (.str y)) := fun F σ H env hs ho Q R h =>
  WE.of (pe_glob hg hm (v := .str y) ⟨t, rfl⟩ hd) (h F H _ (Same.refl _) (R.push (.str y hy .nil)))
end
end DL

set_option Elab.async false
set_option linter.all false
set_option autoImplicit false
set_option maxRecDepth 100000
/-! Operations on operands: what each gives on data, and that it does so. -/
namespace DL
open PySem PySem.Spec PyProof.Rows L2

/-! ### from the layer's values to the heap's data -/
section
variable {X : Cx} {pins : List (Addr × Obj)} {σ : L2.St} {H : Hp} {s : Shared}
theorem pairs_read {kvs : List (Key × V)} {vs : List (Key × Value)} : ∀ {es : List DictEntry}, KV kvs vs → Pairs (mixKind X.prog X.w) es vs →
    es.length = kvs.length ∧ ReadsAll s.heap (es.map (·.key)) (kvs.map fun p => keyD p.1) [] ∧ Vals (kvs.map (·.2)) (es.map (·.val)) := by
  intro es hk
  induction hk generalizing es with
  | nil =>
    intro hp
    cases hp
    exact ⟨rfl, .nil, .nil⟩
  | @cons p q ps qs r t ih =>
    intro hp
    cases hp with
    | @cons e kv es' kvs' h1 h2 h3 =>
      obtain ⟨a, b, c⟩ := ih h3
      refine ⟨by simp [a], ?_, .cons (by show RelV p.2 e.val; rw [h2]; exact r.2) c⟩
      have hi : keyIs q.1 e.key = true := h1
      rw [← r.1] at hi
      rcases keyIs_shape hi with ⟨i, tk, e1, e2⟩ | ⟨x, tk, e1, e2⟩
      · refine ReadsAll.cons (d := keyD p.1) (as := []) (bs := []) ?_ b
        rw [e1]
        show Reads s.heap e.key (keyD (Sum.inl i)) []
        rw [e2]
        exact .int i tk
      · refine ReadsAll.cons (d := keyD p.1) (as := []) (bs := []) ?_ b
        rw [e1]
        show Reads s.heap e.key (keyD (Sum.inr x)) []
        rw [e2]
        exact .str x tk
theorem zip_fst {α β : Type} : ∀ {l : List α} {m : List β}, l.length = m.length → (l.zip m).map (·.1) = l
  | [], [], _ => rfl
  | [], _ :: _, h => by simp at h
  | _ :: _, [], h => by simp at h
  | a :: l, b :: m, h => by simp [zip_fst (l := l) (m := m) (by simpa using h)]
theorem zip_snd {α β : Type} : ∀ {l : List α} {m : List β}, l.length = m.length → (l.zip m).map (·.2) = m
  | [], [], _ => rfl
  | [], _ :: _, h => by simp at h
  | _ :: _, [], h => by simp at h
  | a :: l, b :: m, h => by simp [zip_snd (l := l) (m := m) (by simpa using h)]
theorem not_mods (hm : ∃ o, X.base.get? sysModules = some o) (I : Inv X pins σ H s) {a : Addr} {u : HO} (h : Rd H a u) : a ≠ sysModules := fun e => by
  obtain ⟨o, ho⟩ := hm
  have n := (I.bs _ _ ho).2
  rw [e] at h
  rcases h with h | ⟨_, h⟩ <;> (rw [n] at h; cases h)
theorem Reps.reads (hm : ∃ o, X.base.get? sysModules = some o) (I : Inv X pins σ H s) {vs ds} (h : Reps X.K H vs ds) : ∀ us, Vals vs us → ∃ as, ReadsAll s.heap us ds as ∧ sysModules ∉ as := by
  induction h with
  | nil => intro us r; cases r; exact ⟨_, .nil, by simp⟩
  | non _ ih =>
    intro us r
    cases r with
    | cons r1 r2 =>
      cases r1
      obtain ⟨as, q, n⟩ := ih _ r2
      exact ⟨_, .cons .none q, by simpa using n⟩
  | bl b _ ih =>
    intro us r
    cases r with
    | cons r1 r2 =>
      cases r1
      obtain ⟨as, q, n⟩ := ih _ r2
      exact ⟨_, .cons (.bool b) q, by simpa using n⟩
  | int i _ ih =>
    intro us r
    cases r with
    | cons r1 r2 =>
      obtain ⟨t, rfl⟩ := r1
      obtain ⟨as, q, n⟩ := ih _ r2
      exact ⟨_, .cons (.int i t) q, by simpa using n⟩
  | str x _ _ ih =>
    intro us r
    cases r with
    | cons r1 r2 =>
      obtain ⟨t, rfl⟩ := r1
      obtain ⟨as, q, n⟩ := ih _ r2
      exact ⟨_, .cons (.str x t) q, by simpa using n⟩
  | @lst a ws xs vs ds h1 h2 _ ih1 ih2 =>
    intro us r
    cases r with
    | cons r1 r2 =>
      cases r1
      obtain ⟨its, rv, ⟨o, n, ho, hc, _, hd⟩, _⟩ := I.list (.inl (.inl h1))
      obtain ⟨as, q, n1⟩ := ih1 _ rv
      obtain ⟨bs, q', n2⟩ := ih2 _ r2
      have na := not_mods hm I (.inl h1)
      exact ⟨_, .cons (.list ho hc hd q) q', by simp [n1, n2, na.symm]⟩
  | tup h1 h2 _ ih1 ih2 =>
    intro us r
    cases r with
    | cons r1 r2 =>
      cases r1
      obtain ⟨its, rv, ⟨o, ho, hc, n, hd⟩, _⟩ := I.tuple h1
      obtain ⟨as, q, n1⟩ := ih1 _ rv
      obtain ⟨bs, q', n2⟩ := ih2 _ r2
      exact ⟨_, .cons (.tuple ho hc hd q) q', by simp [n1, n2]⟩
  | @dic a kvs ks xs vs ds h1 h2 h3 _ ih1 ih2 =>
    intro us r
    cases r with
    | cons r1 r2 =>
      cases r1
      subst h2
      obtain ⟨z, hs, ws, rel, o, es, ep, ho, hex, hd, _, hp, _⟩ := dk_rd I.hok h1
      obtain ⟨a1, a2, a3⟩ := pairs_read (X := X) (s := s) rel hp
      obtain ⟨bs, q, n1⟩ := ih1 _ a3
      obtain ⟨cs, q', n2⟩ := ih2 _ r2
      have hl : ((kvs.map (·.1)).map keyD).length = xs.length := by have := h3.len; simpa using this
      refine ⟨_, .cons (.dict ho hex.1 hd (as := []) (bs := bs) ?_ ?_) q', ?_⟩
      · rw [zip_fst hl, List.map_map]
        exact a2
      · rw [zip_snd hl]
        exact q
      · have na := not_mods hm I h1
        simp [na.symm, n1, n2]
end
end DL

set_option Elab.async false
set_option linter.all false
set_option autoImplicit false
set_option maxRecDepth 100000
/-! Operations on operands: specs. -/
namespace DL
open PySem PySem.Spec PyProof.Rows L2

/-- what every context here has -/
structure Ok1 (X : Cx) : Prop where
  calm : X.calm = true
  nd : X.N.Nodup
  grd : X.A.guards = some []
  sysm : ∃ o, X.base.get? sysModules = some o
  un : X.A.units + 100 < cLine

/-- readable at once: what stands within is frozen -/
inductive Sh (K : PySem.W.Frag) (F H : Hp) : V → PyData → Prop
  | d {v x} : Rp K F v x → Sh K F H v x
  | l {a ws xs} : H a = some (.lst ws) → Reps K F ws xs → Sh K F H (.ref a) (.list xs)
  | m {a : Addr} {kvs : List (Key × V)} {xs : List PyData} : H a = some (.dK kvs) → Reps K F (kvs.map (·.2)) xs → Sh K F H (.ref a) (.dict (((kvs.map (·.1)).map keyD).zip xs))
section
variable {K : PySem.W.Frag} {F H : Hp} {v : V}
theorem ORp.sh {o : OD} {fp : List Addr} (h : ORp K F H v o fp) (hs : o.shallow = true) : Sh K F H v o.erase := by
  cases o with
  | d x => exact .d (by simpa [OD.erase] using h.d_inv.2)
  | l os =>
    obtain ⟨a, ws, fp1, rfl, _, h2, h3, _⟩ := h.l_inv
    rw [OD.erase, eraseL_map]
    exact .l h2 (h3.toReps (by simpa [OD.shallow] using hs)).2
  | m ks os =>
    obtain ⟨a, kvs, fp1, rfl, _, h2, rfl, h3, _⟩ := h.m_inv
    rw [OD.erase, eraseL_map]
    exact .m h2 (h3.toReps (by simpa [OD.shallow] using hs)).2
  | s ns => simp [OD.shallow] at hs
theorem Sh.int {i} (h : Sh K F H v (.int i)) : v = .int i := by cases h with | d h => exact h.int_inv
theorem Sh.bool {b} (h : Sh K F H v (.bool b)) : v = .bl b := by cases h with | d h => exact h.bool_inv
theorem Sh.none (h : Sh K F H v .none) : v = .non := by cases h with | d h => exact h.none_inv
theorem Sh.str {x} (h : Sh K F H v (.str x)) : v = .str x ∧ x.length ≤ sizeLine := by cases h with | d h => exact h.str_inv
theorem Sh.list {xs} (h : Sh K F H v (.list xs)) (e : Same F H) : ∃ a ws, v = .ref a ∧ H a = some (.lst ws) ∧ Reps K F ws xs := by
  cases h with
  | d h =>
    obtain ⟨a, ws, e1, e2, e3⟩ := h.list_inv
    exact ⟨a, ws, e1, e _ _ e2, e3⟩
  | l h1 h2 => exact ⟨_, _, rfl, h1, h2⟩
theorem Sh.tuple {xs} (h : Sh K F H v (.tuple xs)) (e : Same F H) : ∃ a ws, v = .ref a ∧ SqT K H a ws ∧ SqT K F a ws ∧ Reps K F ws xs := by
  cases h with
  | d h =>
    obtain ⟨a, ws, e1, e2, e3⟩ := h.tuple_inv
    exact ⟨a, ws, e1, DL.Same.sqt e e2, e2, e3⟩
theorem Sh.dict {kds} (h : Sh K F H v (.dict kds)) (e : Same F H) : ∃ a kvs xs, v = .ref a ∧ Rd H a (.dK kvs) ∧ kds = ((kvs.map (·.1)).map keyD).zip xs ∧ Reps K F (kvs.map (·.2)) xs := by
  cases h with
  | d h =>
    obtain ⟨a, kvs, xs, e1, e2, e3, e4⟩ := h.dict_inv
    exact ⟨a, kvs, xs, e1, DL.Same.rd e e2, e3, e4⟩
  | m h1 h2 => exact ⟨_, _, _, rfl, .inl h1, rfl, h2⟩
theorem Sh.deep {d} (h : Sh K F H v d) (e : Same F H) : Rp K H v d := by
  cases h with
  | d h => exact h.mono e
  | l h1 h2 => exact .lst h1 (h2.mono e) .nil
  | m h1 h2 => exact .dic (.inl h1) rfl (h2.mono e) .nil
theorem ORp.deep {o : OD} {fp : List Addr} (h : ORp K F H v o fp) (e : Same F H) (hs : o.noS = true) : Rp K H v o.erase := by
  have := h.peek e (fun _ _ => rfl) (by simpa [noSL] using hs)
  simpa using this
end

/-! ### what an operation gives -/
abbrev Cont (K : PySem.W.Frag) (S : Sx) (F : Hp) (σ : L2.St) (env : DEnv) (hs : List V) (ho : List OD) (o : OD) (Q : VK) : Prop :=
  ∀ F' H' v, Same F F' → Rel K S F' σ H' env (hs ++ [v]) (ho ++ [o]) → Q v H'
section
variable {K : PySem.W.Frag} {S : Sx} {F H : Hp} {σ : L2.St} {env : DEnv} {hs : List V} {ho : List OD} {Q : VK}
theorem fin_d (R : Rel K S F σ H env hs ho) {v : V} {x : PyData} (k : Cont K S F σ env hs ho (.d x) Q) (r : Rp K F v x) : Q v H := k F H v (Same.refl _) (R.push r)
theorem Rel.pushs : ∀ {ws : List V} {xs : List PyData} {hs ho}, Rel K S F σ H env hs ho → Reps K F ws xs → Rel K S F σ H env (hs ++ ws) (ho ++ xs.map .d)
  | [], [], _, _, R, _ => by simpa using R
  | [], _ :: _, _, _, _, h => nomatch h
  | _ :: _, [], _, _, _, h => nomatch h
  | w :: ws, x :: xs, hs, ho, R, h => by
    have := Rel.pushs (R.push h.inv.1) h.inv.2
    simpa [List.append_assoc] using this
theorem fin_l (R : Rel K S F σ H env hs ho) {p : Addr} {ws : List V} {xs : List PyData} (k : Cont K S F σ env hs ho (.l (xs.map .d)) Q) (r : Reps K F ws xs) (hp : H p = none) : Q (.ref p) (upd H p (.lst ws)) :=
  k F _ _ (Same.refl _) ((R.pushs r).newL R.hlen hp)
theorem fin_t (R : Rel K S F σ H env hs ho) {p : Addr} {ws : List V} {xs : List PyData} (k : Cont K S F σ env hs ho (.d (.tuple xs)) Q) (r : Reps K F ws xs) (hp : H p = none) : Q (.ref p) (upd H p (.tup ws)) := by
  obtain ⟨R', s⟩ := R.growF (u := .tup ws) hp
  exact k _ _ _ s (R'.push (.tup (.inl (.inl upd_same)) (r.mono s) .nil))
end
def OSpec (X : Cx) (S : Sx) (r : List V → Hp → VK → Prop) (g : List OD → Option OD) : Prop :=
  ∀ (F : Hp) (σ : L2.St) (H : Hp) (env : DEnv) (hs : List V) (ho : List OD) (vs : List V) (os : List OD) (o : OD) (Q : VK), Rel X.K S F σ H env hs ho → Rdb X.K F H vs os → g os = some o →
    Cont X.K S F σ env hs ho o Q → r vs H Q
def rr2 (r : R2) : List V → Hp → VK → Prop := fun vs H Q => match vs with
  | [x, y] => r x y H Q
  | _ => False
def rr1 (r : V → Hp → VK → Prop) : List V → Hp → VK → Prop := fun vs H Q => match vs with
  | [x] => r x H Q
  | _ => False
def sh1 (f : PyData → Option OD) : List OD → Option OD
  | [a] => if a.shallow then f a.erase else none
  | _ => none
def sh2 (f : PyData → PyData → Option OD) : List OD → Option OD
  | [a, b] => if a.shallow && b.shallow then f a.erase b.erase else none
  | _ => none
/-- read through: nothing of the operands is kept -/
def dp1 (f : PyData → Option OD) : List OD → Option OD
  | [a] => if a.noS then f a.erase else none
  | _ => none
def dp2 (f : PyData → PyData → Option OD) : List OD → Option OD
  | [a, b] => if a.noS && b.noS then f a.erase b.erase else none
  | _ => none
section
variable {X : Cx} {S : Sx}
theorem os_sh2 {r : R2} {f : PyData → PyData → Option OD} (h : ∀ F σ H env hs ho x y d e o Q, Rel X.K S F σ H env hs ho → Sh X.K F H x d → Sh X.K F H y e → f d e = some o → Cont X.K S F σ env hs ho o Q → r x y H Q) : OSpec X S (rr2 r) (sh2 f) := by
  intro F σ H env hs ho vs os o Q R rd e k
  cases rd with
  | nil => cases e
  | cons r1 rd =>
    cases rd with
    | nil => cases e
    | cons r2 rd =>
      cases rd with
      | cons r3 rd => cases e
      | nil =>
        rename_i x1 o1 fp1 x2 o2 fp2
        unfold sh2 at e
        cases h1 : (o1.shallow && o2.shallow) with
        | false => simp [h1] at e
        | true =>
          simp only [h1, if_true] at e
          rw [Bool.and_eq_true] at h1
          exact h F σ H env hs ho _ _ _ _ o Q R (r1.sh h1.1) (r2.sh h1.2) e k
theorem os_dp2 {r : R2} {f : PyData → PyData → Option OD} (h : ∀ F σ H env hs ho x y d e o Q, Rel X.K S F σ H env hs ho → Rp X.K H x d → Rp X.K H y e → f d e = some o → Cont X.K S F σ env hs ho o Q → r x y H Q) : OSpec X S (rr2 r) (dp2 f) := by
  intro F σ H env hs ho vs os o Q R rd e k
  cases rd with
  | nil => cases e
  | cons r1 rd =>
    cases rd with
    | nil => cases e
    | cons r2 rd =>
      cases rd with
      | cons r3 rd => cases e
      | nil =>
        rename_i x1 o1 fp1 x2 o2 fp2
        unfold dp2 at e
        cases h1 : (o1.noS && o2.noS) with
        | false => simp [h1] at e
        | true =>
          simp only [h1, if_true] at e
          rw [Bool.and_eq_true] at h1
          exact h F σ H env hs ho _ _ _ _ o Q R (r1.deep R.sub h1.1) (r2.deep R.sub h1.2) e k
theorem os_sh1 {r : V → Hp → VK → Prop} {f : PyData → Option OD} (h : ∀ F σ H env hs ho x d o Q, Rel X.K S F σ H env hs ho → Sh X.K F H x d → f d = some o → Cont X.K S F σ env hs ho o Q → r x H Q) : OSpec X S (rr1 r) (sh1 f) := by
  intro F σ H env hs ho vs os o Q R rd e k
  cases rd with
  | nil => cases e
  | cons r1 rd =>
    cases rd with
    | cons r2 rd => cases e
    | nil =>
      rename_i x1 o1 fp1
      unfold sh1 at e
      cases h1 : o1.shallow with
      | false => simp [h1] at e
      | true =>
        simp only [h1, if_true] at e
        exact h F σ H env hs ho _ _ o Q R (r1.sh h1) e k
theorem os_dp1 {r : V → Hp → VK → Prop} {f : PyData → Option OD} (h : ∀ F σ H env hs ho x d o Q, Rel X.K S F σ H env hs ho → Rp X.K H x d → f d = some o → Cont X.K S F σ env hs ho o Q → r x H Q) : OSpec X S (rr1 r) (dp1 f) := by
  intro F σ H env hs ho vs os o Q R rd e k
  cases rd with
  | nil => cases e
  | cons r1 rd =>
    cases rd with
    | cons r2 rd => cases e
    | nil =>
      rename_i x1 o1 fp1
      unfold dp1 at e
      cases h1 : o1.noS with
      | false => simp [h1] at e
      | true =>
        simp only [h1, if_true] at e
        exact h F σ H env hs ho _ _ o Q R (r1.deep R.sub h1) e k

/-! ### arithmetic -/
def gAdd : PyData → PyData → Option OD
  | .int i, .int j => some (.d (.int (i + j)))
  | .str x, .str y => if x.length + y.length ≤ sizeLine then some (.d (.str (x ++ y))) else none
  | .list xs, .list ys => if xs.length + ys.length ≤ sizeLine then some (.l ((xs ++ ys).map .d)) else none
  | .tuple xs, .tuple ys => if xs.length + ys.length ≤ sizeLine then some (.d (.tuple (xs ++ ys))) else none
  | _, _ => none
def rAddI : R2 := rI0 fun i j => .int (i + j)
def rAddS : R2 := fun x y H Q => ∃ i j, x = .str i ∧ y = .str j ∧ i.length + j.length ≤ sizeLine ∧ Q (.str (i ++ j)) H
def rAddAll (K : PySem.W.Frag) : R2 := fun x y H Q => rAddI x y H Q ∨ rAddS x y H Q ∨ rCat x y H Q ∨ rCatA K x y H Q
theorem op_addAll : OpR X (binaryOp .Add) (rAddAll X.K) := op_add.or (op_add_str.or (op_cat.or op_catA))
theorem str_app_len (x y : Str) : (x ++ y).length = x.length + y.length := by
  show (x.cps ++ y.cps).size = _
  rw [Array.size_append] <;> rfl
theorem os_add : OSpec X S (rr2 (rAddAll X.K)) (sh2 gAdd) := os_sh2 fun F σ H env hs ho x y d e o Q R h1 h2 hf k => by
  unfold gAdd at hf
  split at hf
  · cases hf
    rw [h1.int, h2.int]
    exact .inl ⟨_, _, rfl, rfl, fin_d R k (.int _ .nil)⟩
  · split at hf
    · rename_i hz
      cases hf
      obtain ⟨rfl, _⟩ := h1.str
      obtain ⟨rfl, _⟩ := h2.str
      exact .inr (.inl ⟨_, _, rfl, rfl, hz, fin_d R k (.str _ (by rw [str_app_len]; exact hz) .nil)⟩)
    · cases hf
  · split at hf
    · rename_i hz
      cases hf
      obtain ⟨a, ws, rfl, e1, e2⟩ := h1.list R.sub
      obtain ⟨b, us, rfl, e3, e4⟩ := h2.list R.sub
      exact .inr (.inr (.inl ⟨_, _, _, _, rfl, rfl, e1, e3, by rw [e2.len, e4.len]; exact hz, fun p hp => fin_l R k (e2.append e4) hp⟩))
    · cases hf
  · rename_i xs ys
    split at hf
    · rename_i hz
      cases hf
      obtain ⟨a, ws, rfl, e1, e1', e2⟩ := h1.tuple R.sub
      obtain ⟨b, us, rfl, e3, e3', e4⟩ := h2.tuple R.sub
      refine .inr (.inr (.inr ⟨_, _, _, _, rfl, rfl, e1, e3, by rw [e2.len, e4.len]; exact hz, fun z => ?_, fun z1 z2 => ?_, fun _ _ p hp => fin_t R k (e2.append e4) hp⟩))
      · subst z
        have z0 : xs = [] := List.eq_nil_of_length_eq_zero e2.len.symm
        subst z0
        exact fin_d R (by simpa using k) (.tup e3' e4 .nil)
      · subst z2
        have z0 : ys = [] := List.eq_nil_of_length_eq_zero e4.len.symm
        subst z0
        exact fin_d R (by simpa using k) (.tup e1' e2 .nil)
    · cases hf
  · cases hf
def gSub : PyData → PyData → Option OD
  | .int i, .int j => some (.d (.int (i - j)))
  | _, _ => none
theorem os_sub : OSpec X S (rr2 (rI0 fun i j => .int (i - j))) (sh2 gSub) := os_sh2 fun F σ H env hs ho x y d e o Q R h1 h2 hf k => by
  unfold gSub at hf
  split at hf
  · cases hf
    rw [h1.int, h2.int]
    exact ⟨_, _, rfl, rfl, fin_d R k (.int _ .nil)⟩
  · cases hf
end
end DL

set_option Elab.async false
set_option linter.all false
set_option autoImplicit false
set_option maxRecDepth 100000
/-! Operations on operands: more specs. -/
namespace DL
open PySem PySem.Spec PyProof.Rows L2
section
variable {X : Cx} {S : Sx}

def mulOk (i j : Int) : Bool := decide (i.natAbs < 2 ^ 64) || decide (j.natAbs < 2 ^ 64) || decide (i.natAbs.log2 + j.natAbs.log2 < 1000000)
/-- a text so many times -/
def strRep (x : Str) (n : Int) : Str := if n < 1 then Str.empty else if (n == 1 || x.length == 0) = true then x else ⟨(List.replicate n.toNat x.cps).foldl (· ++ ·) #[]⟩
def gMul : PyData → PyData → Option OD
  | .int i, .int j => if mulOk i j then some (.d (.int (i * j))) else none
  | .str x, .int n => if x.length * n.toNat ≤ 1000000 ∧ n ≤ 1000000 ∧ -1000000 ≤ n ∧ (strRep x n).length ≤ sizeLine then some (.d (.str (strRep x n))) else none
  | .list xs, .int n => if xs.length * n.toNat ≤ sizeLine ∧ n ≤ 1000000 ∧ -1000000 ≤ n then some (.l ((List.replicate n.toNat xs).flatten.map .d)) else none
  | .tuple xs, .int n => if xs.length ≤ 1000 ∧ n ≤ 1000 ∧ 2 ≤ n ∧ 1 ≤ xs.length then some (.d (.tuple (List.replicate n.toNat xs).flatten)) else none
  | _, _ => none
theorem op_mulS : OpR X (binaryOp .Mult) (fun x y H Q => ∃ z n, x = .str z ∧ y = .int n ∧ z.length * n.toNat ≤ 1000000 ∧ n ≤ 1000000 ∧ -1000000 ≤ n ∧ (strRep z n).length ≤ sizeLine ∧ Q (.str (strRep z n)) H) := by
  intro pins s σ H x y v u Q I rx ry h
  obtain ⟨z, n, rfl, rfl, h1, h2, h3, h4, q⟩ := h
  obtain ⟨t, rfl⟩ := rx
  obtain ⟨t', rfl⟩ := ry
  refine PySem.P.mul_str (by rw [decide_eq_false (by omega), decide_eq_false (by omega)]; rfl) (fun a b => ?_) (fun a b => ?_) ?_
  · intro c
    have hn : (0 : Int) < n := by omega
    have : (2 ^ 63 - 1 : Int) / n < (z.length : Int) := c
    have e := (Int.ediv_lt_iff_lt_mul hn).mp this
    have e2 : (z.length : Int) * n = ((z.length * n.toNat : Nat) : Int) := by
      rw [Int.natCast_mul, Int.toNat_of_nonneg (by omega)]
    omega
  · show Builtin.Str.tooLong (z.length * n.toNat) = false
    unfold Builtin.Str.tooLong
    rw [sizeLine_eq]
    exact decide_eq_false (by omega)
  · unfold strRep at q h4
    split
    · rename_i c
      rw [if_pos c] at q h4
      exact ⟨h4, .str _, H, I.tok _, ⟨_, rfl⟩, q⟩
    · rename_i c
      rw [if_neg c] at q h4
      split
      · rename_i c2
        rw [if_pos c2] at q h4
        exact ⟨.str _, H, I, ⟨_, rfl⟩, q⟩
      · rename_i c2
        rw [if_neg c2] at q h4
        exact ⟨h4, .str _, H, I.tok _, ⟨_, rfl⟩, q⟩
theorem Reps.flat {K : PySem.W.Frag} {F : Hp} {ws : List V} {xs : List PyData} (h : Reps K F ws xs) : ∀ n : Nat, Reps K F (List.replicate n ws).flatten (List.replicate n xs).flatten
  | 0 => .nil
  | n + 1 => by
    rw [List.replicate_succ, List.replicate_succ, List.flatten_cons, List.flatten_cons]
    exact h.append (Reps.flat h n)
def rMulAll (K : PySem.W.Frag) : R2 := fun x y H Q => (rI CMul fun i j => .int (i * j)) x y H Q ∨ (rI CMulW fun i j => .int (i * j)) x y H Q ∨
  (∃ z n, x = .str z ∧ y = .int n ∧ z.length * n.toNat ≤ 1000000 ∧ n ≤ 1000000 ∧ -1000000 ≤ n ∧ (strRep z n).length ≤ sizeLine ∧ Q (.str (strRep z n)) H) ∨ rRep x y H Q ∨ rRepT K x y H Q
theorem op_mulAll : OpR X (binaryOp .Mult) (rMulAll X.K) := op_mul.or (op_mulW.or (op_mulS.or (op_rep.or op_repT)))
theorem os_mul : OSpec X S (rr2 (rMulAll X.K)) (sh2 gMul) := os_sh2 fun F σ H env hs ho x y d e o Q R h1 h2 hf k => by
  unfold gMul at hf
  split at hf
  · rename_i i j
    split at hf
    · rename_i hm
      cases hf
      rw [h1.int, h2.int]
      have q := fin_d (H := H) R k (v := .int (i * j)) (.int _ .nil)
      unfold mulOk at hm
      simp only [Bool.or_eq_true, decide_eq_true_eq] at hm
      rcases hm with (hm | hm) | hm
      · exact .inl ⟨_, _, rfl, rfl, .inl ⟨by omega, by omega⟩, q⟩
      · exact .inl ⟨_, _, rfl, rfl, .inr ⟨by omega, by omega⟩, q⟩
      · exact .inr (.inl ⟨_, _, rfl, rfl, hm, q⟩)
    · cases hf
  · split at hf
    · rename_i hm
      cases hf
      obtain ⟨a1, a2, a3, a4⟩ := hm
      rw [h1.str.1, h2.int]
      exact .inr (.inr (.inl ⟨_, _, rfl, rfl, a1, a2, a3, a4, fin_d R k (.str _ a4 .nil)⟩))
    · cases hf
  · split at hf
    · rename_i hm
      cases hf
      obtain ⟨a1, a2, a3⟩ := hm
      obtain ⟨a, ws, rfl, e1, e2⟩ := h1.list R.sub
      rw [h2.int]
      exact .inr (.inr (.inr (.inl ⟨_, _, _, rfl, rfl, e1, by omega, by omega, by rw [e2.len]; exact a1, fun p hp => fin_l R k (e2.flat _) hp⟩)))
    · cases hf
  · split at hf
    · rename_i hm
      cases hf
      obtain ⟨a1, a2, a3, a4⟩ := hm
      obtain ⟨a, ws, rfl, e1, e1', e2⟩ := h1.tuple R.sub
      rw [h2.int]
      have hl := e2.len
      exact .inr (.inr (.inr (.inr ⟨_, _, _, rfl, rfl, e1, fun z => by rw [z] at hl; simp at hl; omega, by omega, by omega, by omega, fun p hp => fin_t R k (e2.flat _) hp⟩)))
    · cases hf
  · cases hf
def gMod : PyData → PyData → Option OD
  | .int i, .int j => if 0 < j then some (.d (.int (i % j))) else none
  | _, _ => none
theorem os_mod : OSpec X S (rr2 (rI (fun _ j => 0 < j) fun i j => .int (i % j))) (sh2 gMod) := os_sh2 fun F σ H env hs ho x y d e o Q R h1 h2 hf k => by
  unfold gMod at hf
  split at hf
  · split at hf
    · rename_i hm
      cases hf
      rw [h1.int, h2.int]
      exact ⟨_, _, rfl, rfl, hm, fin_d R k (.int _ .nil)⟩
    · cases hf
  · cases hf
def gFdiv : PyData → PyData → Option OD
  | .int i, .int j => if 0 < j ∧ j.natAbs.log2 < 9000 then some (.d (.int (i / j))) else none
  | _, _ => none
theorem os_fdiv : OSpec X S (rr2 (rI CDivW fun i j => .int (i / j))) (sh2 gFdiv) := os_sh2 fun F σ H env hs ho x y d e o Q R h1 h2 hf k => by
  unfold gFdiv at hf
  split at hf
  · split at hf
    · rename_i hm
      cases hf
      rw [h1.int, h2.int]
      exact ⟨_, _, rfl, rfl, hm, fin_d R k (.int _ .nil)⟩
    · cases hf
  · cases hf
def gPow : PyData → PyData → Option OD
  | .int i, .int j => if 0 ≤ j ∧ j ≤ 100 ∧ i.natAbs < 2 ^ 1000 then some (.d (.int (i ^ j.toNat))) else none
  | _, _ => none
def CPowW (i j : Int) : Prop := 0 ≤ j ∧ j ≤ 100 ∧ i.natAbs < 2 ^ 1000
theorem op_powW : OpR X (binaryOp .Pow) (rI CPowW fun i j => .int (i ^ j.toNat)) := opI fun i j _ _ _ _ _ hc q => by
  obtain ⟨h1, h2, h3⟩ := hc
  refine pow_int h1 ?_ q
  have hb : Builtin.Int.intBits i ≤ 1000 := by
    unfold Builtin.Int.intBits
    split
    · omega
    · rename_i hz
      have hn : i.natAbs ≠ 0 := fun z => hz (by simp [Int.natAbs_eq_zero.mp z])
      have := (Nat.log2_lt hn).mpr h3
      omega
  have h4 : ((Builtin.Int.intBits i : Nat) : Int) * j ≤ 1000 * 100 := Int.mul_le_mul (by omega) h2 h1 (by omega)
  exact Int.le_trans h4 (by decide)
theorem os_pow : OSpec X S (rr2 (rI CPowW fun i j => .int (i ^ j.toNat))) (sh2 gPow) := os_sh2 fun F σ H env hs ho x y d e o Q R h1 h2 hf k => by
  unfold gPow at hf
  split at hf
  · split at hf
    · rename_i hm
      cases hf
      rw [h1.int, h2.int]
      exact ⟨_, _, rfl, rfl, hm, fin_d R k (.int _ .nil)⟩
    · cases hf
  · cases hf

/-! ### comparisons -/
def fewDeep (d e : PyData) : Bool := d.plain && e.plain && decide (min d.depth e.depth ≤ 64)
theorem rp_reads (O : Ok1 X) {pins : List (Addr × Obj)} {σ : L2.St} {H : Hp} {s : Shared} (I : Inv X pins σ H s) {v : V} {u : Value} {d : PyData} (h : Rp X.K H v d) (r : RelV v u) : ∃ as, Reads s.heap u d as ∧ sysModules ∉ as := by
  obtain ⟨as, q, n⟩ := Reps.reads O.sysm I h [u] (.cons r .nil)
  cases q with
  | cons q1 q2 =>
    cases q2
    exact ⟨_, q1, by simpa using n⟩
def rEqP (K : PySem.W.Frag) (neg : Bool) : R2 := fun x y H Q => ∃ d e, Rp K H x d ∧ Rp K H y e ∧ fewDeep d e = true ∧ Q (.bl (if neg then !PyData.eqv d e else PyData.eqv d e)) H
theorem op_eqP (O : Ok1 X) : OpR X (compareOp .Eq) (rEqP X.K false) := by
  intro pins s σ H x y v u Q I rx ry h
  obtain ⟨d, e, hd, he, hf, q⟩ := h
  obtain ⟨as, r1, _⟩ := rp_reads O I hd rx
  obtain ⟨bs, r2, _⟩ := rp_reads O I he ry
  unfold fewDeep at hf
  simp only [Bool.and_eq_true, decide_eq_true_eq] at hf
  obtain ⟨⟨h1, h2⟩, h3⟩ := hf
  exact SeqAt.eq_plain r1 r2 h1 h2 (by have := O.un; omega) ⟨.bl _, H, I, rfl, q⟩
theorem op_neP (O : Ok1 X) : OpR X (compareOp .NotEq) (rEqP X.K true) := by
  intro pins s σ H x y v u Q I rx ry h
  obtain ⟨d, e, hd, he, hf, q⟩ := h
  obtain ⟨as, r1, _⟩ := rp_reads O I hd rx
  obtain ⟨bs, r2, _⟩ := rp_reads O I he ry
  unfold fewDeep at hf
  simp only [Bool.and_eq_true, decide_eq_true_eq] at hf
  obtain ⟨⟨h1, h2⟩, h3⟩ := hf
  exact SeqAt.ne_plain r1 r2 h1 h2 (by have := O.un; omega) ⟨.bl _, H, I, rfl, q⟩
def gEq (d e : PyData) : Option OD := if fewDeep d e then some (.d (.bool (PyData.eqv d e))) else none
def gNe (d e : PyData) : Option OD := if fewDeep d e then some (.d (.bool (!PyData.eqv d e))) else none
theorem os_eq : OSpec X S (rr2 (rEqP X.K false)) (dp2 gEq) := os_dp2 fun F σ H env hs ho x y d e o Q R h1 h2 hf k => by
  unfold gEq at hf
  split at hf
  · rename_i hm
    cases hf
    exact ⟨_, _, h1, h2, hm, fin_d R k (.bl _ .nil)⟩
  · cases hf
theorem os_ne : OSpec X S (rr2 (rEqP X.K true)) (dp2 gNe) := os_dp2 fun F σ H env hs ho x y d e o Q R h1 h2 hf k => by
  unfold gNe at hf
  split at hf
  · rename_i hm
    cases hf
    exact ⟨_, _, h1, h2, hm, fin_d R k (.bl _ .nil)⟩
  · cases hf
/-- the order of ints, of texts -/
def gOrd (p : Int → Int → Bool) (q : Str → Str → Bool) : PyData → PyData → Option OD
  | .int i, .int j => some (.d (.bool (p i j)))
  | .str i, .str j => some (.d (.bool (q i j)))
  | _, _ => none
def strLt (x y : Str) : Bool := decide (x.cps.toList < y.cps.toList)
def gLt := gOrd (fun i j => decide (i < j)) strLt
def gLe := gOrd (fun i j => decide (i ≤ j)) fun x y => !strLt y x
def gGt := gOrd (fun i j => decide (j < i)) fun x y => strLt y x
def gGe := gOrd (fun i j => decide (j ≤ i)) fun x y => !strLt x y
def rOrd (p : Int → Int → Bool) (q : Str → Str → Bool) : R2 := fun x y H Q => (rI0 fun i j => .bl (p i j)) x y H Q ∨ (∃ i j, x = .str i ∧ y = .str j ∧ Q (.bl (q i j)) H)
theorem os_ord (p : Int → Int → Bool) (q : Str → Str → Bool) : OSpec X S (rr2 (rOrd p q)) (sh2 (gOrd p q)) := os_sh2 fun F σ H env hs ho x y d e o Q R h1 h2 hf k => by
  unfold gOrd at hf
  split at hf
  · cases hf
    rw [h1.int, h2.int]
    exact .inl ⟨_, _, rfl, rfl, fin_d R k (.bl _ .nil)⟩
  · cases hf
    rw [h1.str.1, h2.str.1]
    exact .inr ⟨_, _, rfl, rfl, fin_d R k (.bl _ .nil)⟩
  · cases hf
theorem op_ltA : OpR X (compareOp .Lt) (rOrd (fun i j => decide (i < j)) strLt) := op_lt.or op_lt_str
theorem op_leA : OpR X (compareOp .LtE) (rOrd (fun i j => decide (i ≤ j)) fun x y => !strLt y x) := op_le.or op_le_str
theorem op_gtA : OpR X (compareOp .Gt) (rOrd (fun i j => decide (j < i)) fun x y => strLt y x) := op_gt.or op_gt_str
theorem op_geA : OpR X (compareOp .GtE) (rOrd (fun i j => decide (j ≤ i)) fun x y => !strLt x y) := op_ge.or op_ge_str
/-- in, not in -/
def strIn (x y : Str) : Bool := !(Builtin.Str.occurrences y x 0 y.length 1).isEmpty
def keyOf? : PyData → Option Key
  | .int i => some (.inl i)
  | .str x => some (.inr x)
  | _ => none
def gInB (neg : Bool) (d e : PyData) : Option OD := match e with
  | .str y => match d with
    | .str x => some (.d (.bool (if neg then !strIn x y else strIn x y)))
    | _ => none
  | .list ys => if PyData.plainAll ys && d.plain && decide (min (PyData.depthAll ys) d.depth ≤ 60) then some (.d (.bool (if neg then !ys.any (fun y => PyData.eqv y d) else ys.any fun y => PyData.eqv y d))) else none
  | .tuple ys => if PyData.plainAll ys && d.plain && decide (min (PyData.depthAll ys) d.depth ≤ 60) then some (.d (.bool (if neg then !ys.any (fun y => PyData.eqv y d) else ys.any fun y => PyData.eqv y d))) else none
  | _ => none
def rInP (K : PySem.W.Frag) (neg : Bool) : R2 := fun x y H Q => (∃ i j, x = .str i ∧ y = .str j ∧ Q (.bl (if neg then !strIn i j else strIn i j)) H) ∨
  ∃ d ys, Rp K H x d ∧ (Rp K H y (.list ys) ∨ Rp K H y (.tuple ys)) ∧ PyData.plainAll ys = true ∧ d.plain = true ∧ min (PyData.depthAll ys) d.depth ≤ 60 ∧ Q (.bl (if neg then !ys.any (fun y => PyData.eqv y d) else ys.any fun y => PyData.eqv y d)) H
theorem op_inP (O : Ok1 X) : OpR X (compareOp .In) (rInP X.K false) := by
  intro pins s σ H x y v u Q I rx ry h
  rcases h with h | ⟨d, ys, hd, hy, h1, h2, h3, q⟩
  · exact op_in_str pins s σ H x y v u Q I rx ry h
  · obtain ⟨as, r1, _⟩ := rp_reads O I hd rx
    rcases hy with hy | hy
    · obtain ⟨bs, r2, _⟩ := rp_reads O I hy ry
      exact SeqAt.in_list_data r2 r1 h1 h2 (by have := O.un; omega) ⟨.bl _, H, I, rfl, q⟩
    · obtain ⟨bs, r2, _⟩ := rp_reads O I hy ry
      exact SeqAt.in_tuple_data r2 r1 h1 h2 (by have := O.un; omega) ⟨.bl _, H, I, rfl, q⟩
theorem op_notInP (O : Ok1 X) : OpR X (compareOp .NotIn) (rInP X.K true) := by
  intro pins s σ H x y v u Q I rx ry h
  rcases h with h | ⟨d, ys, hd, hy, h1, h2, h3, q⟩
  · exact op_notin_str pins s σ H x y v u Q I rx ry h
  · obtain ⟨as, r1, _⟩ := rp_reads O I hd rx
    rcases hy with hy | hy
    · obtain ⟨bs, r2, _⟩ := rp_reads O I hy ry
      exact SeqAt.notIn_list_data r2 r1 h1 h2 (by have := O.un; omega) ⟨.bl _, H, I, rfl, q⟩
    · obtain ⟨bs, r2, _⟩ := rp_reads O I hy ry
      exact SeqAt.notIn_tuple_data r2 r1 h1 h2 (by have := O.un; omega) ⟨.bl _, H, I, rfl, q⟩
theorem os_in (neg : Bool) : OSpec X S (rr2 (rInP X.K neg)) (dp2 (gInB neg)) := os_dp2 fun F σ H env hs ho x y d e o Q R h1 h2 hf k => by
  unfold gInB at hf
  split at hf
  · split at hf
    · cases hf
      rw [(Rp.str_inv h1).1, (Rp.str_inv h2).1]
      exact .inl ⟨_, _, rfl, rfl, fin_d R k (.bl _ .nil)⟩
    · cases hf
  · split at hf
    · rename_i hm
      cases hf
      simp only [Bool.and_eq_true, decide_eq_true_eq] at hm
      obtain ⟨⟨a1, a2⟩, a3⟩ := hm
      exact .inr ⟨_, _, h1, .inl h2, a1, a2, a3, fin_d R k (.bl _ .nil)⟩
    · cases hf
  · split at hf
    · rename_i hm
      cases hf
      simp only [Bool.and_eq_true, decide_eq_true_eq] at hm
      obtain ⟨⟨a1, a2⟩, a3⟩ := hm
      exact .inr ⟨_, _, h1, .inr h2, a1, a2, a3, fin_d R k (.bl _ .nil)⟩
    · cases hf
  · cases hf
end
end DL

set_option Elab.async false
set_option linter.all false
set_option autoImplicit false
set_option maxRecDepth 100000
/-! Expressions: the rules. -/
namespace DL
open PySem PySem.Spec PyProof.Rows L2
section
variable {X : Cx} {S : Sx} {W : WX} {a b c : Expr} {qa qb qc : Opd} {pos : Pos}

/-- the end of a pure operation -/
theorem prim_fin {F F' H' : Hp} {σ : L2.St} {env' : DEnv} {hs hvs : List V} {ho hos : List OD} {hes : List HE} {vs : List V} {r : List V → Hp → VK → Prop} {g : List OD → Option OD} {Q : VK} (sp : OSpec X S r g)
    (hl : hs.length = ho.length) (s : Same F F') (mt : Mt σ hes vs hvs hos) (R : Rel X.K S F' σ H' env' (hs ++ hvs) (ho ++ hos))
    (h : Mwp ((match rds env' hes with
      | none => none
      | some os => match g os with
        | none => none
        | some o => some (Rs.ok o, env') : Option (Rs OD × DEnv))) (fun o env' => ∀ F' H' v, Same F F' → Rel X.K S F' σ H' env' (hs ++ [v]) (ho ++ [o]) → Q v H') (QX X S W F σ hs ho)) : r vs H' Q := by
  cases e : rds env' hes with
  | none => rw [e] at h; exact h.elim
  | some os =>
    rw [e] at h
    simp only at h
    cases e2 : g os with
    | none => rw [e2] at h; exact h.elim
    | some o =>
      rw [e2] at h
      exact sp F' σ H' env' hs ho vs os o Q (R.drop hl) (mt.rdb R hl e) e2 fun F2 H2 v s2 R2 => h F2 H2 v (s.trans s2) R2
theorem de_op2 {op : Operator} {r : R2} {g : List OD → Option OD} (ho : OpR X (binaryOp op) r) (sp : OSpec X S (rr2 r) g) (h1 : DO X S W a qa) (h2 : DO X S W b qb) : DE X S W (.BinOp a op b pos) (prim g [qa, qb]) := by
  intro F σ H env hs hos Q R h
  refine WE.of (pe_op ho (pe_we X a) (pe_we X b)) (DA2 h1 h2 R ((Mwp.bind h).imp (fun hes env' _ k F' H' x y hvs hos' s mt R' => ?_) fun _ _ _ x => x))
  exact prim_fin sp R.hlen s mt R' k
theorem de_cmp {op : CmpOp} {r : R2} {g : List OD → Option OD} (ho : OpR X (compareOp op) r) (sp : OSpec X S (rr2 r) g) (h1 : DO X S W a qa) (h2 : DO X S W b qb) (hm : behindInMarks op b = false := by rfl) : DE X S W (.Compare a [op] [b] pos) (prim g [qa, qb]) := by
  intro F σ H env hs hos Q R h
  refine WE.of (pe_cmpR ho (pe_we X a) (pe_we X b) hm) (DA2 h1 h2 R ((Mwp.bind h).imp (fun hes env' _ k F' H' x y hvs hos' s mt R' => ?_) fun _ _ _ x => x))
  exact prim_fin sp R.hlen s mt R' k
theorem de_ix {r : R2} {g : List OD → Option OD} (ho : IxR X r) (sp : OSpec X S (rr2 r) g) (h1 : DO X S W a qa) (h2 : DO X S W b qb) (hp : PlainIx b := by intro _ _; rfl) : DE X S W (.Subscript a b pos) (prim g [qa, qb]) := by
  intro F σ H env hs hos Q R h
  refine WE.of (pe_ix ho (pe_we X a) (pe_we X b) hp) (DA2 h1 h2 R ((Mwp.bind h).imp (fun hes env' _ k F' H' x y hvs hos' s mt R' => ?_) fun _ _ _ x => x))
  exact prim_fin sp R.hlen s mt R' k
theorem de_callB {x : Str} {id : String} {p : Pos} {e : Expr} {es : List Expr} {qs : List Opd} {r : List V → Hp → VK → Prop} {g : List OD → Option OD} (hc : CallR X (.builtin id) r) (sp : OSpec X S r g) (ha : DAs X S W (e :: es) qs)
    (hm : X.mg x = none) (hv : bootBuiltins x = some (.builtin id)) (hg : Gl X x := by rfl) (hn : x ≠ "__name__" := by decide) (hdb : (x == ("__debug__" : Str)) = false := by decide)
    (he : starEach (e :: es) X.env = (false, eval e X.env) :: starEach es X.env := by rfl) (hpl : (backTo pos (starEach es X.env)).any (·.1) = false := by rfl) : DE X S W (.Call (.Name x p) (e :: es) [] pos) (prim g qs) := by
  intro F σ H env hs hos Q R h
  refine WE.of (pe_callB hc hg hm hv (pa_wa X _) hn hdb he hpl) (ha F σ H env hs hos _ R ((Mwp.bind h).imp (fun hes env' _ k F' H' vs hvs hos' s mt R' => ?_) fun _ _ _ x => x))
  exact prim_fin sp R.hlen s mt R' k
theorem de_callTy {x : Str} {T : String} {p : Pos} {e : Expr} {es : List Expr} {qs : List Opd} {r : List V → Hp → VK → Prop} {g : List OD → Option OD} (hc : CallR X (.type T) r) (sp : OSpec X S r g) (ha : DAs X S W (e :: es) qs)
    (hm : X.mg x = none) (hv : bootBuiltins x = some (.type T)) (hg : Gl X x := by rfl) (hn : x ≠ "__name__" := by decide) (hdb : (x == ("__debug__" : Str)) = false := by decide)
    (he : starEach (e :: es) X.env = (false, eval e X.env) :: starEach es X.env := by rfl) (hpl : (backTo pos (starEach es X.env)).any (·.1) = false := by rfl) : DE X S W (.Call (.Name x p) (e :: es) [] pos) (prim g qs) := by
  intro F σ H env hs hos Q R h
  refine WE.of (pe_callTy hc hg hm hv (pa_wa X _) hn hdb he hpl) (ha F σ H env hs hos _ R ((Mwp.bind h).imp (fun hes env' _ k F' H' vs hvs hos' s mt R' => ?_) fun _ _ _ x => x))
  exact prim_fin sp R.hlen s mt R' k
/-- one operand -/
theorem de_un {op : UnaryOp} {r : V → Hp → VK → Prop} {g : List OD → Option OD} (ho : UnR X (unaryOp op) r) (sp : OSpec X S (rr1 r) g) (h1 : DO X S W a qa) : DE X S W (.UnaryOp op a pos) (prim g [qa]) := by
  intro F σ H env hs hos Q R h
  refine WE.of (pe_un ho (pe_we X a)) (DA1 h1 R ((Mwp.bind h).imp (fun hes env' _ k F' H' x hvs hos' s mt R' => ?_) fun _ _ _ x => x))
  exact prim_fin (r := rr1 r) sp R.hlen s mt R' k
def gNeg : PyData → Option OD
  | .int i => some (.d (.int (-i)))
  | _ => none
theorem os_neg : OSpec X S (rr1 (rU fun i => .int (-i))) (sh1 gNeg) := os_sh1 fun F σ H env hs ho x d o Q R h1 hf k => by
  unfold gNeg at hf
  split at hf
  · cases hf
    rw [h1.int]
    exact ⟨_, rfl, fin_d R k (.int _ .nil)⟩
  · cases hf
/-- is None, is not None -/
def gIsN (neg : Bool) (d : PyData) : Option OD := some (.d (.bool (match d with
  | .none => !neg
  | _ => neg)))
theorem rp_non {K : PySem.W.Frag} {F : Hp} {v : V} {d : PyData} (h : Rp K F v d) : decide (v = V.non) = (match d with
  | .none => true
  | _ => false) := by
  cases h <;> simp
theorem de_isN {j : Nat} {pc : Pos} (h1 : DO X S W a qa) : DE X S W (.Compare a [.Is] [.Constant .none j pc] pos) (prim (dp1 (gIsN false)) [qa]) := by
  intro F σ H env hs hos Q R h
  refine WE.of (pe_cmp (pc_isN (pe_we X a)) rfl) (DA1 h1 R ((Mwp.bind h).imp (fun hes env' _ k F' H' x hvs hos' s mt R' => ?_) fun _ _ _ x => x))
  refine prim_fin (r := rr1 fun x H Q => Q (.bl (decide (x = .non))) H) (os_dp1 fun F σ H env hs ho x d o Q R h1 hf k => ?_) R.hlen s mt R' k
  cases hf
  show Q (.bl (decide (x = .non))) H
  rw [rp_non h1]
  refine fin_d R k ?_
  cases d <;> exact .bl _ .nil
theorem de_notN {j : Nat} {pc : Pos} (h1 : DO X S W a qa) : DE X S W (.Compare a [.IsNot] [.Constant .none j pc] pos) (prim (dp1 (gIsN true)) [qa]) := by
  intro F σ H env hs hos Q R h
  refine WE.of (pe_cmp (pc_notN (pe_we X a)) rfl) (DA1 h1 R ((Mwp.bind h).imp (fun hes env' _ k F' H' x hvs hos' s mt R' => ?_) fun _ _ _ x => x))
  refine prim_fin (r := rr1 fun x H Q => Q (.bl (!decide (x = .non))) H) (os_dp1 fun F σ H env hs ho x d o Q R h1 hf k => ?_) R.hlen s mt R' k
  cases hf
  show Q (.bl (!decide (x = .non))) H
  rw [rp_non h1]
  refine fin_d R k ?_
  cases d <;> exact .bl _ .nil

/-! ### tests, and, or, not, if -/
/-- a truth value -/
def boolOf (o : OD) : Option Bool := match o with
  | .d (.bool b) => some b
  | _ => none
def mTest (m : M OD) : M Bool := M.bind m fun o => M.of (boolOf o)
def DT (X : Cx) (S : Sx) (W : WX) (e : Expr) (m : M Bool) : Prop :=
  ∀ (F : Hp) (σ : L2.St) (H : Hp) (env : DEnv) (hs : List V) (ho : List OD) (Q : Bool → Hp → Prop), Rel X.K S F σ H env hs ho →
    Mwp (m env) (fun b env' => ∀ F' H', Same F F' → Rel X.K S F' σ H' env' hs ho → Q b H') (QX X S W F σ hs ho) → WT X e σ H Q
theorem bool_held {K : PySem.W.Frag} {F H : Hp} {σ : L2.St} {env : DEnv} {hs : List V} {ho : List OD} {v : V} {b : Bool} (R : Rel K S F σ H env (hs ++ [v]) (ho ++ [.d (.bool b)])) (hl : hs.length = ho.length) : v = .bl b := by
  obtain ⟨fp, r⟩ := R.heldReps hl
  exact Rp.bool_inv (ORp.d_inv r).2
theorem dt_val {e : Expr} {m : M OD} (h : DE X S W e m) (he : ∀ whole, isTrue e X.env whole = (do let v ← whole; standAt e.pos; holding [v] (truthy v)) := by intro _; rfl) : DT X S W e (mTest m) := by
  intro F σ H env hs ho Q R hq
  refine WT.of (pt_val (pe_we X e) he) (h F σ H env hs ho _ R ((Mwp.bind hq).imp (fun o env' _ k F' H' v s R' => ?_) fun _ _ _ x => x))
  cases o with
  | d x =>
    cases x with
    | bool b =>
      have e := bool_held R' R.hlen
      subst e
      exact ⟨b, rfl, k F' H' s (R'.drop R.hlen)⟩
    | _ => exact k.elim
  | _ => exact k.elim
theorem dt_cmp {op : CmpOp} {r : R2} {g : List OD → Option OD} (ho : OpR X (compareOp op) r) (sp : OSpec X S (rr2 r) g) (h1 : DO X S W a qa) (h2 : DO X S W b qb) (hm : behindInMarks op b = false := by rfl) : DT X S W (.Compare a [op] [b] pos) (mTest (prim g [qa, qb])) := by
  intro F σ H env hs hos Q R hq
  refine WT.of (pt_cmpR ho (pe_we X a) (pe_we X b) hm) (DA2 h1 h2 R ((Mwp.bind (Mwp.bind hq)).imp (fun hes env' _ k F' H' x y hvs hos' s mt R' => ?_) fun _ _ _ x => x))
  refine prim_fin (r := rr2 r) (W := W) sp R.hlen s mt R' (F := F) (Q := fun x H2 => ∃ k, x = .bl k ∧ Q k H2) (k.imp (fun o e2 _ k2 F2 H2 v s2 R2 => ?_) fun _ _ _ x => x)
  cases o with
  | d x =>
    cases x with
    | bool b =>
      have e := bool_held R2 R.hlen
      subst e
      exact ⟨b, rfl, k2 F2 H2 s2 (R2.drop R.hlen)⟩
    | _ => exact k2.elim
  | _ => exact k2.elim
theorem dt_isN {j : Nat} {pc : Pos} (h1 : DO X S W a qa) : DT X S W (.Compare a [.Is] [.Constant .none j pc] pos) (mTest (prim (dp1 (gIsN false)) [qa])) := by
  intro F σ H env hs hos Q R hq
  refine WT.of (pt_cmp (pc_isN (pe_we X a)) rfl) (DA1 h1 R ((Mwp.bind (Mwp.bind hq)).imp (fun hes env' _ k F' H' x hvs hos' s mt R' => ?_) fun _ _ _ x => x))
  refine ⟨_, rfl, prim_fin (W := W) (F := F) (r := rr1 fun x H Q => Q (.bl (decide (x = .non))) H) (Q := fun v H2 => ∀ b, v = .bl b → Q b H2) (os_dp1 fun F σ H env hs ho x d o Q R h1 hf k => ?_) R.hlen s mt R' (k.imp (fun o e2 _ k2 F2 H2 v s2 R2 => ?_) fun _ _ _ x => x) _ rfl⟩
  · cases hf
    show Q (.bl (decide (x = .non))) H
    rw [rp_non h1]
    refine fin_d R k ?_
    cases d <;> exact .bl _ .nil
  · intro b hb
    subst hb
    cases o with
    | d x =>
      cases x with
      | bool b' =>
        have e := bool_held R2 R.hlen
        cases e
        exact k2 F2 H2 s2 (R2.drop R.hlen)
      | _ => exact k2.elim
    | _ => exact k2.elim
theorem dt_notN {j : Nat} {pc : Pos} (h1 : DO X S W a qa) : DT X S W (.Compare a [.IsNot] [.Constant .none j pc] pos) (mTest (prim (dp1 (gIsN true)) [qa])) := by
  intro F σ H env hs hos Q R hq
  refine WT.of (pt_cmp (pc_notN (pe_we X a)) rfl) (DA1 h1 R ((Mwp.bind (Mwp.bind hq)).imp (fun hes env' _ k F' H' x hvs hos' s mt R' => ?_) fun _ _ _ x => x))
  refine ⟨_, rfl, prim_fin (W := W) (F := F) (r := rr1 fun x H Q => Q (.bl (!decide (x = .non))) H) (Q := fun v H2 => ∀ b, v = .bl b → Q b H2) (os_dp1 fun F σ H env hs ho x d o Q R h1 hf k => ?_) R.hlen s mt R' (k.imp (fun o e2 _ k2 F2 H2 v s2 R2 => ?_) fun _ _ _ x => x) _ rfl⟩
  · cases hf
    show Q (.bl (!decide (x = .non))) H
    rw [rp_non h1]
    refine fin_d R k ?_
    cases d <;> exact .bl _ .nil
  · intro b hb
    subst hb
    cases o with
    | d x =>
      cases x with
      | bool b' =>
        have e := bool_held R2 R.hlen
        cases e
        exact k2 F2 H2 s2 (R2.drop R.hlen)
      | _ => exact k2.elim
    | _ => exact k2.elim
def mAnd (m n : M Bool) : M Bool := M.bind m fun k => if k then n else M.ret false
def mOr (m n : M Bool) : M Bool := M.bind m fun k => if k then M.ret true else n
def mNot (m : M Bool) : M Bool := M.bind m fun k => M.ret (!k)
/-- a chain of and, or, whatever its whole is -/
def WWd (X : Cx) (e : Expr) : TT := fun σ H Q => ∀ (whole : Sem Value) (pins : List (Addr × Obj)) (s : Shared), Inv X pins σ H s → wpAny (model X.prog X.w) X.A (isTrue e X.env whole) (TP X pins σ Q) X.xe s
theorem pw_ww (X : Cx) (e : Expr) : PW X e (WWd X e) := ⟨fun wh pins s _ _ _ I h => h wh pins s I⟩
theorem WWd.of {e : Expr} {t : TT} {σ : L2.St} {H : Hp} {Q : Bool → Hp → Prop} (h : PW X e t) (q : t σ H Q) : WWd X e σ H Q := fun wh pins s I => h.run wh pins s σ H Q I q
def DW (X : Cx) (S : Sx) (W : WX) (e : Expr) (m : M Bool) : Prop :=
  ∀ (F : Hp) (σ : L2.St) (H : Hp) (env : DEnv) (hs : List V) (ho : List OD) (Q : Bool → Hp → Prop), Rel X.K S F σ H env hs ho →
    Mwp (m env) (fun b env' => ∀ F' H', Same F F' → Rel X.K S F' σ H' env' hs ho → Q b H') (QX X S W F σ hs ho) → WWd X e σ H Q
theorem QX.mono0 {F F1 : Hp} {σ : L2.St} {hs : List V} {ho : List OD} {x : Xn} {e : DEnv} (h : QX X S W F σ hs ho x e) (s : Same F F1) : QX X S W F1 σ hs ho x e := fun F' H' cls d s' R r => h F' H' cls d (s.trans s') R r
theorem DW.t {e : Expr} {m : M Bool} (h : DW X S W e m) : DT X S W e m := fun F σ H env hs ho Q R hq pins s I => h F σ H env hs ho Q R hq _ pins s I
theorem dw_and1 {m : M Bool} (h : DT X S W a m) : DW X S W (.BoolOp .And [a] pos) m := fun F σ H env hs ho Q R hq => WWd.of (pw_and1 (pt_wt X a)) (h F σ H env hs ho Q R hq)
theorem dw_or1 {m : M Bool} (h : DT X S W a m) : DW X S W (.BoolOp .Or [a] pos) m := fun F σ H env hs ho Q R hq => WWd.of (pw_or1 (pt_wt X a)) (h F σ H env hs ho Q R hq)
theorem dw_and {rest : List Expr} {m n : M Bool} (h : DT X S W a m) (h2 : DW X S W (.BoolOp .And (b :: rest) pos) n) : DW X S W (.BoolOp .And (a :: b :: rest) pos) (mAnd m n) := by
  intro F σ H env hs ho Q R hq
  refine WWd.of (pw_and (pt_wt X a) (pw_ww X _)) (h F σ H env hs ho _ R ((Mwp.bind hq).imp (fun k env' _ q F' H' s R' => ?_) fun _ _ _ x => x))
  cases k with
  | true => exact h2 F' σ H' env' hs ho Q R' (Mwp.imp q (fun b e2 _ k2 F2 H2 s2 R2 => k2 F2 H2 (s.trans s2) R2) fun x e2 _ hx => hx.mono0 s)
  | false => exact q F' H' s R'
theorem dw_or {rest : List Expr} {m n : M Bool} (h : DT X S W a m) (h2 : DW X S W (.BoolOp .Or (b :: rest) pos) n) : DW X S W (.BoolOp .Or (a :: b :: rest) pos) (mOr m n) := by
  intro F σ H env hs ho Q R hq
  refine WWd.of (pw_or (pt_wt X a) (pw_ww X _)) (h F σ H env hs ho _ R ((Mwp.bind hq).imp (fun k env' _ q F' H' s R' => ?_) fun _ _ _ x => x))
  cases k with
  | false => exact h2 F' σ H' env' hs ho Q R' (Mwp.imp q (fun b e2 _ k2 F2 H2 s2 R2 => k2 F2 H2 (s.trans s2) R2) fun x e2 _ hx => hx.mono0 s)
  | true => exact q F' H' s R'
theorem dt_not {m : M Bool} (h : DT X S W a m) : DT X S W (.UnaryOp .Not a pos) (mNot m) := by
  intro F σ H env hs ho Q R hq
  exact WT.of (pt_not (pt_wt X a)) (h F σ H env hs ho _ R ((Mwp.bind hq).imp (fun k env' _ q F' H' s R' => q F' H' s R') fun _ _ _ x => x))
/-- as values: all but the last truth values -/
def mAndV (m n : M OD) : M OD := M.bind (mTest m) fun k => if k then n else M.ret (.d (.bool false))
def mOrV (m n : M OD) : M OD := M.bind (mTest m) fun k => if k then M.ret (.d (.bool true)) else n
def mNotV (m : M OD) : M OD := M.bind (mTest m) fun k => M.ret (.d (.bool (!k)))
theorem de_one {op : BoolOp} {m : M OD} (h : DE X S W a m) : DE X S W (.BoolOp op [a] pos) m := fun F σ H env hs ho Q R hq => WE.of (pe_one (pe_we X a)) (h F σ H env hs ho Q R hq)
theorem test_step {m : M OD} {α : Type} {f : Bool → M α} {env : DEnv} {F : Hp} {σ : L2.St} {hs : List V} {ho : List OD} {Q : VK} {Qo : α → DEnv → Prop} (hl : hs.length = ho.length) (h : Mwp (M.bind (mTest m) f env) Qo (QX X S W F σ hs ho))
    (hq : ∀ b env' F' H', Mwp (f b env') Qo (QX X S W F σ hs ho) → Same F F' → Rel X.K S F' σ H' env' hs ho → Q (.bl b) H') :
    Mwp (m env) (fun o env' => ∀ F' H' v, Same F F' → Rel X.K S F' σ H' env' (hs ++ [v]) (ho ++ [o]) → Q v H') (QX X S W F σ hs ho) := by
  refine (Mwp.bind (Mwp.bind h)).imp (fun o env' _ k F' H' v s R' => ?_) fun _ _ _ x => x
  cases o with
  | d x =>
    cases x with
    | bool b =>
      have e := bool_held R' hl
      subst e
      exact hq b env' F' H' k s (R'.drop hl)
    | _ => exact k.elim
  | _ => exact k.elim
theorem de_and {rest : List Expr} {m n : M OD} (h : DE X S W a m) (h2 : DE X S W (.BoolOp .And (b :: rest) pos) n) : DE X S W (.BoolOp .And (a :: b :: rest) pos) (mAndV m n) := by
  intro F σ H env hs ho Q R hq
  refine WE.of (pe_and (pe_we X a) (pe_we X _)) (h F σ H env hs ho _ R (test_step R.hlen hq fun k env' F' H' q s R' => ⟨k, rfl, ?_⟩))
  cases k with
  | true => exact h2 F' σ H' env' hs ho Q R' (Mwp.imp q (fun b e2 _ k2 F2 H2 v s2 R2 => k2 F2 H2 v (s.trans s2) R2) fun x e2 _ hx => hx.mono0 s)
  | false => exact q F' H' _ s (R'.push (.bl _ .nil))
theorem de_or {rest : List Expr} {m n : M OD} (h : DE X S W a m) (h2 : DE X S W (.BoolOp .Or (b :: rest) pos) n) : DE X S W (.BoolOp .Or (a :: b :: rest) pos) (mOrV m n) := by
  intro F σ H env hs ho Q R hq
  refine WE.of (pe_or (pe_we X a) (pe_we X _)) (h F σ H env hs ho _ R (test_step R.hlen hq fun k env' F' H' q s R' => ⟨k, rfl, ?_⟩))
  cases k with
  | false => exact h2 F' σ H' env' hs ho Q R' (Mwp.imp q (fun b e2 _ k2 F2 H2 v s2 R2 => k2 F2 H2 v (s.trans s2) R2) fun x e2 _ hx => hx.mono0 s)
  | true => exact q F' H' _ s (R'.push (.bl _ .nil))
theorem de_not {m : M OD} (h : DE X S W a m) : DE X S W (.UnaryOp .Not a pos) (mNotV m) := by
  intro F σ H env hs ho Q R hq
  exact WE.of (pe_not (pe_we X a)) (h F σ H env hs ho _ R (test_step R.hlen hq fun k env' F' H' q s R' => ⟨k, rfl, q F' H' _ s (R'.push (.bl _ .nil))⟩))
def mIfE (t : M Bool) (m n : M OD) : M OD := M.bind t fun k => if k then m else n
theorem de_if {t : M Bool} {m n : M OD} (ht : DT X S W c t) (h1 : DE X S W a m) (h2 : DE X S W b n) : DE X S W (.IfExp c a b pos) (mIfE t m n) := by
  intro F σ H env hs ho Q R hq
  refine WE.of (pe_ifExp (pt_wt X c) (pe_we X a) (pe_we X b)) (ht F σ H env hs ho _ R ((Mwp.bind hq).imp (fun k env' _ q F' H' s R' => ?_) fun _ _ _ x => x))
  cases k with
  | true => exact h1 F' σ H' env' hs ho Q R' (Mwp.imp q (fun b e2 _ k2 F2 H2 v s2 R2 => k2 F2 H2 v (s.trans s2) R2) fun x e2 _ hx => hx.mono0 s)
  | false => exact h2 F' σ H' env' hs ho Q R' (Mwp.imp q (fun b e2 _ k2 F2 H2 v s2 R2 => k2 F2 H2 v (s.trans s2) R2) fun x e2 _ hx => hx.mono0 s)
end
end DL

set_option Elab.async false
set_option linter.all false
set_option autoImplicit false
set_option maxRecDepth 100000
/-! Statements: the rules. -/
namespace DL
open PySem PySem.Spec PyProof.Rows L2

/-- how a statement ends -/
inductive Fl where
  | nx
  | bk
  | ct
  | rt (o : OD)
/-- what is to be shown behind a statement -/
def Aft (K : PySem.W.Frag) (S : Sx) (F : Hp) (D : Ends) (fl : Fl) (env' : DEnv) : Prop := match fl with
  | .nx => ∀ F' σ' H', Same F F' → Rel K S F' σ' H' env' [] [] → D.nx σ' H'
  | .bk => ∀ F' σ' H', Same F F' → Rel K S F' σ' H' env' [] [] → D.bk σ' H'
  | .ct => ∀ F' σ' H', Same F F' → Rel K S F' σ' H' env' [] [] → D.ct σ' H'
  | .rt o => ∀ F' σ' H' v, Same F F' → Rel K S F' σ' H' env' [v] [o] → D.rt v H'
def AftX (X : Cx) (S : Sx) (W : WX) (F : Hp) : Xn → DEnv → Prop := fun x env' =>
  ∀ F' σ' H' cls d, Same F F' → Rel X.K S F' σ' H' env' [] [] → XR X.K X.mg F' H' x cls d → W cls d σ' H'
def DS (X : Cx) (S : Sx) (W : WX) (st : Stmt) (m : M Fl) : Prop :=
  ∀ (F : Hp) (σ : L2.St) (H : Hp) (env : DEnv) (D : Ends), Rel X.K S F σ H env [] [] → Mwp (m env) (Aft X.K S F D) (AftX X S W F) → WS X st D σ H
def DB (X : Cx) (S : Sx) (W : WX) (st : List Stmt) (m : M Fl) : Prop :=
  ∀ (F : Hp) (σ : L2.St) (H : Hp) (env : DEnv) (D : Ends), Rel X.K S F σ H env [] [] → Mwp (m env) (Aft X.K S F D) (AftX X S W F) → WB X st D σ H
section
variable {X : Cx} {S : Sx} {W : WX} {K : PySem.W.Frag} {F F1 : Hp} {D : Ends}
theorem Aft.grown {fl : Fl} {e : DEnv} (h : Aft K S F D fl e) (s : Same F F1) : Aft K S F1 D fl e := by
  cases fl with
  | nx => exact fun F' σ' H' s' R => h F' σ' H' (s.trans s') R
  | bk => exact fun F' σ' H' s' R => h F' σ' H' (s.trans s') R
  | ct => exact fun F' σ' H' s' R => h F' σ' H' (s.trans s') R
  | rt o => exact fun F' σ' H' v s' R => h F' σ' H' v (s.trans s') R
theorem AftX.grown {x : Xn} {e : DEnv} (h : AftX X S W F x e) (s : Same F F1) : AftX X S W F1 x e := fun F' σ' H' cls d s' R r => h F' σ' H' cls d (s.trans s') R r
theorem AftX.q {x : Xn} {e : DEnv} {σ : L2.St} (h : AftX X S W F x e) : QX X S W F σ [] [] x e := fun F' H' cls d s' R r => h F' σ H' cls d s' R r

/-! ### blocks -/
def mNx : M Fl := M.ret .nx
def mSeq (m n : M Fl) : M Fl := M.bind m fun fl => match fl with
  | .nx => n
  | f => M.ret f
theorem db_nil : DB X S W [] mNx := fun F σ H env D R h => WB.of pss_nil (h F σ H (Same.refl _) R)
theorem db_one {st : Stmt} {m : M Fl} (h : DS X S W st m) : DB X S W [st] m := fun F σ H env D R q => WB.of (pss_one (ps_ws X st)) (h F σ H env D R q)
theorem db_cons {st : Stmt} {r : List Stmt} {m n : M Fl} (h : DS X S W st m) (h2 : DB X S W r n) : DB X S W (st :: r) (mSeq m n) := by
  intro F σ H env D R q
  refine WB.of (pss_cons (ps_ws X st) (pss_wb X r)) (h F σ H env { D with nx := fun σ H => WB X r D σ H } R ((Mwp.bind q).imp (fun fl e' _ k => ?_) fun _ _ _ x => x))
  cases fl with
  | nx => exact fun F' σ' H' s R' => h2 F' σ' H' e' D R' (Mwp.imp k (fun f e _ z => z.grown s) fun x e _ z => z.grown s)
  | bk => exact k
  | ct => exact k
  | rt o => exact k
theorem ds_pass {pos} : DS X S W (.Pass pos) mNx := fun F σ H env D R h => WS.of ps_pass (h F σ H (Same.refl _) R)
def mBk : M Fl := M.ret .bk
def mCt : M Fl := M.ret .ct
theorem ds_break {pos} : DS X S W (.Break pos) mBk := fun F σ H env D R h => WS.of ps_break (h F σ H (Same.refl _) R)
theorem ds_continue {pos} : DS X S W (.Continue pos) mCt := fun F σ H env D R h => WS.of ps_continue (h F σ H (Same.refl _) R)
def mDo (m : M OD) : M Fl := M.bind m fun _ => M.ret .nx
theorem ds_expr {e : Expr} {m : M OD} {pos : Pos} (h : DE X S W e m) (hs : swapsWith e none pos.line X.env = pure false := by rfl) : DS X S W (.Expr e pos) (mDo m) := by
  intro F σ H env D R q
  refine WS.of (ps_expr (pe_we X e) hs) (h F σ H env [] [] _ R ((Mwp.bind q).imp (fun o e' _ k F' H' v s R' => ?_) fun x e _ z => z.q))
  exact k F' σ H' s (R'.drop (hs := []) (ho := []) rfl)
def mRet (m : M OD) : M Fl := M.bind m fun o => M.ret (.rt o)
theorem ds_ret {e : Expr} {m : M OD} {pos : Pos} (h : DE X S W e m) : DS X S W (.Return (some e) pos) (mRet m) := by
  intro F σ H env D R q
  exact WS.of (ps_ret (pe_we X e)) (h F σ H env [] [] _ R ((Mwp.bind q).imp (fun o e' _ k F' H' v s R' => k F' σ H' v s R') fun x e _ z => z.q))
def mRetN : M Fl := M.ret (.rt (.d .none))
theorem ds_retN {pos : Pos} : DS X S W (.Return none pos) mRetN := fun F σ H env D R q => WS.of ps_retN (q F σ H _ (Same.refl _) (R.push (.non .nil)))
def mIf (t : M Bool) (m n : M Fl) : M Fl := M.bind t fun k => if k then m else n
theorem ds_if {c : Expr} {a b : List Stmt} {t : M Bool} {m n : M Fl} {pos : Pos} (hc : DT X S W c t) (ha : DB X S W a m) (hb : DB X S W b n) : DS X S W (.If c a b pos) (mIf t m n) := by
  intro F σ H env D R q
  refine WS.of (ps_if (pt_wt X c) (pss_wb X a) (pss_wb X b)) (hc F σ H env [] [] _ R ((Mwp.bind q).imp (fun k e' _ q F' H' s R' => ?_) fun x e _ z => z.q))
  cases k with
  | true => exact ha F' σ H' e' D R' (Mwp.imp q (fun f e _ z => z.grown s) fun x e _ z => z.grown s)
  | false => exact hb F' σ H' e' D R' (Mwp.imp q (fun f e _ z => z.grown s) fun x e _ z => z.grown s)
/-- code that is not come to -/
def mStuck {α : Type} : M α := fun _ => none
theorem ds_stuck {st : Stmt} : DS X S W st mStuck := fun F σ H env D R q => q.elim

/-! ### targets -/
def wipeE (e : DEnv) : List Nat → DEnv
  | [] => e
  | v :: vs => (wipeE e vs).set v none
theorem wipe_set {i : Nat} {v : V} : ∀ {vs : List Nat} (σ : L2.St), i ∈ vs → wipe (σ.set i (some v)) vs = wipe σ vs
  | [], _, h => nomatch h
  | w :: vs, σ, h => by
    unfold wipe
    by_cases hm : i ∈ vs
    · rw [wipe_set σ hm]
    · have e : i = w := by simpa [hm] using h
      subst e
      have go : ∀ (us : List Nat) (τ : L2.St), i ∉ us → wipe (τ.set i (some v)) us = (wipe τ us).set i (some v) := by
        intro us
        induction us with
        | nil => intro τ _; rfl
        | cons u us ih =>
          intro τ hu
          simp only [List.mem_cons, not_or] at hu
          unfold wipe
          rw [ih τ hu.2, List.set_comm _ _ hu.1]
      rw [go vs σ hm, List.set_set]
/-- a target's reading changes the slots so -/
def GSpec (K : PySem.W.Frag) (S : Sx) (vs : List Nat) (g : TG) (a : OD → DEnv → Option DEnv) : Prop :=
  ∀ (F : Hp) (σ : L2.St) (H : Hp) (env env' : DEnv) (v : V) (o : OD) (hs : List V) (ho : List OD) (Q : L2.St → Hp → Prop), Rel K S F σ H env (hs ++ [v]) (ho ++ [o]) → hs.length = ho.length → a o env = some env' →
    (∀ F' σ', Same F F' → wipe σ' vs = wipe σ vs → Rel K S F' σ' H env' hs ho → Q σ' H) → g v σ H Q
def aName (i : Nat) : OD → DEnv → Option DEnv := fun o e => if i < e.length then some (e.set i (some o)) else none
theorem gs_name {i : Nat} {vs : List Nat} (hp : ∀ p ∈ S.pin, p.1 ≠ i) (hv : i ∈ vs) : GSpec K S vs (gName i) (aName i) := by
  intro F σ H env env' v o hs ho Q R hl e k
  unfold aName at e
  split at e
  · rename_i hi
    cases e
    exact k F _ (Same.refl _) (wipe_set σ hv) (R.store hl (by rw [R.len]; exact hi) hp)
  · cases e
/-- targets one after another -/
def aAll : List (OD → DEnv → Option DEnv) → List OD → DEnv → Option DEnv
  | [], [], e => some e
  | a :: as, o :: os, e => match a o e with
    | some e' => aAll as os e'
    | none => none
  | _, _, _ => none
def GsSpec (K : PySem.W.Frag) (S : Sx) (vs : List Nat) (g : TGs) (as : List (OD → DEnv → Option DEnv)) : Prop :=
  ∀ (F : Hp) (σ : L2.St) (H : Hp) (env env' : DEnv) (ws : List V) (xs : List PyData) (hs : List V) (ho : List OD) (Q : L2.St → Hp → Prop), Rel K S F σ H env hs ho → Reps K F ws xs → aAll as (xs.map .d) env = some env' →
    (∀ F' σ', Same F F' → wipe σ' vs = wipe σ vs → Rel K S F' σ' H env' hs ho → Q σ' H) → g ws σ H Q
theorem gs_nil {vs : List Nat} : GsSpec K S vs gNil [] := by
  intro F σ H env env' ws xs hs ho Q R r e k
  cases xs with
  | nil =>
    cases e
    cases r
    exact ⟨rfl, k F σ (Same.refl _) rfl R⟩
  | cons x xs => cases e
theorem gs_cons {vs : List Nat} {g : TG} {gs : TGs} {a : OD → DEnv → Option DEnv} {as : List (OD → DEnv → Option DEnv)} (h : GSpec K S vs g a) (h2 : GsSpec K S vs gs as) : GsSpec K S vs (gCons g gs) (a :: as) := by
  intro F σ H env env' ws xs hs ho Q R r e k
  cases xs with
  | nil => cases e
  | cons x xs =>
    cases ws with
    | nil => cases r
    | cons w ws =>
      simp only [List.map_cons, aAll] at e
      cases q : a (.d x) env with
      | none => rw [q] at e; cases e
      | some e1 =>
        rw [q] at e
        refine ⟨w, ws, rfl, h F σ H env e1 w (.d x) hs ho _ (R.push r.inv.1) R.hlen q fun F' σ' s hw R' => ?_⟩
        exact h2 F' σ' H e1 env' ws xs hs ho Q R' (r.inv.2.mono s) e fun F2 σ2 s2 hw2 R2 => k F2 σ2 (s.trans s2) (hw2.trans hw) R2
def aTup (as : List (OD → DEnv → Option DEnv)) : OD → DEnv → Option DEnv := fun o e => match o with
  | .d (.tuple xs) => if xs.length = as.length then aAll as (xs.map .d) e else none
  | _ => none
theorem gs_tup {vs : List Nat} {gs : TGs} {as : List (OD → DEnv → Option DEnv)} {n : Nat} (hn : as.length = n) (h : GsSpec K S vs gs as) : GSpec K S vs (gTup K n gs) (aTup as) := by
  intro F σ H env env' v o hs ho Q R hl e k
  unfold aTup at e
  split at e
  · rename_i xs
    split at e
    · rename_i hz
      obtain ⟨fp, r⟩ := R.heldReps hl
      obtain ⟨a, ws, rfl, q, r⟩ := (ORp.d_inv r).2.tuple_inv
      exact ⟨a, ws, rfl, DL.Same.sqt R.sub q, by rw [r.len, hz, hn], h F σ H env env' ws xs hs ho Q (R.drop hl) r e k⟩
    · cases e
  · cases e

/-! ### assignments -/
def mAsg (m : M OD) (a : OD → DEnv → Option DEnv) : M Fl := M.bind m fun o e => match a o e with
  | some e' => some (.ok .nx, e')
  | none => none
theorem asg_fin {vs : List Nat} {g : TG} {a : OD → DEnv → Option DEnv} (hg : GSpec K S vs g a) {F F' : Hp} {σ : L2.St} {H : Hp} {env : DEnv} {v : V} {o : OD} {D : Ends} {Qx : Xn → DEnv → Prop} (R : Rel K S F' σ H env [v] [o]) (s : Same F F')
    (k : Mwp ((match a o env with
      | some e' => some (Rs.ok Fl.nx, e')
      | none => none : Option (Rs Fl × DEnv))) (Aft K S F D) Qx) : g v σ H D.nx := by
  cases e : a o env with
  | none => rw [e] at k; exact k.elim
  | some e' =>
    rw [e] at k
    exact hg F' σ H env e' v o [] [] D.nx R rfl e fun F2 σ2 s2 _ R2 => k F2 σ2 H (s.trans s2) R2
theorem ds_set {i : Nat} {x : Str} {e : Expr} {m : M OD} {pos pos' : Pos} (h : DE X S W e m) (hN : X.N.Nodup) (hp : ∀ p ∈ S.pin, p.1 ≠ i) (hi : X.N[i]? = some x := by rfl) (hx : Loc X.env.scope x := by first | exact Or.inl rfl | exact Or.inr rfl) (hs : swapsWith e (some (.Name x pos')) pos.line X.env = pure false := by rfl)
    (hf : X.fn x = true ∨ X.env.scope.names.lookup x = some .local := by first | exact .inl rfl | exact .inr rfl | assumption) : DS X S W (.Assign [.Name x pos'] e pos) (mAsg m (aName i)) := by
  intro F σ H env D R q
  refine WS.of (ps_set hN hi hx (pe_we X e) hs hf) (h F σ H env [] [] _ R ((Mwp.bind q).imp (fun o e' _ k F' H' v s R' => ?_) fun x e _ z => z.q))
  exact asg_fin (gs_name (vs := [i]) hp (by simp)) R' s k
theorem ds_asg {tg e : Expr} {vs : List Nat} {g : TG} {a : OD → DEnv → Option DEnv} {m : M OD} {pos : Pos} (h : DE X S W e m) (hg : PG X tg g) (ga : GSpec X.K S vs g a) (hs : swapsWithSole [tg] e pos.line X.env = pure false := by rfl) (hw : swappedStores [tg] e X.env = pure none := by rfl)
    (h1 : (assignEach [tg] X.env).map (·.2) = [assign tg X.env] := by rfl) : DS X S W (.Assign [tg] e pos) (mAsg m a) := by
  intro F σ H env D R q
  refine WS.of (ps_asg (pe_we X e) hg hs hw h1) (h F σ H env [] [] _ R ((Mwp.bind q).imp (fun o e' _ k F' H' v s R' => ?_) fun x e _ z => z.q))
  exact asg_fin ga R' s k

/-! ### what is walked -/
def WI (X : Cx) (tg iter : Expr) : TI := fun σ H R => ∀ (pins : List (Addr × Obj)) (s : Shared), Inv X pins σ H s → wpAny (model X.prog X.w) X.A (eval iter X.env) (fun v s1 => wpAny (model X.prog X.w) X.A (pyIter v) (PIE X pins σ tg R) X.xe s1) X.xe s
theorem pi_wi (X : Cx) (tg iter : Expr) : PI X tg iter (WI X tg iter) := ⟨fun pins s _ _ _ I h => h pins s I⟩
theorem WI.of {tg iter : Expr} {t : TI} {σ : L2.St} {H : Hp} {R : It → Hp → Prop} (h : PI X tg iter t) (q : t σ H R) : WI X tg iter σ H R := fun pins s I => h.run pins s σ H R I q
/-- the items that come -/
def Yields (K : PySem.W.Frag) (S : Sx) (F : Hp) (J : It) (ds : List PyData) : Prop :=
  ∀ (i : Nat) (F2 : Hp) (σ : L2.St) (H : Hp) (env : DEnv) (hs : List V) (ho : List OD), Same F F2 → Rel K S F2 σ H env hs ho →
    (∀ d, ds[i]? = some d → J.go i H ∧ ∀ x H', J.yld i H x H' → ∃ F3, Same F2 F3 ∧ Rel K S F3 σ H' env (hs ++ [x]) (ho ++ [.d d])) ∧ (ds.length ≤ i → J.stop i H)
def DIt (X : Cx) (S : Sx) (W : WX) (tg iter : Expr) (m : M (List PyData)) : Prop :=
  ∀ (F : Hp) (σ : L2.St) (H : Hp) (env : DEnv) (hs : List V) (ho : List OD) (R : It → Hp → Prop), Rel X.K S F σ H env hs ho →
    Mwp (m env) (fun ds env' => ∀ F' H' J, Same F F' → Rel X.K S F' σ H' env' hs ho → Yields X.K S F' J ds → R J H') (QX X S W F σ hs ho) → WI X tg iter σ H R

/-! ### for -/
def mFlow (mb rest : M Fl) : M Fl := M.bind mb fun fl => match fl with
  | .nx => rest
  | .ct => rest
  | .bk => M.ret .nx
  | .rt o => M.ret (.rt o)
def mEach (a : OD → DEnv → Option DEnv) (mb : M Fl) : List PyData → M Fl
  | [] => mNx
  | d :: ds => fun e => match a (.d d) e with
    | some e' => mFlow mb (mEach a mb ds) e'
    | none => none
def mFor (mi : M (List PyData)) (a : OD → DEnv → Option DEnv) (mb : M Fl) : M Fl := M.bind mi fun ds => mEach a mb ds
theorem ds_for {tg iter : Expr} {body : List Stmt} {mi : M (List PyData)} {g : TG} {vs : List Nat} {a : OD → DEnv → Option DEnv} {mb : M Fl} {pos : Pos} (hp : PassesOwn (model X.prog X.w) X.A X.env X.xe) (hc : X.calm = true)
    (hi : DIt X S W tg iter mi) (hg : PG X tg g) (ga : GSpec X.K S vs g a) (hb : DB X S W body mb) (hs : ∀ x, foldedSetIterable iter X.env x = pure x := by intro _; rfl) : DS X S W (.For tg iter body [] pos) (mFor mi a mb) := by
  intro F σ H env D R q
  refine WS.of (ps_for hp hc (pi_wi X tg iter) hg (pss_wb X body) hs) (hi F σ H env [] [] _ R ((Mwp.bind q).imp (fun ds e' _ k F' H' J s R' Y => ?_) fun x e _ z => z.q))
  refine ⟨fun i m σ2 H2 => m = ds.length - i ∧ i ≤ ds.length ∧ ∃ F2 e2, Same F' F2 ∧ Rel X.K S F2 σ2 H2 e2 [] [] ∧ Mwp (mEach a mb (ds.drop i) e2) (Aft X.K S F D) (AftX X S W F), ⟨_, rfl, Nat.zero_le _, F', e', Same.refl _, R', k⟩, ?_⟩
  rintro i m σ2 H2 ⟨rfl, hi', F2, e2, s2, R2, k2⟩
  obtain ⟨y1, y2⟩ := Y i F2 σ2 H2 e2 [] [] s2 R2
  by_cases hlt : i < ds.length
  · right
    rw [List.drop_eq_getElem_cons hlt] at k2
    unfold mEach at k2
    cases ea : a (.d ds[i]) e2 with
    | none => rw [ea] at k2; exact k2.elim
    | some e3 =>
      rw [ea] at k2
      obtain ⟨go, y⟩ := y1 ds[i] (by simp [hlt])
      refine ⟨go, fun σ' H' => ∃ F3 e4, Same F' F3 ∧ Rel X.K S F3 σ' H' e4 [] [] ∧ Mwp (mEach a mb (ds.drop (i + 1)) e4) (Aft X.K S F D) (AftX X S W F), fun σ' H' ⟨F3, e4, h1, h2, h3⟩ => ⟨ds.length - (i + 1), by omega, rfl, hlt, F3, e4, h1, h2, h3⟩, fun x H' hy => ?_⟩
      obtain ⟨F3, s3, R3⟩ := y x H' hy
      refine ga F3 σ2 H' e2 e3 x _ [] [] _ R3 rfl ea fun F4 σ4 s4 _ R4 => ?_
      have s04 : Same F' F4 := s2.trans (s3.trans s4)
      refine hb F4 σ4 H' e3 _ R4 ((Mwp.bind k2).imp (fun fl e5 _ k5 => ?_) fun x e _ z => z.grown (s.trans s04))
      cases fl with
      | nx => exact fun F5 σ5 H5 s5 R5 => ⟨F5, e5, s04.trans s5, R5, k5⟩
      | ct => exact fun F5 σ5 H5 s5 R5 => ⟨F5, e5, s04.trans s5, R5, k5⟩
      | bk => exact fun F5 σ5 H5 s5 R5 => k5 F5 σ5 H5 ((s.trans s04).trans s5) R5
      | rt o => exact fun F5 σ5 H5 v s5 R5 => k5 F5 σ5 H5 v ((s.trans s04).trans s5) R5
  · have e : i = ds.length := by omega
    left
    refine ⟨y2 (by omega), ?_⟩
    rw [e, List.drop_length] at k2
    exact k2 F2 σ2 H2 (s.trans s2) R2

/-! ### while -/
def mWhN (c : M Bool) (mb : M Fl) : Nat → M Fl
  | 0 => fun _ => none
  | n + 1 => M.bind c fun k => if k then mFlow mb (mWhN c mb n) else mNx
theorem ds_while {c : Expr} {body : List Stmt} {mc : M Bool} {mb : M Fl} {pos : Pos} (n : Nat) (hp : PassesOwn (model X.prog X.w) X.A X.env X.xe) (hc : DT X S W c mc) (hb : DB X S W body mb) : DS X S W (.While c body [] pos) (mWhN mc mb n) := by
  intro F σ H env D R q
  refine WS.of (ps_while hp (pt_wt X c) (pss_wb X body)) ?_
  refine ⟨fun m σ2 H2 => ∃ F2 e2, Same F F2 ∧ Rel X.K S F2 σ2 H2 e2 [] [] ∧ Mwp (mWhN mc mb m e2) (Aft X.K S F D) (AftX X S W F), ⟨n, F, env, Same.refl _, R, q⟩, ?_⟩
  rintro m σ2 H2 ⟨F2, e2, s2, R2, k2⟩
  cases m with
  | zero => exact k2.elim
  | succ m =>
    refine hc F2 σ2 H2 e2 [] [] _ R2 ((Mwp.bind k2).imp (fun k e3 _ k3 F3 H3 s3 R3 => ?_) fun x e _ z => (z.grown s2).q)
    cases k with
    | false => exact k3 F3 σ2 H3 (s2.trans s3) R3
    | true =>
      refine ⟨fun σ' H' => ∃ F2 e2, Same F F2 ∧ Rel X.K S F2 σ' H' e2 [] [] ∧ Mwp (mWhN mc mb m e2) (Aft X.K S F D) (AftX X S W F), fun σ' H' h => ⟨m, Nat.lt_succ_self m, h⟩, ?_⟩
      refine hb F3 σ2 H3 e3 _ R3 ((Mwp.bind k3).imp (fun fl e5 _ k5 => ?_) fun x e _ z => z.grown (s2.trans s3))
      cases fl with
      | nx => exact fun F5 σ5 H5 s5 R5 => ⟨F5, e5, (s2.trans s3).trans s5, R5, k5⟩
      | ct => exact fun F5 σ5 H5 s5 R5 => ⟨F5, e5, (s2.trans s3).trans s5, R5, k5⟩
      | bk => exact fun F5 σ5 H5 s5 R5 => k5 F5 σ5 H5 ((s2.trans s3).trans s5) R5
      | rt o => exact fun F5 σ5 H5 v s5 R5 => k5 F5 σ5 H5 v ((s2.trans s3).trans s5) R5
end
end DL

set_option Elab.async false
set_option linter.all false
set_option autoImplicit false
set_option maxRecDepth 100000
/-! What loops walk; comprehensions. -/
namespace DL
open PySem PySem.Spec PyProof.Rows L2
theorem Same.sql {K : PySem.W.Frag} {H H' : Hp} {a : Addr} {xs : List V} (e : Same H H') (h : SqL K H a xs) : SqL K H' a xs := h.imp (fun z => DL.Same.rd e z) id
section
variable {X : Cx} {S : Sx} {W : WX} {K : PySem.W.Frag} {F F1 : Hp} {D : Ends} {tg e : Expr}

def chars (x : Str) : List PyData := x.cps.toList.map fun c => .str ⟨#[c]⟩
def itemsOf : OD → Option (List PyData)
  | .d (.list xs) => some xs
  | .d (.tuple xs) => some xs
  | .d (.str x) => some (chars x)
  | .s ns => some (ns.map .int)
  | _ => none
def mItems (q : Opd) : M (List PyData) := M.bind q.go fun he e => match he.rd e with
  | none => none
  | some o => match itemsOf o with
    | none => none
    | some ds => some (.ok ds, e)
theorem y_list {a : Addr} {ws : List V} {xs : List PyData} (h : SqL K F a ws) (r : Reps K F ws xs) : Yields K S F (Itl K a) xs := by
  intro i F2 σ H env hs ho s R
  have q : SqL K H a ws := DL.Same.sql (s.trans R.sub) h
  refine ⟨fun d hd => ?_, fun hz => ⟨ws, q, by rw [r.len]; exact hz⟩⟩
  obtain ⟨w, hw, rw'⟩ := r.getD hd
  refine ⟨⟨ws, w, q, hw⟩, fun x H' hy => ?_⟩
  obtain ⟨rfl, hy⟩ := hy
  have := hy ws q
  rw [hw] at this
  cases this
  exact ⟨F2, Same.refl _, R.push (rw'.mono s)⟩
theorem y_tup {a : Addr} {ws : List V} {xs : List PyData} (h : SqT K F a ws) (r : Reps K F ws xs) : Yields K S F (Itt K a) xs := by
  intro i F2 σ H env hs ho s R
  have q : SqT K H a ws := DL.Same.sqt (s.trans R.sub) h
  refine ⟨fun d hd => ?_, fun hz => ⟨ws, q, by rw [r.len]; exact hz⟩⟩
  obtain ⟨w, hw, rw'⟩ := r.getD hd
  refine ⟨⟨ws, w, q, hw⟩, fun x H' hy => ?_⟩
  obtain ⟨rfl, hy⟩ := hy
  have := hy ws q
  rw [hw] at this
  cases this
  exact ⟨F2, Same.refl _, R.push (rw'.mono s)⟩
theorem y_str {x : Str} : Yields K S F (Its x) (chars x) := by
  intro i F2 σ H env hs ho s R
  have hsz : x.cps.toList.length = x.cps.size := by simp
  refine ⟨fun d hd => ?_, fun hz => ?_⟩
  · unfold chars at hd
    rw [List.getElem?_map] at hd
    cases q : x.cps.toList[i]? with
    | none => rw [q] at hd; cases hd
    | some c =>
      rw [q] at hd
      cases hd
      refine ⟨?_, fun y H' hy => ?_⟩
      · have := (List.getElem?_eq_some_iff.mp q).1
        rw [hsz] at this
        exact this
      · obtain ⟨rfl, c', hc, rfl⟩ := hy
        have : x.cps.toList[i]? = some c' := by simpa using hc
        rw [q] at this
        cases this
        exact ⟨F2, Same.refl _, R.push (.str _ (by show 1 ≤ sizeLine; decide) .nil)⟩
  · unfold chars at hz
    rw [List.length_map, hsz] at hz
    exact hz
theorem rng_int {lo : Int} {n : Nat} {i : Nat} {d : PyData} (h : ((List.range n).map fun k : Nat => PyData.int (lo + k))[i]? = some d) : i < n ∧ d = .int (lo + i) := by
  rw [List.getElem?_map] at h
  cases q : (List.range n)[i]? with
  | none => rw [q] at h; cases h
  | some c =>
    rw [q] at h
    cases h
    have hi := (List.getElem?_eq_some_iff.mp q).1
    rw [List.length_range] at hi
    have : c = i := by
      have := (List.getElem?_eq_some_iff.mp q).2
      simpa using this.symm
    subst this
    exact ⟨hi, rfl⟩
theorem y_rng {lo : Int} {n : Nat} : Yields K S F (Itr lo n) ((List.range n).map fun k : Nat => PyData.int (lo + k)) := by
  intro i F2 σ H env hs ho s R
  refine ⟨fun d hd => ?_, fun hz => ?_⟩
  · obtain ⟨hi, rfl⟩ := rng_int hd
    refine ⟨hi, fun x H' hy => ?_⟩
    obtain ⟨rfl, rfl⟩ := hy
    exact ⟨F2, Same.refl _, R.push (.int _ .nil)⟩
  · have : n ≤ i := by simpa using hz
    exact this
theorem reps_ints : ∀ (ns : List Int), Reps K F (ns.map V.int) (ns.map PyData.int)
  | [] => .nil
  | n :: ns => .int n (reps_ints ns)
theorem di_opd {q : Opd} (h : DO X S W e q) : DIt X S W tg e (mItems q) := by
  intro F σ H env hs ho Rr R hq
  have hq := Mwp.bind hq
  cases r : q.go env with
  | none => rw [r] at hq; exact hq.elim
  | some p =>
    obtain ⟨p, e'⟩ := p
    cases p with
    | ex x =>
      refine WI.of (pi_list (pe_we X e)) (h F σ H env hs ho _ R ?_)
      rw [r] at hq ⊢
      exact hq
    | ok he =>
      rw [r] at hq
      simp only [Mwp] at hq
      cases r2 : he.rd e' with
      | none => rw [r2] at hq; exact hq.elim
      | some o =>
        rw [r2] at hq
        simp only at hq
        cases r3 : itemsOf o with
        | none => rw [r3] at hq; exact hq.elim
        | some ds =>
          rw [r3] at hq
          have hq : ∀ F' H' J, Same F F' → Rel X.K S F' σ H' e' hs ho → Yields X.K S F' J ds → Rr J H' := hq
          -- the value as it stands
          have val : ∀ F' H' v, Left X.K S F' σ H' e' hs ho v he → Rel X.K S F' σ H' e' hs ho ∧ ∃ fp, ORp X.K F' H' v o fp := fun F' H' v L => by
            cases he with
            | o x =>
              cases r2
              exact ⟨L.drop R.hlen, L.heldReps R.hlen⟩
            | al i =>
              obtain ⟨L1, L⟩ := L
              simp only [HE.rd] at r2
              cases q0 : e'[i]? with
              | none => rw [q0] at r2; cases r2
              | some oo =>
                rw [q0] at r2
                simp only [Option.join_some] at r2
                subst r2
                obtain ⟨v', fp, h1, h2⟩ := L.slot q0
                rw [h1] at L1
                cases L1
                exact ⟨L, fp, h2⟩
          have go : ∀ {Q : VK}, (∀ F' H' v, Same F F' → Rel X.K S F' σ H' e' hs ho → (∃ fp, ORp X.K F' H' v o fp) → Q v H') → WE X e σ H Q := fun {Q} k =>
            h F σ H env hs ho Q R (by rw [r]; exact fun F' H' v s L => let ⟨a, b⟩ := val F' H' v L; k F' H' v s a b)
          cases o with
          | d x =>
            cases x with
            | list xs =>
              cases r3
              refine WI.of (pi_list (pe_we X e)) (go fun F' H' v s R' ⟨fp, z⟩ => ?_)
              obtain ⟨a, ws, rfl, h1, h2⟩ := (ORp.d_inv z).2.list_inv
              exact ⟨a, rfl, ⟨ws, .inl (.inl (R'.sub _ _ h1))⟩, hq F' H' _ s R' (y_list (.inl (.inl h1)) h2)⟩
            | tuple xs =>
              cases r3
              refine WI.of (pi_tup (pe_we X e)) (go fun F' H' v s R' ⟨fp, z⟩ => ?_)
              obtain ⟨a, ws, rfl, h1, h2⟩ := (ORp.d_inv z).2.tuple_inv
              exact ⟨a, rfl, ⟨ws, DL.Same.sqt R'.sub h1⟩, hq F' H' _ s R' (y_tup h1 h2)⟩
            | str x =>
              cases r3
              refine WI.of (pi_str (pe_we X e)) (go fun F' H' v s R' ⟨fp, z⟩ => ?_)
              obtain ⟨rfl, _⟩ := (ORp.d_inv z).2.str_inv
              exact ⟨x, rfl, hq F' H' _ s R' y_str⟩
            | _ => cases r3
          | s ns =>
            cases r3
            refine WI.of (pi_list (pe_we X e)) (go fun F' H' v s R' ⟨fp, z⟩ => ?_)
            obtain ⟨a, rfl, h1⟩ := ORp.s_inv z
            exact ⟨a, rfl, ⟨_, DL.Same.sql R'.sub h1⟩, hq F' H' _ s R' (y_list h1 (reps_ints ns))⟩
          | l os => cases r3
          | m ks os => cases r3

/-! ### ranges -/
def smallB (i : Int) : Bool := decide (-(2 ^ 62) ≤ i) && decide (i < 2 ^ 62)
def rngOf (lo hi : Int) : List PyData := (List.range (hi - lo).toNat).map fun k : Nat => PyData.int (lo + k)

def rngA : List OD → Option (List PyData)
  | [.d (.int j)] => if smallB j then some (rngOf 0 j) else none
  | _ => none
def rngB : List OD → Option (List PyData)
  | [.d (.int i), .d (.int j)] => if smallB i && smallB j then some (rngOf i j) else none
  | _ => none
def mRng (f : List OD → Option (List PyData)) (qs : List Opd) : M (List PyData) := M.bind (args qs) fun hes e => match rds e hes with
  | none => none
  | some os => match f os with
    | none => none
    | some ds => some (.ok ds, e)
theorem rdb_int {H : Hp} {vs : List V} {i : Int} {os : List OD} (h : Rdb K F H vs (.d (.int i) :: os)) : ∃ us, vs = .int i :: us ∧ Rdb K F H us os := by
  cases h with
  | cons h1 h2 => exact ⟨_, by rw [(ORp.d_inv h1).2.int_inv], h2⟩
theorem rdb_nil {H : Hp} {vs : List V} (h : Rdb K F H vs []) : vs = [] := by cases h; rfl
theorem di_range1 {a : Expr} {q : Opd} {p pos : Pos} (h : DAs X S W [a] [q]) (hm : X.mg "range" = none) (hg : Gl X "range" := by rfl) (hs : starEach [a] X.env = [(false, eval a X.env)] := by rfl) : DIt X S W tg (.Call (.Name "range" p) [a] [] pos) (mRng rngA [q]) := by
  intro F σ H env hs' ho Rr R hq
  refine WI.of (pi_range1 hg hm (pa_wa X [a]) hs) (h F σ H env hs' ho _ R ((Mwp.bind hq).imp (fun hes e' _ k F' H' vs hvs hos s mt R' => ?_) fun _ _ _ x => x))
  cases e : rds e' hes with
  | none => rw [e] at k; exact k.elim
  | some os =>
    rw [e] at k
    simp only at k
    cases e2 : rngA os with
    | none => rw [e2] at k; exact k.elim
    | some ds =>
      rw [e2] at k
      have rb := mt.rdb R' R.hlen e
      unfold rngA at e2
      split at e2
      · rename_i j
        split at e2
        · rename_i hz
          cases e2
          obtain ⟨us, e1, rb1⟩ := rdb_int rb
          have e2 := rdb_nil rb1
          subst e2
          subst e1
          simp only [smallB, Bool.and_eq_true, decide_eq_true_eq] at hz
          refine ⟨j, rfl, hz.1, hz.2, k F' H' _ s (R'.drop R.hlen) ?_⟩
          have := y_rng (K := X.K) (S := S) (F := F') (lo := 0) (n := j.toNat)
          unfold rngOf
          rw [Int.sub_zero]
          exact this
        · cases e2
      · cases e2
theorem di_range2 {a b : Expr} {q q2 : Opd} {p pos : Pos} (h : DAs X S W [a, b] [q, q2]) (hm : X.mg "range" = none) (hg : Gl X "range" := by rfl) (hs : starEach [a, b] X.env = [(false, eval a X.env), (false, eval b X.env)] := by rfl) (hs2 : starEach [b] X.env = [(false, eval b X.env)] := by rfl) :
    DIt X S W tg (.Call (.Name "range" p) [a, b] [] pos) (mRng rngB [q, q2]) := by
  intro F σ H env hs' ho Rr R hq
  refine WI.of (pi_range2 hg hm (pa_wa X [a, b]) hs hs2) (h F σ H env hs' ho _ R ((Mwp.bind hq).imp (fun hes e' _ k F' H' vs hvs hos s mt R' => ?_) fun _ _ _ x => x))
  cases e : rds e' hes with
  | none => rw [e] at k; exact k.elim
  | some os =>
    rw [e] at k
    simp only at k
    cases e2 : rngB os with
    | none => rw [e2] at k; exact k.elim
    | some ds =>
      rw [e2] at k
      have rb := mt.rdb R' R.hlen e
      unfold rngB at e2
      split at e2
      · rename_i i j
        split at e2
        · rename_i hz
          cases e2
          obtain ⟨us, e1, rb1⟩ := rdb_int rb
          obtain ⟨us2, e2, rb2⟩ := rdb_int rb1
          have e3 := rdb_nil rb2
          subst e3
          subst e2
          subst e1
          simp only [smallB, Bool.and_eq_true, decide_eq_true_eq] at hz
          refine ⟨i, j, rfl, ⟨hz.1.1, hz.1.2, hz.2.1, hz.2.2⟩, k F' H' _ s (R'.drop R.hlen) ?_⟩
          exact y_rng (K := X.K) (S := S) (F := F') (lo := i) (n := (j - i).toNat)
        · cases e2
      · cases e2

/-! ### wiped slots -/
theorem wipeE_len : ∀ (vs : List Nat) (e : DEnv), (wipeE e vs).length = e.length
  | [], _ => rfl
  | v :: vs, e => by unfold wipeE; rw [List.length_set, wipeE_len vs e]
theorem wipeE_some {i : Nat} {o : OD} : ∀ {vs : List Nat} {e : DEnv}, (wipeE e vs)[i]? = some (some o) → e[i]? = some (some o) ∧ i ∉ vs
  | [], e, h => ⟨h, by simp⟩
  | v :: vs, e, h => by
    unfold wipeE at h
    rw [List.getElem?_set] at h
    by_cases hv : v = i
    · subst hv
      simp only [if_true] at h
      split at h <;> cases h
    · rw [if_neg hv] at h
      obtain ⟨h1, h2⟩ := wipeE_some h
      exact ⟨h1, by simp only [List.mem_cons, not_or]; exact ⟨fun z => hv z.symm, h2⟩⟩
theorem ERep.re {H : Hp} : ∀ {σ : L2.St} {env : DEnv} {fp : List Addr} {τ : L2.St}, ERep K F H σ env fp → τ.length = σ.length → (∀ (i : Nat) (o : OD), env[i]? = some (some o) → τ[i]? = σ[i]?) → ERep K F H τ env fp
  | [], [], _, τ, h, hl, _ => by
    have : τ = [] := List.eq_nil_of_length_eq_zero hl
    subst this
    exact h
  | _ :: _, [], _, _, h, _, _ => nomatch h
  | [], _ :: _, _, _, h, _, _ => nomatch h
  | x :: σ, o :: env, _, [], h, hl, _ => by simp at hl
  | x :: σ, o :: env, _, t :: τ, h, hl, k => by
    have hl' : τ.length = σ.length := by simpa using hl
    have k' : ∀ (i : Nat) (o : OD), env[i]? = some (some o) → τ[i]? = σ[i]? := fun i o e => by simpa using k (i + 1) o (by simpa using e)
    cases h with
    | un h => exact .un (h.re hl' k')
    | so h1 h =>
      have := k 0 _ (by simp; rfl)
      simp at this
      subst this
      exact .so h1 (h.re hl' k')
theorem ERep.wiped {H : Hp} {σ : L2.St} {env : DEnv} {fp : List Addr} (h : ERep K F H σ env fp) : ∀ vs : List Nat, ∃ fp' l, ERep K F H (wipe σ vs) (wipeE env vs) fp' ∧ fp.Perm (l ++ fp')
  | [] => ⟨fp, [], h, by simp⟩
  | v :: vs => by
    obtain ⟨f1, l1, h1, p1⟩ := ERep.wiped h vs
    obtain ⟨f2, l2, h2, p2⟩ := h1.drop v
    exact ⟨f2, l1 ++ l2, h2, p1.trans (by rw [List.append_assoc]; exact p2.append_left l1)⟩
theorem Rel.wiped {σ : L2.St} {H : Hp} {env : DEnv} {hs : List V} {ho : List OD} (R : Rel K S F σ H env hs ho) (vs : List Nat) (hp : ∀ p ∈ S.pin, p.1 ∉ vs) : Rel K S F (wipe σ vs) H (wipeE env vs) hs ho := by
  obtain ⟨f1, f2, a, b, nd, io⟩ := R.rep
  obtain ⟨f3, l, c, pm⟩ := a.wiped vs
  have pm2 : (f1 ++ f2).Perm (l ++ (f3 ++ f2)) := by rw [← List.append_assoc]; exact pm.append_right f2
  refine ⟨R.sub, ⟨f3, f2, c, b, (List.nodup_append.mp (pm2.nodup_iff.mp nd)).2.1, fun x hx => io x (pm2.mem_iff.mpr (List.mem_append_right _ hx))⟩, R.keep, R.new, R.f0, fun p hp' => ?_⟩
  rw [wipe_out (hp p hp')]
  exact R.pin p hp'
theorem Rel.unwiped {σ : L2.St} {H : Hp} {env : DEnv} {hs : List V} {ho : List OD} {vs : List Nat} (R : Rel K S F (wipe σ vs) H (wipeE env vs) hs ho) (hp : ∀ p ∈ S.pin, p.1 ∉ vs) : Rel K S F σ H (wipeE env vs) hs ho := by
  obtain ⟨f1, f2, a, b, nd, io⟩ := R.rep
  refine ⟨R.sub, ⟨f1, f2, a.re (wipe_length σ vs).symm fun i o e => ?_, b, nd, io⟩, R.keep, R.new, R.f0, fun p hp' => ?_⟩
  · exact (wipe_out (wipeE_some e).2).symm
  · rw [← wipe_out (hp p hp')]
    exact R.pin p hp'
/-- the last held list takes one thing more -/
theorem Rel.heldPush {σ : L2.St} {H : Hp} {env : DEnv} {hs us : List V} {ho os : List OD} {a : Addr} {v : V} {o : OD} (R : Rel K S F σ H env (hs ++ [.ref a, v]) (ho ++ [.l os, o])) (hl : hs.length = ho.length) :
    ∃ ws, H a = some (.lst ws) ∧ ws.length = os.length ∧ Rel K S F σ (upd H a (.lst (ws ++ [v]))) env (hs ++ [.ref a]) (ho ++ [.l (os ++ [o])]) := by
  obtain ⟨f1, f2, c, b, nd, io⟩ := R.rep
  obtain ⟨g1, g2, b1, b2, rfl⟩ := OReps.split hl b
  obtain ⟨k1, k2, b3, b4, rfl⟩ := b2.inv
  obtain ⟨a', ws, k3, ea, hFa, hHa, b5, rfl⟩ := ORp.l_inv b3
  cases ea
  refine ⟨ws, hHa, b5.len, ?_⟩
  have pm : (f1 ++ (g1 ++ (a :: k3 ++ k2))).Perm (a :: (f1 ++ (g1 ++ (k3 ++ k2)))) := by
    have : (f1 ++ (g1 ++ (a :: k3 ++ k2))).Perm ((f1 ++ g1) ++ a :: (k3 ++ k2)) := by simp [List.append_assoc]
    refine this.trans (List.perm_middle.trans ?_)
    simp [List.append_assoc]
  have nd' := pm.nodup_iff.mp nd
  have ne : ∀ x ∈ f1 ++ (g1 ++ (k3 ++ k2)), x ≠ a := fun x hx z => (List.nodup_cons.mp nd').1 (z ▸ hx)
  have un : ∀ x, x ≠ a → upd H a (.lst (ws ++ [v])) x = H x := fun x hx => upd_ne hx
  refine ⟨fun x u hx => ?_, ⟨f1, g1 ++ (a :: (k3 ++ k2)), c.change (Same.refl _) fun x hx => ⟨(c.fnone x hx).1, un x (ne x (by simp [hx]))⟩, ?_, ?_, fun x hx => io x ?_⟩, fun x u hx hi => ?_, R.new, R.f0, R.pin⟩
  · rw [un x fun z => by rw [z, hFa] at hx; cases hx]
    exact R.sub x u hx
  · have b1' := b1.change (F' := F) (H' := upd H a (.lst (ws ++ [v]))) (Same.refl _) fun x hx => ⟨(b1.fnone x hx).1, un x (ne x (by simp [hx]))⟩
    have b5' := b5.change (F' := F) (H' := upd H a (.lst (ws ++ [v]))) (Same.refl _) fun x hx => ⟨(b5.fnone x hx).1, un x (ne x (by simp [hx]))⟩
    have b4' := b4.change (F' := F) (H' := upd H a (.lst (ws ++ [v]))) (Same.refl _) fun x hx => ⟨(b4.fnone x hx).1, un x (ne x (by simp [hx]))⟩
    exact b1'.app (ORp.mkl hFa upd_same (b5'.app b4'))
  · refine (List.Perm.nodup_iff ?_).mp nd
    refine List.Perm.append_left f1 (List.Perm.append_left g1 ?_)
    simp
  · simp only [List.mem_append, List.mem_cons] at hx ⊢
    rcases hx with h | h | h | h | h
    · exact .inl h
    · exact .inr (.inl h)
    · exact .inr (.inr (.inl (.inl h)))
    · exact .inr (.inr (.inl (.inr h)))
    · exact .inr (.inr (.inr h))
  · have q := R.keep x u hx hi
    by_cases hxa : x = a
    · subst hxa
      rcases io x (by simp) with h | h
      · exact absurd h hi
      · rw [h] at hx; cases hx
    · rw [un x hxa]; exact q

/-! ### list comprehensions -/
def M.noX {α : Type} (m : M α) : M α := fun e => match m e with
  | some (.ok a, e') => some (.ok a, e')
  | _ => none
theorem Mwp.noX {α : Type} {m : M α} {e : DEnv} {Qo : α → DEnv → Prop} {Qx Qy : Xn → DEnv → Prop} (h : Mwp (M.noX m e) Qo Qx) : Mwp (m e) Qo Qy := by
  unfold M.noX at h
  cases q : m e with
  | none => rw [q] at h; exact h.elim
  | some r =>
    obtain ⟨r, e'⟩ := r
    rw [q] at h
    cases r with
    | ok a => exact h
    | ex x => exact h.elim
def mMap (vs : List Nat) (a : OD → DEnv → Option DEnv) (mt : M Bool) (me : M OD) : List PyData → List OD → M (List OD)
  | [], acc => M.ret acc
  | d :: ds, acc => fun e => match a (.d d) (wipeE e vs) with
    | some e' => M.bind (M.noX mt) (fun k => if k then M.bind (M.noX me) (fun o => mMap vs a mt me ds (acc ++ [o])) else mMap vs a mt me ds acc) e'
    | none => none
def mLc (mi : M (List PyData)) (a : OD → DEnv → Option DEnv) (mt : M Bool) (me : M OD) (vs : List Nat) : M OD := M.bind mi fun ds => if ds.length ≤ sizeLine then M.bind (mMap vs a mt me ds []) (fun os e => some (.ok (.l os), wipeE e vs)) else mStuck
def mYes : M Bool := M.ret true
theorem yes_ok (F : Hp) (σ : L2.St) (H : Hp) (env : DEnv) (hs : List V) (ho : List OD) (Q : Bool → Hp → Prop) (R : Rel X.K S F σ H env hs ho) (q : Mwp (mYes env) (fun b env' => ∀ F' H', Same F F' → Rel X.K S F' σ H' env' hs ho → Q b H') (fun _ _ => False)) : tYes σ H Q := by
  have q' : ∀ F' H', Same F F' → Rel X.K S F' σ H' env hs ho → Q true H' := q
  exact q' F H (Same.refl _) R
def Wf : WX := fun _ _ _ _ => False
/-- the block's context -/
abbrev Blk (X : Cx) (scope : Scope) (P : Cx → Prop) : Prop := ∀ (s : Shared) (H : Hp) (C : Addr) (cl : List (Str × Addr)) (fp : List Addr), P (X.blk s H scope (compEnvC scope cl C X.env) fp)
theorem lc_run {iter : Expr} {own : List (Str × Nat)} {mi : M (List PyData)} {g : TG} {a : OD → DEnv → Option DEnv} {tt : TT} {te : TE} {mt : M Bool} {me : M OD}
    (hi : DIt X S W tg iter mi) (ga : GSpec X.K S (own.map (·.2)) g a) (hp : ∀ p ∈ S.pin, p.1 ∉ own.map (·.2))
    (ht : ∀ (F : Hp) (σ : L2.St) (H : Hp) (env : DEnv) (hs : List V) (ho : List OD) (Q : Bool → Hp → Prop), Rel X.K S F σ H env hs ho → Mwp (mt env) (fun b env' => ∀ F' H', Same F F' → Rel X.K S F' σ H' env' hs ho → Q b H') (fun _ _ => False) → tt σ H Q)
    (he : ∀ (F : Hp) (σ : L2.St) (H : Hp) (env : DEnv) (hs : List V) (ho : List OD) (Q : VK), Rel X.K S F σ H env hs ho → Mwp (me env) (fun o env' => ∀ F' H' v, Same F F' → Rel X.K S F' σ H' env' (hs ++ [v]) (ho ++ [o]) → Q v H') (fun _ _ => False) → te σ H Q)
    {F : Hp} {σ : L2.St} {H : Hp} {env : DEnv} {hs : List V} {ho : List OD} {Q : VK} (R : Rel X.K S F σ H env hs ho)
    (q : Mwp (mLc mi a mt me (own.map (·.2)) env) (fun o env' => ∀ F' H' v, Same F F' → Rel X.K S F' σ H' env' (hs ++ [v]) (ho ++ [o]) → Q v H') (QX X S W F σ hs ho)) : tLc (WI X tg iter) g tt te (own.map (·.2)) σ H Q := by
  revert ga hp q
  generalize own.map (·.2) = vs
  intro ga hp q
  refine hi F σ H env hs ho _ R ((Mwp.bind q).imp (fun ds e' _ k F' H' J s R' Y => ?_) fun _ _ _ z => z)
  split at k
  · rename_i hz
    have k := Mwp.bind k
    intro Dp hD
    have R0 : Rel X.K S F' (wipe σ vs) H' (wipeE e' vs) (hs ++ []) (ho ++ []) := by simpa using R'.wiped vs hp
    have R1 := R0.newL R.hlen (p := Dp) hD
    refine ⟨fun i m H2 => m = ds.length - i ∧ i ≤ ds.length ∧ ∃ F2 e2 acc, acc.length ≤ i ∧ Same F' F2 ∧ Rel X.K S F2 (wipe σ vs) H2 (wipeE e2 vs) (hs ++ [.ref Dp]) (ho ++ [.l acc]) ∧
      Mwp (mMap vs a mt me (ds.drop i) acc e2) (fun os e3 => Mwp (some (Rs.ok (OD.l os), wipeE e3 vs)) (fun o env' => ∀ F' H' v, Same F F' → Rel X.K S F' σ H' env' (hs ++ [v]) (ho ++ [o]) → Q v H') (QX X S W F σ hs ho)) (QX X S W F σ hs ho),
      ⟨_, rfl, Nat.zero_le _, F', e', [], Nat.le_refl _, Same.refl _, by simpa using R1, k⟩, ?_⟩
    rintro i m H2 ⟨rfl, hi', F2, e2, acc, hacc, s2, R2, k2⟩
    obtain ⟨y1, y2⟩ := Y i F2 (wipe σ vs) H2 (wipeE e2 vs) (hs ++ [.ref Dp]) (ho ++ [.l acc]) s2 R2
    have hl2 : (hs ++ [V.ref Dp]).length = (ho ++ [OD.l acc]).length := by simp [R.hlen]
    by_cases hlt : i < ds.length
    · right
      rw [List.drop_eq_getElem_cons hlt] at k2
      unfold mMap at k2
      cases ea : a (.d ds[i]) (wipeE e2 vs) with
      | none => rw [ea] at k2; exact k2.elim
      | some e3 =>
        rw [ea] at k2
        obtain ⟨go, y⟩ := y1 ds[i] (by simp [hlt])
        refine ⟨go, fun H' => ∃ F2 e2 acc, acc.length ≤ i + 1 ∧ Same F' F2 ∧ Rel X.K S F2 (wipe σ vs) H' (wipeE e2 vs) (hs ++ [.ref Dp]) (ho ++ [.l acc]) ∧
          Mwp (mMap vs a mt me (ds.drop (i + 1)) acc e2) (fun os e3 => Mwp (some (Rs.ok (OD.l os), wipeE e3 vs)) (fun o env' => ∀ F' H' v, Same F F' → Rel X.K S F' σ H' env' (hs ++ [v]) (ho ++ [o]) → Q v H') (QX X S W F σ hs ho)) (QX X S W F σ hs ho),
          fun H' h => ⟨ds.length - (i + 1), by omega, rfl, hlt, h⟩, fun x H' hy => ?_⟩
        obtain ⟨F3, s3, R3⟩ := y x H' hy
        refine ga F3 (wipe σ vs) H' (wipeE e2 vs) e3 x _ _ _ _ R3 hl2 ea fun F4 σ4 s4 w4 R4 => ?_
        have s04 : Same F' F4 := s2.trans (s3.trans s4)
        have ww : wipe (wipe σ vs) vs = wipe σ vs := by
          refine List.ext_getElem? fun j => ?_
          by_cases hj : j ∈ vs
          · cases q1 : (wipe (wipe σ vs) vs)[j]? with
            | none =>
              have z1 := List.getElem?_eq_none_iff.mp q1
              rw [wipe_length] at z1
              exact (List.getElem?_eq_none_iff.mpr z1).symm
            | some o1 =>
              have z1 := (List.getElem?_eq_some_iff.mp q1).1
              rw [wipe_length] at z1
              cases o1 with
              | some u => exact absurd hj (wipe_some q1).2
              | none =>
                cases q2 : (wipe σ vs)[j]? with
                | none => rw [List.getElem?_eq_none_iff] at q2; exact absurd z1 (by omega)
                | some o2 =>
                  cases o2 with
                  | some u => exact absurd hj (wipe_some q2).2
                  | none => rfl
          · rw [wipe_out hj]
        rw [ww] at w4
        refine ⟨w4, ht F4 σ4 H' e3 _ _ _ R4 ((Mwp.noX (Mwp.bind k2)).imp (fun b e5 _ k5 F5 H5 s5 R5 => ?_) fun _ _ _ z => z)⟩
        have back : ∀ {F6 H6 e6 acc'}, Rel X.K S F6 σ4 H6 e6 (hs ++ [.ref Dp]) (ho ++ [.l acc']) → Rel X.K S F6 (wipe σ vs) H6 (wipeE e6 vs) (hs ++ [.ref Dp]) (ho ++ [.l acc']) := fun {F6 H6 e6 acc'} R6 => by
          have := R6.wiped vs hp
          rw [w4] at this
          exact this
        cases b with
        | false =>
          simp only [Bool.false_eq_true, if_false] at k5 ⊢
          exact ⟨F5, e5, acc, by omega, s04.trans s5, back R5, k5⟩
        | true =>
          simp only [if_true] at k5 ⊢
          refine he F5 σ4 H5 e5 _ _ _ R5 ((Mwp.noX (Mwp.bind k5)).imp (fun o e7 _ k7 F7 H7 v s7 R7 => ?_) fun _ _ _ z => z)
          obtain ⟨ws, w1, w2, w3⟩ := Rel.heldPush (us := []) (by simpa [List.append_assoc] using R7) R.hlen
          exact ⟨ws, w1, by omega, F7, e7, acc ++ [o], by simp; omega, (s04.trans s5).trans s7, back w3, k7⟩
    · have e : i = ds.length := by omega
      left
      refine ⟨y2 (by omega), ?_⟩
      rw [e, List.drop_length] at k2
      exact k2 F2 H2 _ (s.trans s2) (R2.unwiped hp)
  · exact k.elim
theorem blk_t {scope : Scope} {c : Expr} {mt : M Bool} (h : Blk X scope fun Y => DT Y S Wf c mt) :
    ∃ tt, Blk X scope (fun Y => PTs Y [c] tt) ∧ ∀ (F : Hp) (σ : L2.St) (H : Hp) (env : DEnv) (hs : List V) (ho : List OD) (Q : Bool → Hp → Prop), Rel X.K S F σ H env hs ho → Mwp (mt env) (fun b env' => ∀ F' H', Same F F' → Rel X.K S F' σ H' env' hs ho → Q b H') (fun _ _ => False) → tt σ H Q := by
  refine ⟨fun σ H Q => Blk X scope fun Y => WT Y c σ H Q, fun s H0 C cl fp => pts_one ⟨fun pins s' σ H Q I h => h s H0 C cl fp pins s' I⟩, fun F σ H env hs ho Q R q s H0 C cl fp => ?_⟩
  exact h s H0 C cl fp F σ H env hs ho Q R (q.imp (fun _ _ _ z => z) fun _ _ _ z => z.elim)
theorem blk_e {scope : Scope} {c : Expr} {me : M OD} (h : Blk X scope fun Y => DE Y S Wf c me) :
    ∃ te, Blk X scope (fun Y => PE Y c te) ∧ ∀ (F : Hp) (σ : L2.St) (H : Hp) (env : DEnv) (hs : List V) (ho : List OD) (Q : VK), Rel X.K S F σ H env hs ho → Mwp (me env) (fun o env' => ∀ F' H' v, Same F F' → Rel X.K S F' σ H' env' (hs ++ [v]) (ho ++ [o]) → Q v H') (fun _ _ => False) → te σ H Q := by
  refine ⟨fun σ H Q => Blk X scope fun Y => WE Y c σ H Q, fun s H0 C cl fp => ⟨fun pins s' σ H Q I h => h s H0 C cl fp pins s' I⟩, fun F σ H env hs ho Q R q s H0 C cl fp => ?_⟩
  exact h s H0 C cl fp F σ H env hs ho Q R (q.imp (fun _ _ _ z => z) fun _ _ _ z => z.elim)
theorem de_lc {elt iter : Expr} {scope : Scope} {own : List (Str × Nat)} {pos : Pos} {mi : M (List PyData)} {g : TG} {a : OD → DEnv → Option DEnv} {me : M OD} (hc : X.calm = true) (hN : X.N.Nodup)
    (hi : DIt X S W tg iter mi) (ok : blkC X.N X.env.scope scope own = true) (hg : Blk X scope fun Y => PG Y tg g) (ga : GSpec X.K S (own.map (·.2)) g a) (hp : ∀ p ∈ S.pin, p.1 ∉ own.map (·.2)) (he : Blk X scope fun Y => DE Y S Wf elt me)
    (hs : ∀ x, foldedSetIterable iter X.env x = pure x := by intro _; rfl) : DE X S W (.ListComp elt [⟨tg, iter, [], 0⟩] scope pos) (mLc mi a mYes me (own.map (·.2))) := by
  obtain ⟨te, h1, h2⟩ := blk_e he
  intro F σ H env hs' ho Q R q
  refine WE.of (pe_lc hc hN (pi_wi X tg iter) (blkOk_by ok) hg (fun _ _ _ _ _ => pts_nil) h1 hs) ?_
  exact lc_run hi ga hp yes_ok h2 R q
theorem de_lcIf {elt iter c : Expr} {scope : Scope} {own : List (Str × Nat)} {pos : Pos} {mi : M (List PyData)} {g : TG} {a : OD → DEnv → Option DEnv} {mt : M Bool} {me : M OD} (hc : X.calm = true) (hN : X.N.Nodup)
    (hi : DIt X S W tg iter mi) (ok : blkC X.N X.env.scope scope own = true) (hg : Blk X scope fun Y => PG Y tg g) (ga : GSpec X.K S (own.map (·.2)) g a) (hp : ∀ p ∈ S.pin, p.1 ∉ own.map (·.2)) (ht : Blk X scope fun Y => DT Y S Wf c mt) (he : Blk X scope fun Y => DE Y S Wf elt me)
    (hs : ∀ x, foldedSetIterable iter X.env x = pure x := by intro _; rfl) : DE X S W (.ListComp elt [⟨tg, iter, [c], 0⟩] scope pos) (mLc mi a mt me (own.map (·.2))) := by
  obtain ⟨te, h1, h2⟩ := blk_e he
  obtain ⟨tt, h3, h4⟩ := blk_t ht
  intro F σ H env hs' ho Q R q
  refine WE.of (pe_lc hc hN (pi_wi X tg iter) (blkOk_by ok) hg h3 h1 hs) ?_
  exact lc_run hi ga hp h4 h2 R q
/-- name = [..] on one line -/
theorem ds_setLc {i : Nat} {y : Str} {py : Pos} {elt iter : Expr} {ifs : List Expr} {scope : Scope} {own : List (Str × Nat)} {pos spos : Pos} {mi : M (List PyData)} {g : TG} {a : OD → DEnv → Option DEnv} {mt : M Bool} {me : M OD} (hc : X.calm = true) (hN : X.N.Nodup)
    (hi : DIt X S W tg iter mi) (ok : blkC X.N X.env.scope scope own = true) (hg : Blk X scope fun Y => PG Y tg g) (ga : GSpec X.K S (own.map (·.2)) g a) (hp : ∀ p ∈ S.pin, p.1 ∉ own.map (·.2)) (hpi : ∀ p ∈ S.pin, p.1 ≠ i) (ht : (ifs = [] ∧ mt = mYes) ∨ ∃ c, ifs = [c] ∧ Blk X scope fun Y => DT Y S Wf c mt) (he : Blk X scope fun Y => DE Y S Wf elt me)
    (hsw : swapsWith (.ListComp elt [⟨tg, iter, ifs, 0⟩] scope pos) (some (.Name y py)) spos.line X.env = pure true := by rfl) (hy : X.N[i]? = some y := by rfl) (hyl : X.env.scope.names.lookup y = some .local := by rfl)
    (hs : ∀ x, foldedSetIterable iter X.env x = pure x := by intro _; rfl) : DS X S W (.Assign [.Name y py] (.ListComp elt [⟨tg, iter, ifs, 0⟩] scope pos) spos) (mAsg (mLc mi a mt me (own.map (·.2))) (aName i)) := by
  obtain ⟨te, h1, h2⟩ := blk_e he
  have hT : ∃ tt, Blk X scope (fun Y => PTs Y ifs tt) ∧ ∀ (F : Hp) (σ : L2.St) (H : Hp) (env : DEnv) (hs : List V) (ho : List OD) (Q : Bool → Hp → Prop), Rel X.K S F σ H env hs ho → Mwp (mt env) (fun b env' => ∀ F' H', Same F F' → Rel X.K S F' σ H' env' hs ho → Q b H') (fun _ _ => False) → tt σ H Q := by
    rcases ht with ⟨rfl, rfl⟩ | ⟨c, rfl, ht⟩
    · exact ⟨tYes, fun _ _ _ _ _ => pts_nil, yes_ok⟩
    · exact blk_t ht
  obtain ⟨tt, h3, h4⟩ := hT
  intro F σ H env D R q
  refine WS.of (ps_setLc hc hN hy hyl hsw (pi_wi X tg iter) (blkOk_by ok) hg h3 h1 hs) ?_
  refine lc_run hi ga hp h4 h2 R ((Mwp.bind q).imp (fun o e' _ k F' H' v s R' => ?_) fun x e _ z => z.q)
  exact asg_fin (gs_name (vs := [i]) hpi (by simp)) R' s k
end
end DL

set_option Elab.async false
set_option linter.all false
set_option autoImplicit false
set_option maxRecDepth 100000
/-! Defs and calls. -/
namespace DL
open PySem PySem.Spec PyProof.Rows L2

/-- a def's promise where nothing is being shown (no repr runs above) -/
structure FnG (P : Program) (w : World) (K : PySem.W.Frag) (mg : Str → Option Value) (base : Heap) (Z : CXT) (k : Nat) (f : Addr) (fd : FuncData) (ps : List Str) (sp : Sp) : Prop where
  cnt : ∀ vs H Q E, sp vs H Q E → vs.length = ps.length
  go : ∀ {A : Around} {outer : List Env} {s : Shared} {H : Hp} {as : Args} {us : List Value} {vs : List V} {Q : VK} {E : XK}, A.guards = some [] → Room k A → Env0 P w K mg base A outer s H → BindsTo s fd as (ps.zip us) →
    Vals vs us → sp vs H Q E → codeAny (model P w) A (.call (.ref f) as) (CR Z outer P w H s Q E) s
theorem FnG.up {P : Program} {w : World} {K : PySem.W.Frag} {mg : Str → Option Value} {base : Heap} {Z : CXT} {j k : Nat} {f : Addr} {fd : FuncData} {ps : List Str} {sp : Sp} (F : FnG P w K mg base Z j f fd ps sp) (h : j ≤ k) : FnG P w K mg base Z k f fd ps sp :=
  ⟨F.cnt, fun hg hr => F.go hg (hr.mono h)⟩
theorem grd_deeper {A : Around} {env : Env} (h : A.guards = some []) : (A.deeper env).guards = some [] := h

/-- the body gives the promise -/
theorem FnG.body {Z : CXT} {P : Program} {w : World} {K : PySem.W.Frag} {mg : Str → Option Value} {base : Heap} {k : Nat} {f : Addr} {name qual : Str} {params : Arguments} {body : List Stmt} {scope : Scope} {dV kV doc pm cdv ct oc : Value} {an od : Option Addr}
    {osl : Array (Option Value)} {N ps : List Str} {sp : Sp} (lk : K.lookup f = some ⟨oc, od, .func (PySem.W.fnOf name qual params body scope dV kV doc pm an cdv ct), osl⟩) (hcd : PySem.W.codeIn K cdv qual = true) (Sc : FnScope N ps scope)
    (cnt : ∀ vs H Q E, sp vs H Q E → vs.length = ps.length)
    (hb : ∀ (A : Around) (outer : List Env) (s : Shared) (H : Hp) (vs : List V) (Q : VK) (E : XK), A.guards = some [] → Room k (A.deeper (envOfC qual scope s.heap.objs.size f cdv)) → K.In base → sp vs H Q E →
      WB (cxOf Z P w K mg base N qual scope f cdv A outer s H E) body { nx := fun _ H' => Q .non H', rt := Q } (start N vs) H) :
    FnG P w K mg base Z (k + 1) f (PySem.W.fnOf name qual params body scope dV kV doc pm an cdv ct) ps sp := by
  refine ⟨cnt, fun {A outer s H as us vs Q E} hg hr e0 bt r hs => ?_⟩
  have inK : K.In s.heap := e0.mod.kin.keeps fun b o e => (e0.bs b o e).1
  have kinds : ∀ y ∈ ps.zip us, scope.names.lookup y.1 = some .local ∨ (scope.names.lookup y.1 = some .cell ∧ ((cellsFrom (s.heap.objs.size + 1) scope.names []).lookup y.1).isSome = true) := by
    intro y hy
    rcases Sc.par y.1 (List.of_mem_zip hy).1 with q | q
    · exact Or.inl q
    · exact Or.inr ⟨q, PySem.W.cellsFrom_some _ _ _ (Or.inl q)⟩
  have room : A.depth < recursionLimit := hr.depth
  refine codeAny_call_function room (inK _ _ lk) rfl Sc.co Sc.gen rfl (PySem.W.codeRec_of inK hcd) (bt _ _ _ _ (wpAny_newFunctionEnv_cells Sc.kind kinds ?_))
  rintro env rfl s1 x
  refine ⟨(e0.mod.nolimit.keeps fun b o e => (e0.bs b o e).1).keeps x.toInCall.keep, codeAny_func ?_⟩
  have I := inv_start (E := E) (CX := Z) Sc hr.hd e0 (cnt _ _ _ _ hs) r x
  refine wpAny_mono (hb A outer s H vs Q E hg (hr.deeper _) e0.mod.kin hs [] s1 I) (fun fl s' q => ?_) fun _ _ q => q
  cases fl with
  | brk => obtain ⟨_, _, _, z⟩ := q; exact z.elim
  | cont => obtain ⟨_, _, _, z⟩ := q; exact z.elim
  | next =>
    obtain ⟨σ', H', J, q⟩ := q
    exact ⟨.non, H', J.os, J.bare, J.base, J.hok, rfl, q⟩
  | ret u =>
    obtain ⟨v, σ', H', J, rv, q⟩ := q
    exact ⟨v, H', J.os, J.bare, J.base, J.hok, rv, q⟩

/-! ### what a def does to data -/
abbrev FSem := List OD → Option (Rs OD × List OD)
/-- the parameter that a def may change -/
def pick (io : Option Nat) (vs : List V) : List V := match io with
  | none => []
  | some j => (vs[j]?).toList
def outs (io : Option Nat) (e : DEnv) : Option (List OD) := match io with
  | none => some []
  | some j => match e[j]? with
    | some (some o) => some [o]
    | _ => none
def startE (n : Nat) (os : List OD) : DEnv := os.map some ++ List.replicate (n - os.length) none
def semD (io : Option Nat) (n : Nat) (m : M Fl) : FSem := fun os => match m (startE n os) with
  | some (.ok (.rt o), e) => (outs io e).map fun l => (.ok o, l)
  | some (.ok .nx, e) => (outs io e).map fun l => (.ok (.d .none), l)
  | some (.ex x, e) => (outs io e).map fun l => (.ex x, l)
  | _ => none
/-- nothing owned but the def's io parameter -/
def OD.still : OD → Bool
  | .d _ => true
  | .s _ => true
  | _ => false
def okArgs (io : Option Nat) (os : List OD) : Prop := ∀ j o, os[j]? = some o → io ≠ some j → o.still = true
/-- behind a call -/
structure Post (K : PySem.W.Frag) (F H : Hp) (fp : List Addr) (io : Option Nat) (vs : List V) (F' H' : Hp) (os' : List OD) (hs : List V) (ho : List OD) : Prop where
  f : Same F F'
  sub : Same F' H'
  reps : ∃ fp1 fp2, OReps K F' H' (pick io vs) os' fp1 ∧ OReps K F' H' hs ho fp2 ∧ (fp1 ++ fp2).Nodup ∧ ∀ x ∈ fp1 ++ fp2, x ∈ fp ∨ H x = none
  keep : ∀ x o, H x = some o → x ∉ fp → H' x = some o
  new : ∀ x, F' x ≠ none → F x ≠ none ∨ H x = none ∨ x ∈ fp
def FWp (r : Option (Rs OD × List OD)) (Qo : OD → List OD → Prop) (Qx : Xn → List OD → Prop) : Prop := match r with
  | some (.ok o, os) => Qo o os
  | some (.ex x, os) => Qx x os
  | none => False
def spD (K : PySem.W.Frag) (mg : Str → Option Value) (n : Nat) (io : Option Nat) (fs : FSem) : Sp := fun vs H Q E => vs.length = n ∧ ∃ F os fp, Same F H ∧ OReps K F H vs os fp ∧ fp.Nodup ∧ okArgs io os ∧
  FWp (fs os) (fun o os' => ∀ F' H' v, Post K F H fp io vs F' H' os' [v] [o] → Q v H') (fun x os' => ∀ F' H' cls d, Post K F H fp io vs F' H' os' [] [] → XR K mg F' H' x cls d → E cls d H')

section
variable {K : PySem.W.Frag} {F H : Hp} {S : Sx}
theorem start_rep : ∀ {vs : List V} {os : List OD} {fp : List Addr} (n : Nat), OReps K F H vs os fp → ERep K F H (vs.map some ++ List.replicate n none) (os.map some ++ List.replicate n none) fp
  | [], [], _, n, h => by
    cases h
    induction n with
    | zero => exact .nil
    | succ n ih =>
      simp only [List.map_nil, List.nil_append, List.replicate_succ] at ih ⊢
      exact .un ih
  | _ :: _, [], _, _, h => by have := h.len; simp at this
  | [], _ :: _, _, _, h => by have := h.len; simp at this
  | v :: vs, o :: os, fp, n, h => by
    obtain ⟨f1, f2, a, b, rfl⟩ := h.inv
    exact .so a (start_rep n b)
def pinsOf (io : Option Nat) (vs : List V) : List (Nat × V) := match io with
  | none => []
  | some j => (vs[j]?).toList.map fun v => (j, v)
theorem pick_rep {io : Option Nat} {vs : List V} {F' H' : Hp} {σ' : L2.St} {e : DEnv} {os' : List OD} {hs : List V} {ho : List OD} (R : Rel K S F' σ' H' e hs ho) (hj : ∀ j, io = some j → j < vs.length) (hp : S.pin = pinsOf io vs) (ho' : outs io e = some os') :
    ∃ fp1 fp2, OReps K F' H' (pick io vs) os' fp1 ∧ OReps K F' H' hs ho fp2 ∧ (fp1 ++ fp2).Nodup ∧ ∀ x ∈ fp1 ++ fp2, x ∈ S.io ∨ S.H0 x = none := by
  obtain ⟨f1, f2, a, b, nd, io'⟩ := R.rep
  cases io with
  | none =>
    cases ho'
    exact ⟨[], f2, .nil, b, (List.nodup_append.mp nd).2.1, fun x hx => io' x (by simpa using .inr (by simpa using hx))⟩
  | some j =>
    simp only [outs] at ho'
    split at ho'
    · rename_i o eo
      cases ho'
      obtain ⟨v, fpi, rest, h1, h2, h3, _⟩ := a.at eo
      cases hv : vs[j]? with
      | none =>
        have h1 := hj j rfl
        rw [List.getElem?_eq_none_iff] at hv
        omega
      | some u =>
        have hpin := R.pin (j, u) (by rw [hp]; simp [pinsOf, hv])
        simp only at hpin
        rw [h1] at hpin
        cases hpin
        have pk : pick (some j) vs = [v] := by simp [pick, hv]
        rw [pk]
        have pm : (f1 ++ f2).Perm (rest ++ (fpi ++ f2)) := by
          have := (h3.append_right f2).trans (List.Perm.append_right f2 (List.perm_append_comm (l₁ := fpi) (l₂ := rest)))
          rw [List.append_assoc] at this
          exact this
        exact ⟨fpi, f2, h2, b, (List.nodup_append.mp (pm.nodup_iff.mp nd)).2.1, fun x hx => io' x (pm.mem_iff.mpr (List.mem_append_right _ hx))⟩
    · cases ho'

/-- the sets' facts at a def's entry -/
def entS (H F : Hp) (fp : List Addr) (io : Option Nat) (vs : List V) : Sx := ⟨H, F, fp, pinsOf io vs⟩
theorem ent_pins {H F : Hp} {fp : List Addr} {io : Option Nat} {vs : List V} {i : Nat} (h : io ≠ some i) : ∀ p ∈ (entS H F fp io vs).pin, p.1 ≠ i := by
  intro p hp
  cases io with
  | none => simp [entS, pinsOf] at hp
  | some j =>
    simp only [entS, pinsOf, List.mem_map] at hp
    obtain ⟨v, _, rfl⟩ := hp
    exact fun z => h (by rw [← z])
theorem entry {n : Nat} {vs : List V} {os : List OD} {fp : List Addr} {io : Option Nat} (hs : Same F H) (h : OReps K F H vs os fp) (nd : fp.Nodup) : Rel K (entS H F fp io vs) F (vs.map some ++ List.replicate n none) H (os.map some ++ List.replicate n none) [] [] := by
  refine ⟨hs, ⟨fp, [], start_rep n h, .nil, by simpa using nd, fun x hx => .inl (show x ∈ fp by simpa using hx)⟩, fun x o e _ => e, fun x hx => .inl hx, Same.refl _, fun p hp => ?_⟩
  cases io with
  | none => simp [entS, pinsOf] at hp
  | some j =>
    simp only [entS, pinsOf, List.mem_map] at hp
    obtain ⟨v, hv, rfl⟩ := hp
    have hv' : vs[j]? = some v := by
      cases q : vs[j]? with
      | none => rw [q] at hv; simp at hv
      | some u => rw [q] at hv; simp at hv; rw [hv]
    have := (List.getElem?_eq_some_iff.mp hv').1
    show (vs.map some ++ List.replicate n none)[j]? = some (some v)
    rw [List.getElem?_append_left (by simpa using this), List.getElem?_map, hv']
    rfl
theorem post_of {io : Option Nat} {vs : List V} {fp : List Addr} {F' H' : Hp} {σ' : L2.St} {e : DEnv} {os' : List OD} {hs : List V} {ho : List OD} (s : Same F F') (R : Rel K (entS H F fp io vs) F' σ' H' e hs ho) (hj : ∀ j, io = some j → j < vs.length) (h : outs io e = some os') :
    Post K F H fp io vs F' H' os' hs ho := ⟨s, R.sub, pick_rep R hj rfl h, R.keep, R.new⟩
/-- a body's judgement gives what WB wants -/
theorem body_wb {X : Cx} {body : List Stmt} {m : M Fl} {vs : List V} {H : Hp} {Q : VK} {E : XK} {n : Nat} {io : Option Nat} (hj : ∀ j, io = some j → j < n) (hN : X.N.length ≥ n) (hsp : spD X.K X.mg n io (semD io X.N.length m) vs H Q E)
    (hb : ∀ F os fp, Same F H → OReps X.K F H vs os fp → okArgs io os → DB X (entS H F fp io vs) (fun cls d _ H => E cls d H) body m) : WB X body { nx := fun _ H' => Q .non H', rt := Q } (start X.N vs) H := by
  obtain ⟨hn, F, os, fp, s, r, nd, ok, k⟩ := hsp
  have hj' : ∀ j, io = some j → j < vs.length := fun j e => by rw [hn]; exact hj j e
  have hl : vs.length = os.length := r.len
  have R := entry (n := X.N.length - vs.length) (io := io) s r nd
  refine hb F os fp s r ok F _ H (startE X.N.length os) _ ?_ ?_
  · unfold startE
    rw [← hl]
    exact R
  · unfold semD at k
    cases q : m (startE X.N.length os) with
    | none => rw [q] at k; exact k.elim
    | some p =>
      obtain ⟨p, e⟩ := p
      rw [q] at k
      cases p with
      | ex x =>
        simp only at k
        cases ho : outs io e with
        | none => rw [ho] at k; exact k.elim
        | some os' =>
          rw [ho] at k
          exact fun F' σ' H' cls d s' R' xr => k F' H' cls d (post_of s' R' hj' ho) xr
      | ok fl =>
        cases fl with
        | bk => exact k.elim
        | ct => exact k.elim
        | rt o =>
          simp only at k
          cases ho : outs io e with
          | none => rw [ho] at k; exact k.elim
          | some os' =>
            rw [ho] at k
            exact fun F' σ' H' v s' R' => k F' H' v (post_of s' R' hj' ho)
        | nx =>
          simp only at k
          cases ho : outs io e with
          | none => rw [ho] at k; exact k.elim
          | some os' =>
            rw [ho] at k
            exact fun F' σ' H' s' R' => k F' H' .non (post_of s' (R'.push (.non .nil)) hj' ho)

/-! ### the caller's side -/
theorem rdb_still : ∀ {vs : List V} {os : List OD}, Rdb K F H vs os → (∀ o ∈ os, o.still = true) → OReps K F H vs os []
  | _, _, .nil, _ => .nil
  | _, _, .cons (o := o) (fp := fp) h r, hs => by
    have r' := rdb_still r fun o ho => hs o (List.mem_cons_of_mem _ ho)
    have := hs o List.mem_cons_self
    cases o with
    | d x =>
      have := (ORp.mkd (H := H) (ORp.d_inv h).2).cons r'
      simpa using this
    | s ns =>
      obtain ⟨a, rfl, q⟩ := ORp.s_inv h
      exact .s q r'
    | l os => simp [OD.still] at this
    | m ks os => simp [OD.still] at this
/-- back from a call that changes nothing of ours -/
theorem Rel.back {σ : L2.St} {env : DEnv} {hs : List V} {ho : List OD} {F' H' : Hp} {vs ws : List V} {os' us : List OD} (R : Rel K S F σ H env hs ho) (p : Post K F H [] none vs F' H' os' ws us) : Rel K S F' σ H' env (hs ++ ws) (ho ++ us) := by
  obtain ⟨f1, f2, a, b, nd, io⟩ := R.rep
  obtain ⟨g1, g2, c, d, nd2, io2⟩ := p.reps
  have kH : ∀ x ∈ f1 ++ f2, F' x = none ∧ H' x = H x := fun x hx => by
    have fx : F x = none ∧ ∃ o, H x = some o := by
      rcases List.mem_append.mp hx with h | h
      · exact a.fnone x h
      · exact b.fnone x h
    obtain ⟨fx, o, e⟩ := fx
    refine ⟨?_, by rw [e]; exact p.keep x o e (by simp)⟩
    cases q : F' x with
    | none => rfl
    | some u =>
      rcases p.new x (by rw [q]; simp) with h | h | h
      · exact absurd fx h
      · rw [e] at h; cases h
      · simp at h
  have fr : ∀ x ∈ g2, H x = none := fun x hx => by
    rcases io2 x (List.mem_append_right _ hx) with h | h
    · simp at h
    · exact h
  refine ⟨p.sub, ⟨f1, f2 ++ g2, a.change p.f fun x hx => kH x (List.mem_append_left _ hx), (b.change p.f fun x hx => kH x (List.mem_append_right _ hx)).app d, ?_, fun x hx => ?_⟩, fun x o e hx => p.keep x o (R.keep x o e hx) (by simp), fun x hx => ?_, R.f0.trans p.f, R.pin⟩
  · rw [← List.append_assoc]
    refine List.nodup_append.mpr ⟨nd, (List.nodup_append.mp nd2).2.1, fun x hx y hy z => ?_⟩
    subst z
    have e : H x ≠ none := by
      rcases List.mem_append.mp hx with h | h
      · obtain ⟨_, o, e⟩ := a.fnone x h; rw [e]; simp
      · obtain ⟨_, o, e⟩ := b.fnone x h; rw [e]; simp
    exact e (fr x hy)
  · rw [← List.append_assoc] at hx
    rcases List.mem_append.mp hx with h | h
    · exact io x h
    · exact R.notin (fr x h)
  · rcases p.new x hx with h | h | h
    · exact R.new x h
    · rcases R.notin h with z | z
      · exact .inr (.inr z)
      · exact .inr (.inl z)
    · simp at h
/-- back from a call that may have changed the thing in slot i -/
theorem Rel.backIo {σ : L2.St} {env : DEnv} {hs : List V} {ho : List OD} {i : Nat} {o : OD} (R : Rel K S F σ H env hs ho) (e : env[i]? = some (some o)) :
    ∃ v fp, σ[i]? = some (some v) ∧ ORp K F H v o fp ∧ fp.Nodup ∧ ∀ (F' H' : Hp) (vs ws : List V) (o' : OD) (us : List OD) (j : Nat), vs[j]? = some v → Post K F H fp (some j) vs F' H' [o'] ws us → Rel K S F' σ H' (env.set i (some o')) (hs ++ ws) (ho ++ us) := by
  obtain ⟨f1, f2, a, b, nd, io⟩ := R.rep
  obtain ⟨v, fpi, rest, h1, h2, h3, h4⟩ := a.at e
  have nd' := nodup_perm_app nd h3
  have ndi : fpi.Nodup := by rw [List.append_assoc] at nd'; exact (List.nodup_append.mp nd').1
  have dj : ∀ x ∈ rest ++ f2, x ∉ fpi := fun x hx q => by
    rw [List.append_assoc] at nd'
    exact (List.nodup_append.mp nd').2.2 x q x hx rfl
  refine ⟨v, fpi, h1, h2, ndi, fun F' H' vs ws o' us j hj p => ?_⟩
  obtain ⟨g1, g2, c, d, nd2, io2⟩ := p.reps
  have pk : pick (some j) vs = [v] := by simp [pick, hj]
  rw [pk] at c
  have kH : ∀ x ∈ rest ++ f2, F' x = none ∧ H' x = H x := fun x hx => by
    have fx : F x = none ∧ ∃ o, H x = some o := by
      rcases List.mem_append.mp hx with h | h
      · exact a.fnone x (h3.mem_iff.mpr (List.mem_append_right _ h))
      · exact b.fnone x h
    obtain ⟨fx, o, e⟩ := fx
    refine ⟨?_, by rw [e]; exact p.keep x o e (dj x hx)⟩
    cases q : F' x with
    | none => rfl
    | some u =>
      rcases p.new x (by rw [q]; simp) with h | h | h
      · exact absurd fx h
      · rw [e] at h; cases h
      · exact absurd h (dj x hx)
  obtain ⟨fp', q1, q2⟩ := h4 F' H' v o' g1 p.f (fun x hx => kH x (List.mem_append_left _ hx)) c
  have hσ : σ.set i (some v) = σ := List.ext_getElem? fun j => by
    rw [List.getElem?_set]
    by_cases hj : i = j
    · subst hj
      rw [if_pos rfl, h1]
      have := (List.getElem?_eq_some_iff.mp h1).1
      rw [if_pos this]
    · rw [if_neg hj]
  rw [hσ] at q1
  have inIo : ∀ x ∈ g1 ++ g2, x ∈ S.io ∨ S.H0 x = none := fun x hx => by
    rcases io2 x hx with h | h
    · exact io x (List.mem_append_left _ (h3.mem_iff.mpr (List.mem_append_left _ h)))
    · exact R.notin h
  have ne : ∀ x ∈ rest ++ f2, x ∉ g1 ++ g2 := fun x hx z => by
    rcases io2 x z with h | h
    · exact dj x hx h
    · have e : H x ≠ none := by
        rcases List.mem_append.mp hx with h | h
        · obtain ⟨_, o, e⟩ := a.fnone x (h3.mem_iff.mpr (List.mem_append_right _ h)); rw [e]; simp
        · obtain ⟨_, o, e⟩ := b.fnone x h; rw [e]; simp
      exact e h
  have pm : (fp' ++ (f2 ++ g2)).Perm ((g1 ++ g2) ++ (rest ++ f2)) := by
    have e1 : (fp' ++ (f2 ++ g2)).Perm ((g1 ++ rest) ++ (g2 ++ f2)) := (q2.append_right _).trans (List.Perm.append_left _ List.perm_append_comm)
    refine e1.trans ?_
    rw [List.append_assoc, List.append_assoc]
    refine List.Perm.append_left g1 ?_
    rw [← List.append_assoc, ← List.append_assoc]
    exact List.perm_append_comm.append_right f2
  refine ⟨p.sub, ⟨fp', f2 ++ g2, q1, (b.change p.f fun x hx => kH x (List.mem_append_right _ hx)).app d, ?_, fun x hx => ?_⟩, fun x o e hx => ?_, fun x hx => ?_, R.f0.trans p.f, R.pin⟩
  · refine pm.nodup_iff.mpr (List.nodup_append.mpr ⟨nd2, ?_, fun x hx y hy z => ?_⟩)
    · rw [List.append_assoc] at nd'
      exact (List.nodup_append.mp nd').2.1
    · subst z
      exact ne x hy hx
  · rcases List.mem_append.mp (pm.mem_iff.mp hx) with h | h
    · exact inIo x h
    · rcases List.mem_append.mp h with h | h
      · exact io x (List.mem_append_left _ (h3.mem_iff.mpr (List.mem_append_right _ h)))
      · exact io x (List.mem_append_right _ h)
  · by_cases hi : x ∈ fpi
    · rcases io x (List.mem_append_left _ (h3.mem_iff.mpr (List.mem_append_left _ hi))) with h | h
      · exact absurd h hx
      · rw [h] at e; cases e
    · exact p.keep x o (R.keep x o e hx) hi
  · rcases p.new x hx with h | h | h
    · exact R.new x h
    · rcases R.notin h with z | z
      · exact .inr (.inr z)
      · exact .inr (.inl z)
    · rcases io x (List.mem_append_left _ (h3.mem_iff.mpr (List.mem_append_left _ h))) with z | z
      · exact .inr (.inr z)
      · exact .inr (.inl z)
end

/-! ### calls -/
def allStill (os : List OD) : Bool := os.all OD.still
def mCall (fs : FSem) (qs : List Opd) : M OD := M.bind (args qs) fun hes e => match rds e hes with
  | none => none
  | some os => if allStill os then match fs os with
    | some (r, []) => some (r, e)
    | _ => none
    else none
/-- the j-th argument is a slot's thing that the def may change -/
def mCallIo (j : Nat) (fs : FSem) (qs : List Opd) : M OD := M.bind (args qs) fun hes e => match rds e hes with
  | none => none
  | some os => match hes[j]? with
    | some (.al i) => if allStill (os.eraseIdx j) then match fs os with
      | some (r, [o']) => some (r, e.set i (some o'))
      | _ => none
      else none
    | _ => none
/-- a def that may be called by its name -/
structure CalD (P : Program) (w : World) (K : PySem.W.Frag) (mg : Str → Option Value) (base : Heap) (Z : CXT) (k : Nat) (x : Str) (ps : List Str) (io : Option Nat) (fs : FSem) : Prop where
  ex : ∃ (f : Addr) (fd : FuncData), FnG P w K mg base Z k f fd ps (spD K mg ps.length io fs) ∧ mg x = some (.ref f) ∧ PySem.W.keepIn K (.ref f) = true ∧ Binds K fd ps []
section
variable {X : Cx} {S : Sx} {W : WX} {Z : CXT}
theorem args_len : ∀ {qs : List Opd} {env env' : DEnv} {hes : List HE}, args qs env = some (.ok hes, env') → hes.length = qs.length
  | [], _, _, _, h => by cases h; rfl
  | q :: qs, env, env', hes, h => by
    unfold args M.bind at h
    cases q1 : q.go env with
    | none => rw [q1] at h; cases h
    | some r =>
      obtain ⟨r, e1⟩ := r
      rw [q1] at h
      cases r with
      | ex x => cases h
      | ok he =>
        simp only [M.bind] at h
        cases q2 : args qs e1 with
        | none => rw [q2] at h; cases h
        | some r2 =>
          obtain ⟨r2, e2⟩ := r2
          rw [q2] at h
          cases r2 with
          | ex x => cases h
          | ok hes2 =>
            cases h
            simp [args_len q2]
theorem mt_len {σ : L2.St} {hes vs hvs hos} (m : Mt σ hes vs hvs hos) : hes.length = vs.length := by
  induction m with
  | nil => rfl
  | o _ ih => simp [ih]
  | al _ _ ih => simp [ih]
theorem mt_al {σ : L2.St} {hes vs hvs hos} {j i : Nat} (m : Mt σ hes vs hvs hos) (h : hes[j]? = some (.al i)) : ∃ v, vs[j]? = some v ∧ σ[i]? = some (some v) := by
  induction m generalizing j with
  | nil => simp at h
  | o _ ih =>
    cases j with
    | zero => simp at h
    | succ j => exact ih (by simpa using h)
  | al hh _ ih =>
    cases j with
    | zero =>
      simp at h
      subst h
      exact ⟨_, by simp, hh⟩
    | succ j => exact ih (by simpa using h)
theorem rds_at {env : DEnv} : ∀ {hes : List HE} {os : List OD} {j : Nat} {h : HE}, rds env hes = some os → hes[j]? = some h → ∃ o, os[j]? = some o ∧ h.rd env = some o
  | [], _, _, _, _, h => by simp at h
  | h0 :: hes, os, j, h, e, hj => by
    simp only [rds] at e
    cases q1 : h0.rd env with
    | none => rw [q1] at e; cases e
    | some o =>
      rw [q1] at e
      cases q2 : rds env hes with
      | none => rw [q2] at e; cases e
      | some os' =>
        rw [q2] at e
        cases e
        cases j with
        | zero =>
          simp at hj
          subst hj
          exact ⟨o, by simp, q1⟩
        | succ j => exact (rds_at q2 (by simpa using hj)).imp fun o ho => by simpa using ho
/-- one of the operands owned, the others still -/
theorem rdb_io {K : PySem.W.Frag} {F H : Hp} : ∀ {vs : List V} {os : List OD} {j : Nat} {v : V} {o : OD} {fp : List Addr}, Rdb K F H vs os → vs[j]? = some v → os[j]? = some o → ORp K F H v o fp → (∀ u ∈ os.eraseIdx j, u.still = true) → OReps K F H vs os fp
  | _, _, j, _, _, _, .nil, h, _, _, _ => by simp at h
  | _, _, 0, _, _, fp, .cons h r, h1, h2, h3, hs => by
    simp at h1 h2
    subst h1
    subst h2
    have := h3.cons (rdb_still r (by simpa using hs))
    simpa using this
  | _, _, j + 1, _, _, fp, .cons (o := o) h r, h1, h2, h3, hs => by
    simp only [List.eraseIdx_cons_succ, List.mem_cons, forall_eq_or_imp] at hs
    have r' := rdb_io r (by simpa using h1) (by simpa using h2) h3 hs.2
    have := hs.1
    cases o with
    | d x =>
      have := (ORp.mkd (H := H) (ORp.d_inv h).2).cons r'
      simpa using this
    | s ns =>
      obtain ⟨a, rfl, q⟩ := ORp.s_inv h
      exact .s q r'
    | l os => simp [OD.still] at this
    | m ks os => simp [OD.still] at this
theorem run_g {k : Nat} {f : Addr} {fd : FuncData} {ps : List Str} {sp : Sp} {pins : List (Addr × Obj)} {σ : L2.St} {H : Hp} {s : Shared} {Q : VK} {E : XK} {as : Args} {us : List Value} {vs : List V} (F : FnG X.prog X.w X.K X.mg X.base Z k f fd ps sp) (hr : Room k X.A) (hg : X.A.guards = some [])
    (hx : PassesAt Z X σ E) (I : Inv X pins σ H s) (bt : BindsTo s fd as (ps.zip us)) (r : Vals vs us) (h : sp vs H Q E) : wpAny (model X.prog X.w) X.A (call (.ref f) as.pos as.kw) (EP X pins σ Q) X.xe s := by
  refine wpAny_call (codeAny_mono (F.go hg hr I.env0 bt r h) fun r s' q => ?_)
  match r, q with
  | .error e, q => exact hx pins H s e s' I q
  | .ok (.ret u), q => exact I.after q
/-- f(e, ..) -/
theorem call_core {k : Nat} {x : Str} {ps : List Str} {io : Option Nat} {fs : FSem} {e : Expr} {es : List Expr} {p pos : Pos} {Q : VK} {σ : L2.St} {H : Hp} (C : CalD X.prog X.w X.K X.mg X.base Z k x ps io fs) (hr : Room k X.A) (hg : X.A.guards = some []) (hx : ∀ σ, PassesAt Z X σ fun cls d H => W cls d σ H)
    (hgl : Gl X x) (hdb : (x == ("__debug__" : Str)) = false) (hst : starEach (e :: es) X.env = (false, eval e X.env) :: starEach es X.env) (hpl : (backTo pos (starEach es X.env)).any (·.1) = false)
    (h : WA X (e :: es) σ H fun vs H1 => spD X.K X.mg ps.length io fs vs H1 Q fun cls d H2 => W cls d σ H2) : WE X (.Call (.Name x p) (e :: es) [] pos) σ H Q := by
  obtain ⟨f, fd, F, hm, hk, bd⟩ := C.ex
  intro pins s I
  refine wpAny_Call_Name_kw (ld_glob I hgl hm ?_ hdb)
  refine PySem.W.callWith_K (h₀ := X.base) I.ok.mod.kin hk (thn ((pa_wa X (e :: es)).run pos pins s σ H _ I h) ?_) hst hpl
  rintro us s1 ⟨vs, H1, I1, r, q⟩
  have hl : (us ++ ([] : List Value)).length = ps.length := by
    rw [List.append_nil, ← r.length]
    exact F.cnt _ _ _ _ q
  refine ⟨I1.kIn, ?_⟩
  have b := bd s1 us I1.kIn hl
  rw [List.append_nil] at b
  exact run_g (as := ⟨us, []⟩) F hr hg (hx σ) I1 b r q
theorem call_end {n : Nat} {fs : FSem} {F F' H' : Hp} {σ : L2.St} {env' : DEnv} {hs hvs : List V} {ho hos : List OD} {hes : List HE} {vs : List V} {Q : VK} (hl : hs.length = ho.length) (hn : vs.length = n) (s : Same F F') (mt : Mt σ hes vs hvs hos) (R : Rel X.K S F' σ H' env' (hs ++ hvs) (ho ++ hos))
    (k : Mwp ((match rds env' hes with
      | none => none
      | some os => if allStill os then match fs os with
        | some (r, []) => some (r, env')
        | _ => none
        else none : Option (Rs OD × DEnv))) (fun o env' => ∀ F' H' v, Same F F' → Rel X.K S F' σ H' env' (hs ++ [v]) (ho ++ [o]) → Q v H') (QX X S W F σ hs ho)) :
    spD X.K X.mg n none fs vs H' Q fun cls d H2 => W cls d σ H2 := by
  cases e : rds env' hes with
  | none => rw [e] at k; exact k.elim
  | some os =>
    rw [e] at k
    simp only at k
    split at k
    · rename_i hst
      have rb := mt.rdb R hl e
      have R0 := R.drop hl
      have hst' : ∀ o ∈ os, o.still = true := by simpa [allStill] using hst
      refine ⟨hn, F', os, [], R.sub, rdb_still rb hst', List.nodup_nil, fun j o ho _ => hst' o (List.mem_of_getElem? ho), ?_⟩
      cases q : fs os with
      | none => rw [q] at k; exact k.elim
      | some p =>
        obtain ⟨r, os'⟩ := p
        rw [q] at k
        cases os' with
        | cons a b => exact k.elim
        | nil =>
          cases r with
          | ok o => exact fun F2 H2 v p => k F2 H2 v (s.trans p.f) (R0.back p)
          | ex x => exact fun F2 H2 cls d p xr => k F2 H2 cls d (s.trans p.f) (by simpa using R0.back p) xr
    · exact k.elim
theorem de_call {k : Nat} {x : Str} {ps : List Str} {fs : FSem} {e : Expr} {es : List Expr} {qs : List Opd} {p pos : Pos} (C : CalD X.prog X.w X.K X.mg X.base Z k x ps none fs) (hr : Room k X.A) (hg : X.A.guards = some []) (hx : ∀ σ, PassesAt Z X σ fun cls d H => W cls d σ H)
    (ha : DAs X S W (e :: es) qs) (hq : qs.length = ps.length) (hgl : Gl X x := by rfl) (hdb : (x == ("__debug__" : Str)) = false := by decide) (hst : starEach (e :: es) X.env = (false, eval e X.env) :: starEach es X.env := by rfl) (hpl : (backTo pos (starEach es X.env)).any (·.1) = false := by rfl) :
    DE X S W (.Call (.Name x p) (e :: es) [] pos) (mCall fs qs) := by
  intro F σ H env hs ho Q R q
  refine call_core C hr hg hx hgl hdb hst hpl (ha F σ H env hs ho _ R ((Mwp.bind q).imp (fun hes env' hh k F' H' vs hvs hos s mt R' => ?_) fun _ _ _ z => z))
  exact call_end R.hlen (by rw [← mt_len mt, ← hq]; exact args_len hh) s mt R' k
end
end DL

set_option Elab.async false
set_option linter.all false
set_option autoImplicit false
set_option maxRecDepth 100000
/-! Calls with an own argument, with keywords; a def of the text; the law's own call. -/
namespace DL
open PySem PySem.Spec PyProof.Rows L2
section
variable {X : Cx} {S : Sx} {W : WX} {Z : CXT}
theorem de_callIo {k j : Nat} {x : Str} {ps : List Str} {fs : FSem} {e : Expr} {es : List Expr} {qs : List Opd} {p pos : Pos} (C : CalD X.prog X.w X.K X.mg X.base Z k x ps (some j) fs) (hr : Room k X.A) (hg : X.A.guards = some []) (hx : ∀ σ, PassesAt Z X σ fun cls d H => W cls d σ H)
    (ha : DAs X S W (e :: es) qs) (hq : qs.length = ps.length) (hgl : Gl X x := by rfl) (hdb : (x == ("__debug__" : Str)) = false := by decide) (hst : starEach (e :: es) X.env = (false, eval e X.env) :: starEach es X.env := by rfl) (hpl : (backTo pos (starEach es X.env)).any (·.1) = false := by rfl) :
    DE X S W (.Call (.Name x p) (e :: es) [] pos) (mCallIo j fs qs) := by
  intro F σ H env hs ho Q R q
  refine call_core C hr hg hx hgl hdb hst hpl (ha F σ H env hs ho _ R ((Mwp.bind q).imp (fun hes env' hh k F' H' vs hvs hos s mt R' => ?_) fun _ _ _ z => z))
  have hn : vs.length = ps.length := by rw [← mt_len mt, ← hq]; exact args_len hh
  cases e1 : rds env' hes with
  | none => rw [e1] at k; exact k.elim
  | some os =>
    rw [e1] at k
    simp only at k
    cases e2 : hes[j]? with
    | none => rw [e2] at k; exact k.elim
    | some he =>
      rw [e2] at k
      cases he with
      | o y => exact k.elim
      | al i =>
        simp only at k
        split at k
        · rename_i hst'
          have rb := mt.rdb R' R.hlen e1
          have R0 := R'.drop R.hlen
          obtain ⟨v, hv, hσ⟩ := mt_al mt e2
          obtain ⟨o, ho', hrd⟩ := rds_at e1 e2
          simp only [HE.rd] at hrd
          cases q0 : env'[i]? with
          | none => rw [q0] at hrd; cases hrd
          | some oo =>
            rw [q0] at hrd
            simp only [Option.join_some] at hrd
            subst hrd
            obtain ⟨v', fp, h1, h2, nd, bk⟩ := R0.backIo q0
            rw [hσ] at h1
            cases h1
            have hst2 : ∀ u ∈ os.eraseIdx j, u.still = true := by simpa [allStill] using hst'
            refine ⟨hn, F', os, fp, R'.sub, rdb_io rb hv ho' h2 hst2, nd, fun a b hb hne => ?_, ?_⟩
            · refine hst2 b ?_
              have hne' : a ≠ j := fun z => hne (by rw [z])
              rw [List.mem_iff_getElem?]
              rcases Nat.lt_or_ge a j with hlt | hge
              · exact ⟨a, by rw [List.getElem?_eraseIdx_of_lt hlt]; exact hb⟩
              · refine ⟨a - 1, ?_⟩
                rw [List.getElem?_eraseIdx_of_ge (by omega)]
                rw [show a - 1 + 1 = a by omega]
                exact hb
            · cases q : fs os with
              | none => rw [q] at k; exact k.elim
              | some pp =>
                obtain ⟨r, os'⟩ := pp
                rw [q] at k
                match os' with
                | [] => exact k.elim
                | _ :: _ :: _ => exact k.elim
                | [o'] =>
                  cases r with
                  | ok o => exact fun F2 H2 v p => k F2 H2 v (s.trans p.f) (bk F2 H2 vs _ o' _ j hv p)
                  | ex x => exact fun F2 H2 cls d p xr => k F2 H2 cls d (s.trans p.f) (by simpa using bk F2 H2 vs _ o' _ j hv p) xr
        · exact k.elim

/-! ### keywords -/
/-- keywords alone: the arguments as written, then put into the parameters' order -/
def mCallK (perm : List Nat) (fs : FSem) (qs : List Opd) : M OD := M.bind (args qs) fun hes e => match rds e hes with
  | none => none
  | some os => if allStill os then match fs (perm.filterMap fun j => os[j]?) with
    | some (r, []) => some (r, e)
    | _ => none
    else none
def WK (X : Cx) (kws : List Keyword) : TA := fun σ H Q => ∀ (pos : Pos) (pins : List (Addr × Obj)) (s : Shared), Inv X pins σ H s → wpAny (model X.prog X.w) X.A (evalAll ((backToKw pos (keywordEach kws X.env)).map (·.2))) (AP X pins σ Q) X.xe s
theorem pk_wk (X : Cx) (kws : List Keyword) : PK X kws (WK X kws) := ⟨fun pos pins s _ _ _ I h => h pos pins s I⟩
theorem WK.of {kws : List Keyword} {t : TA} {σ : L2.St} {H : Hp} {Q : List V → Hp → Prop} (h : PK X kws t) (q : t σ H Q) : WK X kws σ H Q := fun pos pins s I => h.run pos pins s σ H Q I q
def DKs (X : Cx) (S : Sx) (W : WX) (kws : List Keyword) (qs : List Opd) : Prop :=
  ∀ (F : Hp) (σ : L2.St) (H : Hp) (env : DEnv) (hs : List V) (ho : List OD) (Q : List V → Hp → Prop), Rel X.K S F σ H env hs ho →
    Mwp (args qs env) (fun hes env' => ∀ F' H' vs hvs hos, Same F F' → Mt σ hes vs hvs hos → Rel X.K S F' σ H' env' (hs ++ hvs) (ho ++ hos) → Q vs H') (QX X S W F σ hs ho) → WK X kws σ H Q
theorem DKs.nil : DKs X S W [] [] := fun F σ H env hs ho Q R h => WK.of pk_nil (h F H [] [] [] (Same.refl _) .nil (by simpa using R))
theorem DKs.cons {nm : Option Str} {kpos : Pos} {e : Expr} {kws : List Keyword} {q : Opd} {qs : List Opd} (h1 : DO X S W e q) (h2 : DKs X S W kws qs) : DKs X S W (⟨nm, e, kpos⟩ :: kws) (q :: qs) := by
  intro F σ H env hs ho Q R h
  refine WK.of (pk_cons (pe_we X e) (pk_wk X kws)) ?_
  refine h1 F σ H env hs ho _ R ((args_step R.hlen h).imp (fun he env1 _ k F1 H1 v s1 L => ?_) fun _ _ _ x => x)
  obtain ⟨hs1, ho1, R1, k⟩ := k F1 H1 v s1 L
  exact h2 F1 σ H1 env1 hs1 ho1 _ R1 k
/-- how keywords alone bind -/
structure CalK (P : Program) (w : World) (K : PySem.W.Frag) (mg : Str → Option Value) (base : Heap) (Z : CXT) (k : Nat) (x : Str) (ps ks : List Str) (perm : List Nat) (fs : FSem) : Prop where
  ex : ∃ (f : Addr) (fd : FuncData), FnG P w K mg base Z k f fd ps (spD K mg ps.length none fs) ∧ mg x = some (.ref f) ∧ PySem.W.keepIn K (.ref f) = true ∧
    ∀ (s : Shared) (ws : List Value), ws.length = ks.length → BindsTo s fd ⟨[], ks.zip ws⟩ (ps.zip (perm.filterMap fun j => ws[j]?))
theorem vals_perm {vs : List V} {us : List Value} (r : Vals vs us) : ∀ perm : List Nat, Vals (perm.filterMap fun j => vs[j]?) (perm.filterMap fun j => us[j]?)
  | [] => .nil
  | j :: perm => by
    have ih := vals_perm r perm
    simp only [List.filterMap_cons]
    cases q : vs[j]? with
    | none =>
      have : us[j]? = none := by
        rw [List.getElem?_eq_none_iff] at q ⊢
        rw [← r.length]; exact q
      rw [this]
      exact ih
    | some v =>
      obtain ⟨u, hu, ru⟩ := r.get q
      rw [hu]
      exact .cons ru ih
theorem rdb_get {K : PySem.W.Frag} {F H : Hp} : ∀ {vs : List V} {os : List OD} {j : Nat} {o : OD}, Rdb K F H vs os → os[j]? = some o → ∃ v fp, vs[j]? = some v ∧ ORp K F H v o fp
  | _, _, j, _, .nil, h => by simp at h
  | _, _, 0, o, .cons h r, e => by
    simp at e
    subst e
    exact ⟨_, _, by simp, h⟩
  | _, _, j + 1, o, .cons h r, e => by
    obtain ⟨v, fp, h1, h2⟩ := rdb_get r (by simpa using e)
    exact ⟨v, fp, by simpa using h1, h2⟩
theorem rdb_len {K : PySem.W.Frag} {F H : Hp} {vs : List V} {os : List OD} (h : Rdb K F H vs os) : vs.length = os.length := by
  induction h with
  | nil => rfl
  | cons _ _ ih => simp [ih]
theorem rdb_perm {K : PySem.W.Frag} {F H : Hp} {vs : List V} {os : List OD} (r : Rdb K F H vs os) : ∀ perm : List Nat, Rdb K F H (perm.filterMap fun j => vs[j]?) (perm.filterMap fun j => os[j]?)
  | [] => .nil
  | j :: perm => by
    have ih := rdb_perm r perm
    simp only [List.filterMap_cons]
    cases q : os[j]? with
    | none =>
      have : vs[j]? = none := by
        rw [List.getElem?_eq_none_iff] at q ⊢
        rw [rdb_len r]; exact q
      rw [this]
      exact ih
    | some o =>
      obtain ⟨v, fp, hv, rv⟩ := rdb_get r q
      rw [hv]
      exact .cons rv ih
theorem de_callK {k : Nat} {x : Str} {ps ks : List Str} {perm : List Nat} {fs : FSem} {kws : List Keyword} {qs : List Opd} {p pos : Pos} (C : CalK X.prog X.w X.K X.mg X.base Z k x ps ks perm fs) (hr : Room k X.A) (hg : X.A.guards = some []) (hx : ∀ σ, PassesAt Z X σ fun cls d H => W cls d σ H)
    (ha : DKs X S W kws qs) (hq : qs.length = ks.length) (hpm : perm.length = ps.length ∧ ∀ j ∈ perm, j < ks.length) (hall : (backToKw pos (keywordEach kws X.env)).all (·.1.isSome) = true := by rfl) (hks : (backToKw pos (keywordEach kws X.env)).filterMap (·.1) = ks := by rfl)
    (hgl : Gl X x := by rfl) (hdb : (x == ("__debug__" : Str)) = false := by decide) (hpl : ((backTo pos (starEach [] X.env)).any (·.1) || (backToKw pos (keywordEach kws X.env)).any (·.1.isNone)) = false := by rfl) :
    DE X S W (.Call (.Name x p) [] kws pos) (mCallK perm fs qs) := by
  obtain ⟨f, fd, FG, hm, hk, bd⟩ := C.ex
  intro F σ H env hs ho Q R q pins s I
  refine wpAny_Call_Name_kw (ld_glob I hgl hm ?_ hdb)
  have main : WK X kws σ H fun zs H1 => zs.length = ks.length ∧ spD X.K X.mg ps.length none fs (perm.filterMap fun j => zs[j]?) H1 Q fun cls d H2 => W cls d σ H2 := by
    refine ha F σ H env hs ho _ R ((Mwp.bind q).imp (fun hes env' hh k F' H' vs hvs hos s mt R' => ?_) fun _ _ _ z => z)
    have hn : vs.length = ks.length := by rw [← mt_len mt, ← hq]; exact args_len hh
    refine ⟨hn, ?_⟩
    cases e : rds env' hes with
    | none => rw [e] at k; exact k.elim
    | some os =>
      rw [e] at k
      simp only at k
      split at k
      · rename_i hst
        have rb := mt.rdb R' R.hlen e
        have R0 := R'.drop R.hlen
        have hst' : ∀ o ∈ os, o.still = true := by simpa [allStill] using hst
        have hst2 : ∀ o ∈ (perm.filterMap fun j => os[j]?), o.still = true := fun o hm => by
          obtain ⟨j, _, hj⟩ := List.mem_filterMap.mp hm
          exact hst' o (List.mem_of_getElem? hj)
        have cntz : ∀ Q' E', spD X.K X.mg ps.length none fs (perm.filterMap fun j => vs[j]?) H' Q' E' → (perm.filterMap fun j => vs[j]?).length = ps.length := fun Q' E' z => z.1
        have hlen : (perm.filterMap fun j => vs[j]?).length = ps.length := by
          rw [← hpm.1]
          have go : ∀ l : List Nat, (∀ j ∈ l, j < vs.length) → (l.filterMap fun j => vs[j]?).length = l.length := by
            intro l
            induction l with
            | nil => intro _; rfl
            | cons j l ih =>
              intro h
              have hj := h j List.mem_cons_self
              simp only [List.filterMap_cons, List.getElem?_eq_getElem hj, List.length_cons]
              rw [ih fun i hi => h i (List.mem_cons_of_mem _ hi)]
          exact go perm fun j hj => by rw [hn]; exact hpm.2 j hj
        refine ⟨hlen, F', _, [], R'.sub, rdb_still (rdb_perm rb perm) hst2, List.nodup_nil, fun j o hj _ => hst2 o (List.mem_of_getElem? hj), ?_⟩
        cases q : fs (perm.filterMap fun j => os[j]?) with
        | none => rw [q] at k; exact k.elim
        | some pp =>
          obtain ⟨r, os'⟩ := pp
          rw [q] at k
          cases os' with
          | cons a b => exact k.elim
          | nil =>
            cases r with
            | ok o => exact fun F2 H2 v p => k F2 H2 v (s.trans p.f) (R0.back p)
            | ex x => exact fun F2 H2 cls d p xr => k F2 H2 cls d (s.trans p.f) (by simpa using R0.back p) xr
      · exact k.elim
  refine PySem.W.callWith_KW0 (h₀ := X.base) I.ok.mod.kin hk hall (thn (main pos pins s I) ?_) hpl
  rintro us s1 ⟨zs, H1, I1, r, hz, q⟩
  rw [hks]
  refine ⟨I1.kIn, ?_⟩
  exact run_g (as := ⟨[], ks.zip us⟩) FG hr hg (hx σ) I1 (bd s1 us (by rw [← r.length]; exact hz)) (vals_perm r perm) q
end

/-! ### a def of the text -/
theorem WB.nox {X : Cx} {st : List Stmt} {σ : L2.St} {H : Hp} {D : Ends} (h : WB X.nox st D σ H) : WB X st D σ H := fun pins s I =>
  wpAny_mono (h pins s (I.wish _)) (fun _ _ q => q.unwish) fun _ _ z => False.elim z
/-- the context of its body, where nothing is to be raised -/
abbrev DCx (P : Program) (w : World) (K : PySem.W.Frag) (mg : Str → Option Value) (base : Heap) (N : List Str) (qual : Str) (st : Stmt) (f : Addr) (cd : Value) (A : Around) (outer : List Env) (s : Shared) (H : Hp) (E : XK) : Cx :=
  (cxOf CX0 P w K mg base N qual (defScope st) f cd A outer s H E).nox
theorem cald0 {P : Program} {w : World} {K : PySem.W.Frag} {mg : Str → Option Value} {base : Heap} {k : Nat} {f : Addr} {x qual : Str} {st : Stmt} {kV doc pm cdv ct oc : Value} {an od : Option Addr} {osl : Array (Option Value)} {N ps : List Str} {io : Option Nat} {m : M Fl}
    (lk : K.lookup f = some ⟨oc, od, .func (PySem.W.fnOf x qual (defArgs st) (defBody st) (defScope st) .none kV doc pm an cdv ct), osl⟩) (hcd : PySem.W.codeIn K cdv qual = true) (Sc : FnScope N ps (defScope st)) (hj : ∀ j, io = some j → j < ps.length)
    (hb : ∀ (A : Around) (outer : List Env) (s : Shared) (H : Hp) (vs : List V) (E : XK) (F : Hp) (os : List OD) (fp : List Addr), A.guards = some [] → Room k (A.deeper (envOfC qual (defScope st) s.heap.objs.size f cdv)) → K.In base → Same F H → OReps K F H vs os fp → okArgs io os →
      DB (DCx P w K mg base N qual st f cdv A outer s H E) (entS H F fp io vs) (fun cls d _ H => E cls d H) (defBody st) m) :
    FnG P w K mg base CX0 (k + 1) f (PySem.W.fnOf x qual (defArgs st) (defBody st) (defScope st) .none kV doc pm an cdv ct) ps (spD K mg ps.length io (semD io N.length m)) := by
  have hN : N.length ≥ ps.length := by
    have := congrArg List.length Sc.pre
    rw [List.length_take] at this
    omega
  refine FnG.body lk hcd Sc (fun vs H Q E h => h.1) fun A outer s H vs Q E hg hr kin hsp => WB.nox ?_
  exact body_wb (X := DCx P w K mg base N qual st f cdv A outer s H E) (n := ps.length) hj hN hsp fun F os fp h1 h2 h3 => hb A outer s H vs E F os fp hg hr kin h1 h2 h3

/-! ### the law's call -/
theorem lawCall {P : Program} {w : World} {K : PySem.W.Frag} {mg mb : Str → Option Value} {k : Nat} {fa a : Addr} {fd : FuncData} {x : Str} {fs : FSem} {s₁ : Shared} {vs : List Value} {ns : List Int}
    (KX : K.In s₁.heap) (hns : s₁.heap.Ns mainGlobals mg) (hb : s₁.heap.Ns builtinsNs mb) (hbb : ∀ x : Str, x ≠ "__name__" → mb x = bootBuiltins x) (hlim : s₁.heap.NoLimit) (hg : s₁.gens = #[]) (hsee : ∃ mc, s₁.heap.Ns sysModules mc)
    (ha : s₁.heap.get? a = some { cls := .type "list", data := .seq vs.toArray }) (hi : IntsAre vs ns) (hl : ns.length ≤ sizeLine) (hr : Room k callerA)
    (F : ∀ base : Heap, K.In base → base.Ns mainGlobals mg → (∃ o, base.get? sysModules = some o) → FnG P w K mg base CX0 k fa fd [x] (spD K mg 1 none fs)) (hbind : ∀ (s : Shared) (u : Value), BindsTo s fd ⟨[u], []⟩ [(x, u)])
    (hfs : fs [.s ns] = some (.ok (.d (.bool true)), [])) :
    codeAny (model P w) callerA (.call (.ref fa) ⟨[.ref a], []⟩) (fun r s' => r = .ok (.ret (.bool true)) ∧ OldK s₁.heap s'.heap ∧ s'.os = s₁.os ∧ AllBare s'.gens) s₁ := by
  have rv := vals_ints hi
  have lenV := hi.length
  have main : ∀ H : Hp, Only H → SqL K H a (ns.map V.int) → HOk P w H s₁.heap → (∀ b, H b ≠ none → b = a ∧ K.lookup a = none) →
      codeAny (model P w) callerA (.call (.ref fa) ⟨[.ref a], []⟩) (fun r s' => r = .ok (.ret (.bool true)) ∧ OldK s₁.heap s'.heap ∧ s'.os = s₁.os ∧ AllBare s'.gens) s₁ := by
    intro H only hS hok hA
    have dictFree : ∀ (b : Addr) (o : Obj) (es : Array DictEntry) (ep : Nat), s₁.heap.get? b = some o → o.data = .dict es ep → H b = none := by
      intro b o es ep e d
      cases q : H b with
      | none => rfl
      | some u =>
        obtain ⟨rfl, _⟩ := hA b (by rw [q]; simp)
        rw [ha] at e
        cases e
        simp at d
    have seen : ∀ (b : Addr) (m : Str → Option Value), s₁.heap.Ns b m → (hidT s₁.heap H).Ns b m := by
      intro b m h
      obtain ⟨o, es, ep, e, d, r⟩ := h
      exact ⟨o, es, ep, hidT_get e (dictFree b o es ep e d), d, r⟩
    have kIn : K.In (hidT s₁.heap H) := by
      intro b o e
      refine hidT_get (KX b o e) ?_
      cases q : H b with
      | none => rfl
      | some u =>
        obtain ⟨rfl, z⟩ := hA b (by rw [q]; simp)
        rw [z] at e
        cases e
    have hMod : Mod K mg (hidT s₁.heap H) := by
      refine ⟨kIn, seen _ _ hns, ⟨mb, seen _ _ hb, hbb⟩, ?_⟩
      obtain ⟨mc, h1, h2⟩ := hlim
      exact ⟨mc, seen _ _ h1, h2⟩
    have hsys : ∃ o, (hidT s₁.heap H).get? sysModules = some o := by
      obtain ⟨mc, h1⟩ := hsee
      obtain ⟨o, es, ep, e, _⟩ := seen _ _ h1
      exact ⟨o, e⟩
    have env0 : Env0 P w K mg (hidT s₁.heap H) callerA [] s₁ H := by
      refine ⟨rfl, hMod, fun b o e => of_hidT e, Nat.le_of_eq (hidT_size _ _), trivial, ?_, hok, .of_eq hg⟩
      intro b hb
      cases hb
    have sp : spD K mg 1 none fs [.ref a] H (fun v _ => v = .bl true) fun _ _ _ => False := by
      refine ⟨rfl, H, [.s ns], [], Same.refl _, .s hS .nil, List.nodup_nil, fun j o h _ => ?_, ?_⟩
      · cases j with
        | zero => simp at h; subst h; rfl
        | succ j => simp at h
      · rw [hfs]
        intro F' H' v p
        obtain ⟨f1, f2, _, b, _⟩ := p.reps
        exact Rp.bool_inv (ORp.d_inv b).2
    refine codeAny_mono ((F _ kIn (seen _ _ hns) hsys).go (us := [.ref a]) (vs := [.ref a]) rfl hr env0 (hbind s₁ (.ref a)) (.cons rfl .nil) sp) ?_
    intro r s' h
    match r, h with
    | .ok (.ret u), h =>
      obtain ⟨v, H', os, bare, un, hok', r', q⟩ := h
      have q' : v = .bl true := q
      subst q'
      obtain rfl : u = Value.bool true := r'
      refine ⟨rfl, OldK.of_keep ?_, os, bare⟩
      intro b o e
      rcases only b with q | ⟨ob, xs, q⟩
      · exact un.keep b o e q (fun z => nomatch z) (by simp)
      · obtain ⟨e1, _⟩ := hok b _ q
        obtain ⟨e2, _⟩ := hok' b _ (un.frzs b ob _ q)
        rw [e] at e1
        cases e1
        exact e2
  cases hk : K.lookup a with
  | some o =>
    have e := KX a o hk
    rw [ha] at e
    cases e
    refine main (fun _ => none) (fun _ => .inl rfl) (.inr ⟨_, vs.toArray, _, hk, rfl, rfl, rfl, by rw [List.size_toArray, lenV]; exact hl, by simpa using rv⟩) (fun b u z => ?_) (fun b z => absurd rfl z)
    have z' : (none : Option HO) = some u := z
    cases z'
  | none =>
    let H : Hp := fun b => if b = a then some (.frz { cls := .type "list", data := .seq vs.toArray } (.lst (ns.map V.int))) else none
    have hHa : H a = some (.frz { cls := .type "list", data := .seq vs.toArray } (.lst (ns.map V.int))) := if_pos rfl
    have hHo : ∀ b, b ≠ a → H b = none := fun b hb => if_neg hb
    refine main H (fun b => ?_) (.inl (.inr ⟨_, hHa⟩)) (fun b u z => ?_) (fun b z => ?_)
    · by_cases hb : b = a
      · subst hb; exact .inr ⟨_, _, hHa⟩
      · exact .inl (hHo b hb)
    · by_cases hb : b = a
      · subst hb
        rw [hHa] at z
        cases z
        exact ⟨ha, by rw [List.length_map]; exact hl, vs, _, rv, ha⟩
      · rw [hHo b hb] at z; cases z
    · by_cases hb : b = a
      · exact ⟨hb, hk⟩
      · exact absurd (hHo b hb) z
theorem walk_g {l : PySem.W.OpenLaw} {n k : Nat} {q : Program} {loose : List Str} {XP : (Str → Option Value) → Heap → Prop} {YP : World → Heap → Prop} {d : DefRec} {K : Params → PySem.W.Frag} {fs : FSem} {x : Str}
    (hn : l.most = some n) (hn2 : n ≤ sizeLine) (hdf : d.params.defaults = []) (himp : PyProof.Rows.importsNone q = true) (hr : Room k callerA) (hY : ∀ (w : World) (h : Heap), YP w h → (K w.params).In h)
    (F : ∀ (w : World) (mg : Str → Option Value) (fa : Addr) (h : Heap), (K w.params).In h → h.Ns mainGlobals mg → mg d.name = some (.ref fa) →
      ∃ fd : FuncData, (∀ (s : Shared) (u : Value), BindsTo s fd ⟨[u], []⟩ [(x, u)]) ∧
        ∀ base : Heap, (K w.params).In base → base.Ns mainGlobals mg → (∃ o, base.get? sysModules = some o) → FnG l.prog w (K w.params) mg base CX0 k fa fd [x] (spD (K w.params) mg 1 none fs))
    (hlaw : ∀ ns : List Int, ns.length ≤ n → fs [.s ns] = some (.ok (.d (.bool true)), [])) :
    PySem.W.WalkO q loose XP YP l.row.toRowW d [] (fun f vs => PySem.call f vs) := by
  refine Att.attach_call hn hdf ?_
  intro w s₀ s₁ mg mb fa o pm cd doc a vs ns G Y ho hd hcd hmg hobj hints hlen hg
  obtain ⟨fd, hb, hF⟩ := F w mg fa _ (hY w _ Y) G.T.g hmg
  exact lawCall (hY w _ Y) G.T.g G.T.b G.T.builtins G.T.nolimit hg ((G.T.seer himp).mods.imp fun _ z => z.1) hobj hints (Nat.le_trans hlen hn2) hr hF hb (hlaw ns hlen)
end DL

set_option Elab.async false
set_option linter.all false
set_option autoImplicit false
set_option maxRecDepth 100000
/-! More operations. -/
namespace DL
open PySem PySem.Spec PyProof.Rows L2
section
variable {X : Cx} {S : Sx} {W : WX} {K : PySem.W.Frag} {F H : Hp} {a b c : Expr} {qa qb qc : Opd} {pos : Pos}

theorem rdb1 {vs : List V} {o : OD} (h : Rdb K F H vs [o]) : ∃ x fp, vs = [x] ∧ ORp K F H x o fp := by
  cases h with
  | cons h1 h2 => cases h2; exact ⟨_, _, rfl, h1⟩
theorem rdb2 {vs : List V} {o p : OD} (h : Rdb K F H vs [o, p]) : ∃ x y f g, vs = [x, y] ∧ ORp K F H x o f ∧ ORp K F H y p g := by
  cases h with
  | cons h1 h2 =>
    obtain ⟨y, g, rfl, h3⟩ := rdb1 h2
    exact ⟨_, _, _, _, rfl, h1, h3⟩

/-! ### subscripts -/
def dat : OD → Option OD
  | .d x => some (.d x)
  | _ => none
def gIx : List OD → Option OD
  | [.d (.list xs), .d (.int i)] => (atI xs i).map .d
  | [.d (.tuple xs), .d (.int i)] => (atI xs i).map .d
  | [.d (.str x), .d (.int i)] => (atI x.cps.toList i).map fun c => .d (.str ⟨#[c]⟩)
  | [.l ps, .d (.int i)] => (atI ps i).bind dat
  | [.s ns, .d (.int i)] => (atI ns i).map fun n => .d (.int n)
  | _ => none
theorem atI_rel {α β : Type} {xs : List α} {ys : List β} {i : Int} {y : β} (hl : xs.length = ys.length) (h : atI ys i = some y) : ∃ (j : Nat) (x : α), ys[j]? = some y ∧ xs[j]? = some x ∧ atI xs i = some x := by
  unfold atI at h ⊢
  rw [hl]
  cases q : ixN ys.length i with
  | none => rw [q] at h; cases h
  | some j =>
    rw [q] at h
    have h : ys[j]? = some y := h
    have hj : j < xs.length := by rw [hl]; exact (List.getElem?_eq_some_iff.mp h).1
    exact ⟨j, xs[j], h, List.getElem?_eq_getElem hj, List.getElem?_eq_getElem hj⟩
theorem OReps.at {vs : List V} {os : List OD} {fp : List Addr} {j : Nat} {v : V} {o : OD} (h : OReps K F H vs os fp) (hv : vs[j]? = some v) (ho : os[j]? = some o) : ∃ f, ORp K F H v o f := by
  induction os generalizing vs fp j with
  | nil => simp at ho
  | cons o' os ih =>
    cases vs with
    | nil => simp at hv
    | cons v' vs =>
      obtain ⟨f1, f2, h1, h2, _⟩ := h.inv
      cases j with
      | zero => simp at hv ho; subst hv; subst ho; exact ⟨_, h1⟩
      | succ j => exact ih h2 (by simpa using hv) (by simpa using ho)
theorem os_ixAll : OSpec X S (rr2 (rIx X.K)) gIx := by
  intro F σ H env hs ho vs os o Q R rd e k
  unfold gIx at e
  split at e
  · obtain ⟨x, y, f, g, rfl, h1, h2⟩ := rdb2 rd
    cases (ORp.d_inv h2).2.int_inv
    obtain ⟨p, ws, rfl, e1, e2⟩ := (ORp.d_inv h1).2.list_inv
    obtain ⟨d, hd, rfl⟩ := Option.map_eq_some_iff.mp e
    obtain ⟨j, w, h3, h4, h5⟩ := atI_rel e2.len hd
    exact .inl ⟨p, ws, _, w, rfl, rfl, .inl (.inl (R.sub _ _ e1)), h5, fin_d R k (e2.get h4 h3)⟩
  · obtain ⟨x, y, f, g, rfl, h1, h2⟩ := rdb2 rd
    cases (ORp.d_inv h2).2.int_inv
    obtain ⟨p, ws, rfl, e1, e2⟩ := (ORp.d_inv h1).2.tuple_inv
    obtain ⟨d, hd, rfl⟩ := Option.map_eq_some_iff.mp e
    obtain ⟨j, w, h3, h4, h5⟩ := atI_rel e2.len hd
    exact .inr (.inl ⟨p, ws, _, w, rfl, rfl, DL.Same.sqt R.sub e1, h5, fin_d R k (e2.get h4 h3)⟩)
  · obtain ⟨x, y, f, g, rfl, h1, h2⟩ := rdb2 rd
    cases (ORp.d_inv h2).2.int_inv
    obtain ⟨rfl, hz⟩ := (ORp.d_inv h1).2.str_inv
    obtain ⟨ch, hd, rfl⟩ := Option.map_eq_some_iff.mp e
    exact .inr (.inr ⟨_, _, ch, rfl, rfl, hz, hd, fin_d R k (.str _ (by show 1 ≤ sizeLine; decide) .nil)⟩)
  · rename_i ps i
    obtain ⟨x, y, f, g, rfl, h1, h2⟩ := rdb2 rd
    cases (ORp.d_inv h2).2.int_inv
    obtain ⟨p, ws, f1, rfl, _, e1, e2, _⟩ := ORp.l_inv h1
    cases hd : atI ps i with
    | none => rw [hd] at e; cases e
    | some u =>
      rw [hd] at e
      cases u with
      | d d =>
        cases e
        obtain ⟨j, w, h3, h4, h5⟩ := atI_rel e2.len hd
        obtain ⟨f2, h6⟩ := OReps.at e2 h4 h3
        exact .inl ⟨p, ws, _, w, rfl, rfl, .inl (.inl e1), h5, fin_d R k (ORp.d_inv h6).2⟩
      | _ => cases e
  · rename_i ns i
    obtain ⟨x, y, f, g, rfl, h1, h2⟩ := rdb2 rd
    cases (ORp.d_inv h2).2.int_inv
    obtain ⟨p, rfl, e1⟩ := ORp.s_inv h1
    obtain ⟨n, hd, rfl⟩ := Option.map_eq_some_iff.mp e
    obtain ⟨j, w, h3, h4, h5⟩ := atI_rel (xs := ns.map V.int) (by simp) hd
    rw [List.getElem?_map, h3] at h4
    cases h4
    exact .inl ⟨p, _, _, _, rfl, rfl, DL.Same.sql R.sub e1, h5, fin_d R k (.int n .nil)⟩
  · cases e

/-! ### len -/
def gLen : List OD → Option OD
  | [.d (.list xs)] => some (.d (.int xs.length))
  | [.d (.tuple xs)] => some (.d (.int xs.length))
  | [.d (.str x)] => some (.d (.int x.length))
  | [.l ps] => some (.d (.int ps.length))
  | [.s ns] => some (.d (.int ns.length))
  | _ => none
theorem os_len : OSpec X S (fun xs H Q => ∃ x n, xs = [x] ∧ LenV X.K x H n ∧ Q (.int n) H) gLen := by
  intro F σ H env hs ho vs os o Q R rd e k
  unfold gLen at e
  split at e
  · obtain ⟨x, f, rfl, h1⟩ := rdb1 rd
    cases e
    obtain ⟨p, ws, rfl, e1, e2⟩ := (ORp.d_inv h1).2.list_inv
    exact ⟨_, _, rfl, .inl ⟨ws, .inl (.inl (R.sub _ _ e1)), e2.len.symm⟩, fin_d R k (.int _ .nil)⟩
  · obtain ⟨x, f, rfl, h1⟩ := rdb1 rd
    cases e
    obtain ⟨p, ws, rfl, e1, e2⟩ := (ORp.d_inv h1).2.tuple_inv
    exact ⟨_, _, rfl, .inr ⟨ws, DL.Same.sqt R.sub e1, e2.len.symm⟩, fin_d R k (.int _ .nil)⟩
  · obtain ⟨x, f, rfl, h1⟩ := rdb1 rd
    cases e
    obtain ⟨rfl, hz⟩ := (ORp.d_inv h1).2.str_inv
    exact ⟨_, _, rfl, ⟨hz, rfl⟩, fin_d R k (.int _ .nil)⟩
  · obtain ⟨x, f, rfl, h1⟩ := rdb1 rd
    cases e
    obtain ⟨p, ws, f1, rfl, _, e1, e2, _⟩ := ORp.l_inv h1
    exact ⟨_, _, rfl, .inl ⟨ws, .inl (.inl e1), e2.len.symm⟩, fin_d R k (.int _ .nil)⟩
  · obtain ⟨x, f, rfl, h1⟩ := rdb1 rd
    cases e
    obtain ⟨p, rfl, e1⟩ := ORp.s_inv h1
    exact ⟨_, _, rfl, .inl ⟨_, DL.Same.sql R.sub e1, by simp⟩, fin_d R k (.int _ .nil)⟩
  · cases e

/-! ### abs, max, min of ints -/
def gAbs : List OD → Option OD
  | [.d (.int i)] => some (.d (.int (if i < 0 then -i else i)))
  | _ => none
theorem os_abs : OSpec X S (fun xs H Q => ∃ i, xs = [.int i] ∧ Q (.int (if i < 0 then -i else i)) H) gAbs := by
  intro F σ H env hs ho vs os o Q R rd e k
  unfold gAbs at e
  split at e
  · cases e
    obtain ⟨x, f, rfl, h1⟩ := rdb1 rd
    cases (ORp.d_inv h1).2.int_inv
    exact ⟨_, rfl, fin_d R k (.int _ .nil)⟩
  · cases e
def gMax2 : List OD → Option OD
  | [.d (.int i), .d (.int j)] => some (.d (.int (if j > i then j else i)))
  | _ => none
theorem os_max2 : OSpec X S (fun xs H Q => ∃ i j, xs = [.int i, .int j] ∧ Q (.int (if j > i then j else i)) H) gMax2 := by
  intro F σ H env hs ho vs os o Q R rd e k
  unfold gMax2 at e
  split at e
  · cases e
    obtain ⟨x, y, f, g, rfl, h1, h2⟩ := rdb2 rd
    cases (ORp.d_inv h1).2.int_inv
    cases (ORp.d_inv h2).2.int_inv
    exact ⟨_, _, rfl, fin_d R k (.int _ .nil)⟩
  · cases e
def gMin2 : List OD → Option OD
  | [.d (.int i), .d (.int j)] => some (.d (.int (if j < i then j else i)))
  | _ => none
theorem os_min2 : OSpec X S (fun xs H Q => ∃ i j, xs = [.int i, .int j] ∧ Q (.int (if j < i then j else i)) H) gMin2 := by
  intro F σ H env hs ho vs os o Q R rd e k
  unfold gMin2 at e
  split at e
  · cases e
    obtain ⟨x, y, f, g, rfl, h1, h2⟩ := rdb2 rd
    cases (ORp.d_inv h1).2.int_inv
    cases (ORp.d_inv h2).2.int_inv
    exact ⟨_, _, rfl, fin_d R k (.int _ .nil)⟩
  · cases e

theorem up1 {r : List V → Hp → VK → Prop} {g : List OD → Option OD} (h : OSpec X S (rr1 fun x H Q => r [x] H Q) g) : OSpec X S r g := fun F σ H env hs ho vs os o Q R rd e k => by
  have := h F σ H env hs ho vs os o Q R rd e k
  unfold rr1 at this
  split at this
  · exact this
  · exact this.elim
/-! ### all, any of truth values -/
def bools : List PyData → Option (List Bool)
  | [] => some []
  | .bool b :: ds => (bools ds).map (b :: ·)
  | _ => none
theorem bools_rep : ∀ {ds : List PyData} {vs : List V} {bs : List Bool}, Reps K F vs ds → bools ds = some bs → vs = bs.map V.bl
  | [], [], _, _, e => by cases e; rfl
  | [], _ :: _, _, h, _ => nomatch h
  | d :: ds, [], _, h, _ => nomatch h
  | d :: ds, v :: vs, bs, h, e => by
    obtain ⟨h1, h2⟩ := h.inv
    cases d with
    | bool b =>
      simp only [bools] at e
      obtain ⟨cs, q, rfl⟩ := Option.map_eq_some_iff.mp e
      rw [bools_rep h2 q, h1.bool_inv]
      rfl
    | _ => cases e
def gBs (f : List Bool → Bool) : PyData → Option OD
  | .list ds => (bools ds).map fun bs => .d (.bool (f bs))
  | _ => none
theorem os_allB : OSpec X S (rAll X.K) (sh1 (gBs fun bs => bs.all id)) := up1 (os_sh1 fun F σ H env hs ho x d o Q R h1 hf k => by
  unfold gBs at hf
  split at hf
  · obtain ⟨bs, q, rfl⟩ := Option.map_eq_some_iff.mp hf
    obtain ⟨p, ws, rfl, e1, e2⟩ := h1.list R.sub
    have := bools_rep e2 q
    subst this
    exact ⟨p, bs, rfl, .inl (.inl e1), fin_d R k (.bl _ .nil)⟩
  · cases hf)
theorem os_anyB : OSpec X S (rAny X.K) (sh1 (gBs fun bs => bs.any id)) := up1 (os_sh1 fun F σ H env hs ho x d o Q R h1 hf k => by
  unfold gBs at hf
  split at hf
  · obtain ⟨bs, q, rfl⟩ := Option.map_eq_some_iff.mp hf
    obtain ⟨p, ws, rfl, e1, e2⟩ := h1.list R.sub
    have := bools_rep e2 q
    subst this
    exact ⟨p, bs, rfl, .inl (.inl e1), fin_d R k (.bl _ .nil)⟩
  · cases hf)

/-! ### tuple(x), list(x) -/
def gTupOf : PyData → Option OD
  | .list xs => some (.d (.tuple xs))
  | .tuple xs => some (.d (.tuple xs))
  | _ => none
def rTupOf (K : PySem.W.Frag) : List V → Hp → VK → Prop := fun xs H Q => ∃ p ys, xs = [.ref p] ∧ ((SqL K H p ys ∧ ∀ l, H l = none → Q (.ref l) (upd H l (.tup ys))) ∨ (SqT K H p ys ∧ Q (.ref p) H))
theorem os_tupOf : OSpec X S (rTupOf X.K) (sh1 gTupOf) := up1 (os_sh1 fun F σ H env hs ho x d o Q R h1 hf k => by
  unfold gTupOf at hf
  split at hf
  · cases hf
    obtain ⟨p, ws, rfl, e1, e2⟩ := h1.list R.sub
    exact ⟨p, ws, rfl, .inl ⟨.inl (.inl e1), fun l hl => fin_t R k e2 hl⟩⟩
  · cases hf
    obtain ⟨p, ws, rfl, e1, e1', e2⟩ := h1.tuple R.sub
    exact ⟨p, ws, rfl, .inr ⟨e1, fin_d R k (.tup e1' e2 .nil)⟩⟩
  · cases hf)
def gListOf : PyData → Option OD
  | .list xs => some (.l (xs.map .d))
  | .tuple xs => some (.l (xs.map .d))
  | _ => none
def rListOf (K : PySem.W.Frag) : List V → Hp → VK → Prop := fun xs H Q => ∃ p ys, xs = [.ref p] ∧ (SqL K H p ys ∨ SqT K H p ys) ∧ ∀ l, H l = none → Q (.ref l) (upd H l (.lst ys))
theorem os_listOf : OSpec X S (rListOf X.K) (sh1 gListOf) := up1 (os_sh1 fun F σ H env hs ho x d o Q R h1 hf k => by
  unfold gListOf at hf
  split at hf
  · cases hf
    obtain ⟨p, ws, rfl, e1, e2⟩ := h1.list R.sub
    exact ⟨p, ws, rfl, .inl (.inl (.inl e1)), fun l hl => fin_l R k e2 hl⟩
  · cases hf
    obtain ⟨p, ws, rfl, e1, e1', e2⟩ := h1.tuple R.sub
    exact ⟨p, ws, rfl, .inr e1, fun l hl => fin_l R k e2 hl⟩
  · cases hf)

/-! ### isinstance of a built-in type -/
def tyName : PyData → String
  | .none => "NoneType"
  | .bool _ => "bool"
  | .int _ => "int"
  | .str _ => "str"
  | .list _ => "list"
  | .tuple _ => "tuple"
  | _ => "dict"
theorem rp_ty {x : V} {d : PyData} (h : Rp K H x d) : TyX K H x (.type (tyName d)) := by
  cases h with
  | non h => exact .base .non
  | bl b h => exact .base (.bl b)
  | int i h => exact .base (.int i)
  | str y h1 h => exact .base (.str y)
  | lst h1 h2 h => exact .base (.lst h1)
  | tup h1 h2 h =>
    rcases h1 with h1 | ⟨o, its, n, e1, e2, _⟩
    · rcases h1 with h1 | ⟨o, h1⟩
      · exact .base (.tup h1)
      · exact .fTuple h1
    · exact .kTuple e1 e2
  | dic h1 h2 h3 h =>
    rcases h1 with h1 | ⟨o, h1⟩
    · exact .base (.dK h1)
    · exact .fDict h1
/-- the answers for one type -/
def isTy (T : String) (f : PyData → Bool) : Prop := ∀ d : PyData, kitB (tyName d) T = some (f d)
def gIsI (f : PyData → Bool) (d : PyData) : Option OD := some (.d (.bool (f d)))
theorem pe_ty {x : Str} {T : String} {p : Pos} (hg : Gl X x) (hm : X.mg x = none) (hv : bootBuiltins x = some (.type T)) (hn : x ≠ "__name__" := by decide) (hdb : (x == ("__debug__" : Str)) = false := by decide) : PE X (.Name x p) (fun σ H Q => Q (.ty T) H) :=
  ⟨fun pins s σ H Q I h => ld_blt I hg hm hv ⟨.ty T, H, I, rfl, h⟩ hn hdb⟩
theorem de_isI {x : Str} {T : String} {f : PyData → Bool} {p p2 : Pos} (hT : isTy T f) (h1 : DO X S W a qa) (hm : X.mg "isinstance" = none) (hm2 : X.mg x = none) (hv : bootBuiltins x = some (.type T)) (hb : bootBuiltins "isinstance" = some (.builtin "isinstance")) (hg : Gl X "isinstance" := by rfl) (hg2 : Gl X x := by rfl)
    (hn : x ≠ "__name__" := by decide) (hdb : (x == ("__debug__" : Str)) = false := by decide)
    (hst : starEach [a, .Name x p2] X.env = (false, eval a X.env) :: starEach [.Name x p2] X.env := by rfl) (hst2 : starEach [.Name x p2] X.env = (false, eval (.Name x p2) X.env) :: starEach [] X.env := by rfl) (hpl : (backTo pos (starEach [.Name x p2] X.env)).any (·.1) = false := by rfl) :
    DE X S W (.Call (.Name "isinstance" p) [a, .Name x p2] [] pos) (prim (dp1 (gIsI f)) [qa]) := by
  intro F σ H env hs hos Q R h
  refine WE.of (pe_callB call_isi hg hm hb (pa_cons (pe_we X a) (pa_cons (pe_ty hg2 hm2 hv hn hdb) pa_nil hst2) hst) (by decide) (by decide) hst hpl) (DA1 h1 R ((Mwp.bind h).imp (fun hes env' _ k F' H' x hvs hos' s mt R' => ?_) fun _ _ _ x => x))
  refine prim_fin (r := rr1 fun x H Q => rIsi X.K [x, .ty T] H Q) (os_dp1 fun F σ H env hs ho x d o Q R h1 hf k => ?_) R.hlen s mt R' k
  cases hf
  exact ⟨x, .ty T, .type (tyName d), .type T, f d, rfl, .ty T, rp_ty h1, kit_ty (hT d), fin_d R k (.bl _ .nil)⟩
theorem isTy_int : isTy "int" fun d => match d with
    | .int _ => true
    | .bool _ => true
    | _ => false := fun d => by cases d <;> (first | decide +kernel | (show kitB "dict" "int" = some false; decide +kernel) | (show kitB "int" "int" = some true; decide +kernel) | (show kitB "bool" "int" = some true; decide +kernel) | (show kitB "str" "int" = some false; decide +kernel) | (show kitB "list" "int" = some false; decide +kernel) | (show kitB "tuple" "int" = some false; decide +kernel))
theorem isTy_bool : isTy "bool" fun d => match d with
    | .bool _ => true
    | _ => false := fun d => by cases d <;> (first | decide +kernel | (show kitB "dict" "bool" = some false; decide +kernel) | (show kitB "int" "bool" = some false; decide +kernel) | (show kitB "bool" "bool" = some true; decide +kernel) | (show kitB "str" "bool" = some false; decide +kernel) | (show kitB "list" "bool" = some false; decide +kernel) | (show kitB "tuple" "bool" = some false; decide +kernel))
theorem isTy_str : isTy "str" fun d => match d with
    | .str _ => true
    | _ => false := fun d => by cases d <;> (first | decide +kernel | (show kitB "dict" "str" = some false; decide +kernel) | (show kitB "int" "str" = some false; decide +kernel) | (show kitB "bool" "str" = some false; decide +kernel) | (show kitB "str" "str" = some true; decide +kernel) | (show kitB "list" "str" = some false; decide +kernel) | (show kitB "tuple" "str" = some false; decide +kernel))
theorem isTy_tuple : isTy "tuple" fun d => match d with
    | .tuple _ => true
    | _ => false := fun d => by cases d <;> (first | decide +kernel | (show kitB "dict" "tuple" = some false; decide +kernel) | (show kitB "int" "tuple" = some false; decide +kernel) | (show kitB "bool" "tuple" = some false; decide +kernel) | (show kitB "str" "tuple" = some false; decide +kernel) | (show kitB "list" "tuple" = some false; decide +kernel) | (show kitB "tuple" "tuple" = some true; decide +kernel))
theorem isTy_list : isTy "list" fun d => match d with
    | .list _ => true
    | _ => false := fun d => by cases d <;> (first | decide +kernel | (show kitB "dict" "list" = some false; decide +kernel) | (show kitB "int" "list" = some false; decide +kernel) | (show kitB "bool" "list" = some false; decide +kernel) | (show kitB "str" "list" = some false; decide +kernel) | (show kitB "list" "list" = some true; decide +kernel) | (show kitB "tuple" "list" = some false; decide +kernel))
end
end DL

set_option Elab.async false
set_option linter.all false
set_option autoImplicit false
set_option maxRecDepth 100000
/-! Displays, chains, methods, stores, repr, sorted. -/
namespace DL
open PySem PySem.Spec PyProof.Rows L2
section
variable {X : Cx} {S : Sx} {W : WX} {K : PySem.W.Frag} {F H : Hp} {a b c : Expr} {qa qb qc : Opd} {pos : Pos} {σ : L2.St} {env : DEnv}

/-! ### displays -/
def allO : List HE → Option (List OD)
  | [] => some []
  | .o x :: hes => (allO hes).map (x :: ·)
  | .al _ :: _ => none
theorem mt_allO : ∀ {hes : List HE} {vs hvs : List V} {hos os : List OD}, Mt σ hes vs hvs hos → allO hes = some os → vs = hvs ∧ hos = os
  | [], _, _, _, _, .nil, e => by cases e; exact ⟨rfl, rfl⟩
  | .o x :: hes, _, _, _, _, .o m, e => by
    simp only [allO] at e
    obtain ⟨os, q, rfl⟩ := Option.map_eq_some_iff.mp e
    obtain ⟨rfl, rfl⟩ := mt_allO m q
    exact ⟨rfl, rfl⟩
  | .al i :: hes, _, _, _, _, m, e => by cases e
def mList (qs : List Opd) : M OD := M.bind (args qs) fun hes e => match allO hes with
  | some os => if os.length ≤ sizeLine then some (.ok (.l os), e) else none
  | none => none
theorem de_list {es : List Expr} {qs : List Opd} (ha : DAs X S W es qs) : DE X S W (.List es pos) (mList qs) := by
  intro F σ H env hs ho Q R q
  refine WE.of (pe_lst (pa_wa X es)) (ha F σ H env hs ho _ R ((Mwp.bind q).imp (fun hes e' _ k F' H' vs hvs hos s mt R' => ?_) fun _ _ _ x => x))
  cases e : allO hes with
  | none => rw [e] at k; exact k.elim
  | some os =>
    rw [e] at k
    simp only at k
    split at k
    · rename_i hz
      obtain ⟨rfl, rfl⟩ := mt_allO mt e
      refine ⟨by rw [mt.hlen]; exact hz, fun p hp => ?_⟩
      exact k F' _ _ s (R'.newL R.hlen hp)
    · exact k.elim
def allD : List HE → Option (List PyData)
  | [] => some []
  | .o (.d x) :: hes => (allD hes).map (x :: ·)
  | _ => none
theorem mt_allD : ∀ {hes : List HE} {vs hvs : List V} {hos : List OD} {ds : List PyData}, Mt σ hes vs hvs hos → allD hes = some ds → vs = hvs ∧ hos = ds.map .d
  | [], _, _, _, _, .nil, e => by cases e; exact ⟨rfl, rfl⟩
  | .o x :: hes, _, _, _, _, .o m, e => by
    cases x with
    | d x =>
      simp only [allD] at e
      obtain ⟨os, q, rfl⟩ := Option.map_eq_some_iff.mp e
      obtain ⟨rfl, rfl⟩ := mt_allD m q
      exact ⟨rfl, rfl⟩
    | _ => cases e
  | .al i :: hes, _, _, _, _, m, e => by cases e
def mTup (qs : List Opd) : M OD := M.bind (args qs) fun hes e => match allD hes with
  | some ds => if ds.length ≤ sizeLine then some (.ok (.d (.tuple ds)), e) else none
  | none => none
theorem all_isD (ds : List PyData) : (ds.map OD.d).all OD.isD = true := by
  rw [List.all_map]
  exact List.all_eq_true.mpr fun _ _ => rfl
theorem erase_ds (ds : List PyData) : (ds.map OD.d).map OD.erase = ds := by
  rw [List.map_map]
  exact (List.map_congr_left fun d _ => by simp [OD.erase]).trans (List.map_id _)
theorem de_tup {es : List Expr} {qs : List Opd} {kk : Nat} (ha : DAs X S W es qs) : DE X S W (.Tuple es kk pos) (mTup qs) := by
  intro F σ H env hs ho Q R q
  refine WE.of (pe_tup (pa_wa X es)) (ha F σ H env hs ho _ R ((Mwp.bind q).imp (fun hes e' _ k F' H' vs hvs hos s mt R' => ?_) fun _ _ _ x => x))
  cases e : allD hes with
  | none => rw [e] at k; exact k.elim
  | some ds =>
    rw [e] at k
    simp only at k
    split at k
    · rename_i hz
      obtain ⟨rfl, rfl⟩ := mt_allD mt e
      obtain ⟨fp, r⟩ := R'.heldReps R.hlen
      have rp := (r.toReps (all_isD ds)).2
      rw [erase_ds] at rp
      refine ⟨by rw [mt.hlen, List.length_map]; exact hz, fun p hp => ?_⟩
      exact fin_t (R'.drop R.hlen) (fun F2 H2 v s2 R2 => k F2 H2 v (s.trans s2) R2) rp hp
    · exact k.elim

/-! ### a op b op c -/
theorem mt_snoc {hes : List HE} {vs hvs : List V} {hos : List OD} (m : Mt σ hes vs hvs hos) {v : V} : ∀ {he : HE}, (match he with
    | .o x => Mt σ (hes ++ [.o x]) (vs ++ [v]) (hvs ++ [v]) (hos ++ [x])
    | .al i => σ[i]? = some (some v) → Mt σ (hes ++ [.al i]) (vs ++ [v]) hvs hos)
  | .o x => by
    induction m with
    | nil => exact .o .nil
    | o _ ih => exact .o ih
    | al h _ ih => exact .al h ih
  | .al i => fun hi => by
    induction m with
    | nil => exact .al hi .nil
    | o _ ih => exact .o ih
    | al h _ ih => exact .al h ih
def mChain (g g' : List OD → Option OD) (qa qb qc : Opd) : M OD := M.bind (args [qa, qb]) fun hes e => match rds e hes with
  | none => none
  | some os => match g os with
    | some (.d (.bool true)) => M.bind qc.go (fun hc e2 => match rds e2 (hes ++ [hc]) with
      | none => none
      | some us => match g' (us.drop 1) with
        | none => none
        | some o => some (.ok o, e2)) e
    | some (.d (.bool false)) => some (.ok (.d (.bool false)), e)
    | _ => none
theorem rdb_drop {vs : List V} {os : List OD} (h : Rdb K F H vs os) : Rdb K F H (vs.drop 1) (os.drop 1) := by
  cases h with
  | nil => exact .nil
  | cons _ h => exact h
theorem de_chain {op op' : CmpOp} {r r' : R2} {g g' : List OD → Option OD} (ho : OpR X (compareOp op) r) (ho' : OpR X (compareOp op') r') (sp : OSpec X S (rr2 r) g) (sp' : OSpec X S (rr2 r') g') (h1 : DO X S W a qa) (h2 : DO X S W b qb) (h3 : DO X S W c qc)
    (hm : lastMarks [op, op'] [b, c] = false := by with_unfolding_all rfl) : DE X S W (.Compare a [op, op'] [b, c] pos) (mChain g g' qa qb qc) := by
  intro F σ H env hs hos Q R h
  refine WE.of (pe_chain ho ho' (pe_we X a) (pe_we X b) (pe_we X c) hm) (DA2 h1 h2 R ((Mwp.bind h).imp (fun hes env' _ k F' H' x y hvs hos' s mt R' => ?_) fun _ _ _ x => x))
  cases e : rds env' hes with
  | none => rw [e] at k; exact k.elim
  | some os =>
    rw [e] at k
    simp only at k
    have rb := mt.rdb R' R.hlen e
    have hl2 : (hs ++ hvs).length = (hos ++ hos').length := by simp [R.hlen, mt.hlen]
    cases e2 : g os with
    | none => rw [e2] at k; exact k.elim
    | some o =>
      rw [e2] at k
      refine sp F' σ H' env' (hs ++ hvs) (hos ++ hos') [x, y] os o _ R' rb e2 fun F2 H2 z s2 R2 => ?_
      cases o with
      | d d =>
        cases d with
        | bool t =>
          have ez := bool_held R2 hl2
          subst ez
          have R3 := R2.drop hl2
          refine ⟨t, rfl, ?_⟩
          cases t with
          | false => exact k F2 H2 _ (s.trans s2) ((R3.drop R.hlen).push (.bl _ .nil))
          | true =>
            refine h3 F2 σ H2 env' (hs ++ hvs) (hos ++ hos') _ R3 ((Mwp.bind k).imp (fun hc env3 _ k3 F3 H3 w s3 L => ?_) fun _ _ _ q => q.mono (s.trans s2) R.hlen)
            have s03 : Same F F3 := (s.trans s2).trans s3
            cases e4 : rds env3 (hes ++ [hc]) with
            | none => rw [e4] at k3; exact k3.elim
            | some us =>
              rw [e4] at k3
              simp only at k3
              cases e5 : g' (us.drop 1) with
              | none => rw [e5] at k3; exact k3.elim
              | some o' =>
                rw [e5] at k3
                have fin : ∀ {hvs2 hos2}, Mt σ (hes ++ [hc]) [x, y, w] hvs2 hos2 → Rel X.K S F3 σ H3 env3 (hs ++ hvs2) (hos ++ hos2) → r' y w H3 Q := fun {hvs2 hos2} mt2 R4 => by
                  have rb2 := rdb_drop (mt2.rdb R4 R.hlen e4)
                  exact sp' F3 σ H3 env3 hs hos [y, w] (us.drop 1) o' Q (R4.drop R.hlen) rb2 e5 fun F5 H5 v s5 R5 => k3 F5 H5 v (s03.trans s5) R5
                cases hc with
                | o u =>
                  have L' : Rel X.K S F3 σ H3 env3 (hs ++ hvs ++ [w]) (hos ++ hos' ++ [u]) := L
                  exact fin (mt_snoc mt (he := .o u)) (by rw [← List.append_assoc, ← List.append_assoc]; exact L')
                | al i => exact fin (mt_snoc mt (he := .al i) L.1) L.2
        | _ => exact k.elim
      | _ => exact k.elim

/-! ### repr -/
def gRepr (d : PyData) : Option OD := if d.showable && decide (d.depth ≤ 60) && decide (d.shown.length ≤ sizeLine) then some (.d (.str d.shown)) else none
def rRepr (K : PySem.W.Frag) : V → Hp → VK → Prop := fun x H Q => ∃ d, Rp K H x d ∧ d.showable = true ∧ d.depth ≤ 60 ∧ d.shown.length ≤ sizeLine ∧ Q (.str d.shown) H
theorem cr_reprD (ok : Ok1 X) : CallR X (.builtin "repr") (rr1 (rRepr X.K)) := by
  intro pins s σ H xs us Q I r h
  unfold rr1 at h
  split at h
  · rename_i x
    obtain ⟨u, rfl, r1⟩ := vals1 r
    obtain ⟨d, rp, h1, h2, h3, q⟩ := h
    obtain ⟨as, ra, ns⟩ := Reps.reads ok.sysm I rp [u] (.cons r1 .nil)
    cases ra with
    | cons rd rn =>
      cases rn
      cases rp with
      | non _ => cases r1; exact PySem.P.repr_of_none ⟨.str _, H, I.tok _, ⟨_, rfl⟩, q⟩
      | bl b _ => cases r1; exact PySem.P.repr_of_bool ⟨.str _, H, I.tok _, ⟨_, rfl⟩, q⟩
      | int i _ =>
        obtain ⟨t, rfl⟩ := r1
        exact PySem.P.repr_of_int (by simpa [PyData.showable] using h1) ⟨.str _, H, I.tok _, ⟨_, rfl⟩, q⟩
      | str y _ _ =>
        obtain ⟨t, rfl⟩ := r1
        exact PySem.P.repr_of_str ⟨.str _, H, I.tok _, ⟨_, rfl⟩, q⟩ h3
      | lst z1 z2 _ =>
        cases r1
        exact repr_of_reads' rd h1 (fun _ z => ns (by simp [z])) ok.grd (by have := ok.un; omega) (fun b o e => e) (fun h' u tk hk => ⟨.str _, H, I.kept hk, ⟨_, rfl⟩, q⟩) h3
      | tup z1 z2 _ =>
        cases r1
        exact repr_of_reads' rd h1 (fun _ z => ns (by simp [z])) ok.grd (by have := ok.un; omega) (fun b o e => e) (fun h' u tk hk => ⟨.str _, H, I.kept hk, ⟨_, rfl⟩, q⟩) h3
      | dic z1 z2 z3 _ =>
        cases r1
        exact repr_of_reads' rd h1 (fun _ z => ns (by simp [z])) ok.grd (by have := ok.un; omega) (fun b o e => e) (fun h' u tk hk => ⟨.str _, H, I.kept hk, ⟨_, rfl⟩, q⟩) h3
  · exact h.elim
theorem os_repr : OSpec X S (rr1 (rRepr X.K)) (dp1 gRepr) := os_dp1 fun F σ H env hs ho x d o Q R h1 hf k => by
  unfold gRepr at hf
  split at hf
  · rename_i hz
    cases hf
    simp only [Bool.and_eq_true, decide_eq_true_eq] at hz
    exact ⟨d, h1, hz.1.1, hz.1.2, hz.2, fin_d R k (.str _ hz.2 .nil)⟩
  · cases hf

/-! ### sorted -/
def sortB (xs : List PyData) : Bool := (xs.all fun d => xs.all fun e => PySem.W.alike d e) && ((xs.all fun d => match d with
    | .tuple (_ :: _) => true
    | _ => false) || (xs.all fun d => match d with
    | .tuple _ => false
    | .none => false
    | _ => true)) && (xs.all fun d => decide (d.depth ≤ 50))
def sortD (xs : List PyData) : List PyData := xs.mergeSort (PySem.W.dataLe false id)
def gSorted : PyData → Option OD
  | .list xs => if sortB xs then some (.l ((sortD xs).map .d)) else none
  | _ => none
def rSortedD (K : PySem.W.Frag) : V → Hp → VK → Prop := fun x H Q => ∃ F a ws xs, Same F H ∧ x = .ref a ∧ H a = some (.lst ws) ∧ Reps K F ws xs ∧ sortB xs = true ∧ ∀ ws' p, Reps K F ws' (sortD xs) → H p = none → Q (.ref p) (upd H p (.lst ws'))
theorem each_reps {R : Value → PyData → Prop} {F : Hp} : ∀ {out : List Value} {ds : List PyData}, PySem.W.EachIs R out ds → (∀ v d, R v d → ∃ x, RelV x v ∧ Rp K F x d) → ∃ ws, Vals ws out ∧ Reps K F ws ds
  | _, _, .nil, _ => ⟨[], .nil, .nil⟩
  | _, _, .cons h t, k => by
    obtain ⟨x, h1, h2⟩ := k _ _ h
    obtain ⟨ws, h3, h4⟩ := each_reps t k
    exact ⟨x :: ws, .cons h1 h3, h2.cons h4⟩
theorem reps_each {F : Hp} : ∀ {ws : List V} {out : List Value} {ds : List PyData}, Vals ws out → Reps K F ws ds → PySem.W.EachIs (fun v d => ∃ x, RelV x v ∧ Rp K F x d) out ds
  | _, _, [], .nil, _ => .nil
  | _, _, [], .cons _ _, h => nomatch h
  | _, _, d :: ds, .nil, h => nomatch h
  | _, _, d :: ds, .cons r t, h => .cons ⟨_, r, h.inv.1⟩ (reps_each t h.inv.2)
theorem sortB_iff {xs : List PyData} (h : sortB xs = true) : PySem.W.AllAlike (xs.map id) ∧ PySem.W.Sortable (xs.map id) ∧ ∀ d ∈ xs, d.depth ≤ 50 := by
  rw [List.map_id]
  simp only [sortB, Bool.and_eq_true, Bool.or_eq_true, List.all_eq_true, decide_eq_true_eq] at h
  obtain ⟨⟨h1, h2⟩, h3⟩ := h
  refine ⟨fun d hd e he => h1 d hd e he, ?_, h3⟩
  rcases h2 with h2 | h2
  · refine .inl fun d hd => ?_
    have := h2 d hd
    split at this
    · exact ⟨_, _, rfl⟩
    · cases this
  · refine .inr fun d hd => ?_
    have := h2 d hd
    constructor
    · rintro rfl
      cases this
    · rintro ys rfl
      cases this
theorem cr_sortedD (ok : Ok1 X) : CallR X (.builtin "sorted") (rr1 (rSortedD X.K)) := by
  intro pins s σ H vs us Q I r h
  unfold rr1 at h
  split at h
  · rename_i x
    obtain ⟨F, a, ws, xs, sF, rfl, ha, rp, hb, q⟩ := h
    obtain ⟨its, rv, hl, hz⟩ := I.list (.inl (.inl ha))
    rw [Vals.ref1 r]
    obtain ⟨h1, h2, h3⟩ := sortB_iff hb
    obtain ⟨as, ra, _⟩ := Reps.reads ok.sysm I (rp.mono sF) its rv
    have er := PySem.W.readsAll_each (β := PyData) id (vs := its) (bs := xs) (as := as) (by rw [List.map_id]; exact ra)
    have hlen : xs.length = ws.length := rp.len.symm
    refine PySem.W.sorted_data (enc := id) (bs := xs) hl.isList (reps_each rv rp) er h1 h2 (by rw [hlen]; simpa [rv.length] using hz) (fun b hm => by have := h3 b hm; have := ok.un; show _ + 2 + b.depth < _; omega) fun out ho eo => ?_
    obtain ⟨ws', v1, v2⟩ := each_reps (K := X.K) (F := F) eo fun v d z => z
    obtain ⟨ep, he'⟩ := PyProof.Rows.sortedAll_at s.heap its out.toArray
    have hn : ws'.length ≤ sizeLine := by rw [v1.length, ho, hlen]; simpa [rv.length] using hz
    exact ⟨.ref _, upd H (s.heap.objs.size + 1) (.lst ws'), I.laid (t' := s.toks) (fun _ _ => PyProof.Rows.sortedAll_old) (Nat.le_succ _) ⟨hn, out, ep, v1, he'⟩, rfl, q ws' _ v2 (I.hok.fresh (Nat.le_succ _))⟩
  · exact h.elim
theorem os_sorted : OSpec X S (rr1 (rSortedD X.K)) (sh1 gSorted) := os_sh1 fun F σ H env hs ho x d o Q R h1 hf k => by
  unfold gSorted at hf
  split at hf
  · split at hf
    · rename_i hz
      cases hf
      obtain ⟨a, ws, rfl, e1, e2⟩ := h1.list R.sub
      exact ⟨F, a, ws, _, R.sub, rfl, e1, e2, hz, fun ws' p hw hp => fin_l R k hw hp⟩
    · cases hf
  · cases hf

end
end DL

set_option Elab.async false
set_option linter.all false
set_option autoImplicit false
set_option maxRecDepth 100000
/-! Own lists in slots: methods, stores. -/
namespace DL
open PySem PySem.Spec PyProof.Rows L2
section
variable {K : PySem.W.Frag} {S : Sx} {F F' H H' : Hp} {σ : L2.St} {env : DEnv} {hs ws : List V} {ho os : List OD}
/-- the list in slot i is changed, other things are held behind it -/
theorem Rel.mutLH {i : Nat} {ps : List OD} {us : List V} {us' : List OD} (R : Rel K S F σ H env (hs ++ us) (ho ++ us')) (hl : hs.length = ho.length) (e : env[i]? = some (some (.l ps))) :
    ∃ a ws, σ[i]? = some (some (.ref a)) ∧ H a = some (.lst ws) ∧ ws.length = ps.length ∧
      ∀ (ws' : List V) (ps' : List OD) (ys : List V) (ys' : List OD), (∀ F2 H2 fp fq, OReps K F2 H2 ws ps fp → OReps K F2 H2 us us' fq → ∃ fr fy l, OReps K F2 H2 ws' ps' fr ∧ OReps K F2 H2 ys ys' fy ∧ (fp ++ fq).Perm (l ++ (fr ++ fy))) →
        Rel K S F σ (upd H a (.lst ws')) (env.set i (some (.l ps'))) (hs ++ ys) (ho ++ ys') := by
  obtain ⟨f1, f2, a, b, nd, io⟩ := R.rep
  obtain ⟨g1, g2, c, d, rfl⟩ := OReps.split hl b
  obtain ⟨v, fpi, rest, h1, h2, h3, h4⟩ := a.at e
  obtain ⟨p, ws, fp1, rfl, hFp, hHp, hw, rfl⟩ := h2.l_inv
  refine ⟨p, ws, h1, hHp, hw.len, fun ws' ps' ys ys' hch => ?_⟩
  have nd' := nodup_perm_app nd h3
  have nd0 : (p :: (fp1 ++ rest ++ (g1 ++ g2))).Nodup := by simpa [List.append_assoc] using nd'
  have np : ∀ x ∈ fp1 ++ rest ++ (g1 ++ g2), x ≠ p := fun x hx z => (List.nodup_cons.mp nd0).1 (z ▸ hx)
  have hu : ∀ x, x ≠ p → upd H p (.lst ws') x = H x := fun x hx => upd_ne hx
  have w2 := hw.change (F' := F) (H' := upd H p (.lst ws')) (Same.refl _) fun x hx => ⟨(hw.fnone x hx).1, hu x (np x (by simp [hx]))⟩
  have d2 := d.change (F' := F) (H' := upd H p (.lst ws')) (Same.refl _) fun x hx => ⟨(d.fnone x hx).1, hu x (np x (by simp [hx]))⟩
  obtain ⟨fr, fy, l, r1, r3, r2⟩ := hch F _ _ _ w2 d2
  have rst : ∀ x ∈ rest, F x = none ∧ upd H p (.lst ws') x = H x := fun x hx => ⟨(a.fnone x (h3.mem_iff.mpr (by simp [hx]))).1, hu x (np x (by simp [hx]))⟩
  obtain ⟨fp', q1, q2⟩ := h4 F (upd H p (.lst ws')) (.ref p) (.l ps') (p :: fr) (Same.refl _) rst (ORp.mkl hFp upd_same r1)
  have hσ : σ.set i (some (.ref p)) = σ := List.ext_getElem? fun j => by
    rw [List.getElem?_set]
    by_cases hj : i = j
    · subst hj
      rw [if_pos rfl, h1]
      have := (List.getElem?_eq_some_iff.mp h1).1
      rw [if_pos this]
    · rw [if_neg hj]
  rw [hσ] at q1
  have pm : (p :: (fp1 ++ rest ++ (g1 ++ g2))).Perm (l ++ (p :: fr ++ rest ++ (g1 ++ fy))) := by
    have e1 : (fp1 ++ rest ++ (g1 ++ g2)).Perm ((fp1 ++ g2) ++ (rest ++ g1)) := by
      rw [List.append_assoc, List.append_assoc]
      refine List.Perm.append_left fp1 ?_
      have : (rest ++ (g1 ++ g2)).Perm (g2 ++ (rest ++ g1)) := by
        rw [← List.append_assoc]
        exact List.perm_append_comm
      exact this
    have e2 := e1.trans (r2.append_right (rest ++ g1))
    have e3 : (l ++ (fr ++ fy) ++ (rest ++ g1)).Perm (l ++ (fr ++ rest ++ (g1 ++ fy))) := by
      rw [List.append_assoc, List.append_assoc, List.append_assoc]
      refine List.Perm.append_left l (List.Perm.append_left fr ?_)
      rw [← List.append_assoc rest]
      exact List.perm_append_comm
    refine ((e2.trans e3).cons p).trans ?_
    have : (p :: (l ++ (fr ++ rest ++ (g1 ++ fy)))).Perm (l ++ p :: (fr ++ rest ++ (g1 ++ fy))) := List.perm_middle.symm
    simpa using this
  have pm2 : (fp' ++ (g1 ++ fy)).Perm (p :: fr ++ rest ++ (g1 ++ fy)) := q2.append_right _
  refine ⟨fun x o hx => ?_, ⟨fp', g1 ++ fy, q1, (c.change (Same.refl _) fun x hx => ⟨(c.fnone x hx).1, hu x (np x (by simp [hx]))⟩).app r3, ?_, fun x hx => io x ?_⟩, fun x o hx hi => ?_, R.new, R.f0, R.pin⟩
  · rw [hu x fun z => by rw [z, hFp] at hx; cases hx]
    exact R.sub x o hx
  · exact (pm2.nodup_iff).mpr (List.nodup_append.mp ((pm.nodup_iff).mp nd0)).2.1
  · have m1 := pm.mem_iff.mpr (List.mem_append_right l (pm2.mem_iff.mp hx))
    have : x ∈ f1 ++ (g1 ++ g2) := by
      rcases List.mem_cons.mp m1 with rfl | m1
      · exact List.mem_append_left _ (h3.mem_iff.mpr (by simp))
      · simp only [List.mem_append] at m1 ⊢
        rcases m1 with (m1 | m1) | m1 | m1
        · exact .inl (h3.mem_iff.mpr (by simp [m1]))
        · exact .inl (h3.mem_iff.mpr (by simp [m1]))
        · exact .inr (.inl m1)
        · exact .inr (.inr m1)
    exact this
  · have := R.keep x o hx hi
    by_cases hxp : x = p
    · subst hxp
      rcases io x (List.mem_append_left _ (h3.mem_iff.mpr (by simp))) with h | h
      · exact absurd h hi
      · rw [h] at hx; cases hx
    · rw [hu x hxp]; exact this

theorem OReps.erase {H : Hp} : ∀ {ws : List V} {ps : List OD} {fp : List Addr} {j : Nat} {v : V} {o : OD}, OReps K F H ws ps fp → ws[j]? = some v → ps[j]? = some o → ∃ f1 f2, OReps K F H (ws.eraseIdx j) (ps.eraseIdx j) f1 ∧ ORp K F H v o f2 ∧ fp.Perm (f1 ++ f2)
  | [], _, _, j, _, _, _, h, _ => by simp at h
  | _ :: _, [], _, j, _, _, _, _, h => by simp at h
  | w :: ws, p :: ps, fp, j, v, o, r, h1, h2 => by
    obtain ⟨g1, g2, a, b, rfl⟩ := r.inv
    cases j with
    | zero =>
      simp at h1 h2
      subst h1
      subst h2
      exact ⟨g2, g1, b, a, List.perm_append_comm⟩
    | succ j =>
      obtain ⟨f1, f2, c, d, pm⟩ := OReps.erase b (by simpa using h1) (by simpa using h2)
      refine ⟨g1 ++ f1, f2, a.cons c, d, ?_⟩
      rw [List.append_assoc]
      exact pm.append_left g1
theorem OReps.setAt {H : Hp} : ∀ {ws : List V} {ps : List OD} {fp fq : List Addr} {j : Nat} {v : V} {o : OD}, OReps K F H ws ps fp → ORp K F H v o fq → ∃ f1 l, OReps K F H (ws.set j v) (ps.set j o) f1 ∧ (fp ++ fq).Perm (l ++ f1)
  | [], [], _, fq, j, v, o, .nil, _ => ⟨[], fq, by simpa using OReps.nil, by simp⟩
  | [], _ :: _, _, _, _, _, _, r, _ => by have := r.len; simp at this
  | _ :: _, [], _, _, _, _, _, r, _ => by have := r.len; simp at this
  | w :: ws, p :: ps, fp, fq, j, v, o, r, q => by
    obtain ⟨g1, g2, a, b, rfl⟩ := r.inv
    cases j with
    | zero =>
      refine ⟨fq ++ g2, g1, q.cons b, ?_⟩
      rw [List.append_assoc]
      exact List.Perm.append_left g1 List.perm_append_comm
    | succ j =>
      obtain ⟨f1, l, c, pm⟩ := OReps.setAt (j := j) b q
      refine ⟨g1 ++ f1, l, a.cons c, ?_⟩
      rw [List.append_assoc]
      refine (pm.append_left g1).trans ?_
      rw [← List.append_assoc, ← List.append_assoc]
      exact List.perm_append_comm.append_right f1
/-- the first of the last held things goes to the end -/
theorem Rel.rot {v : V} {o : OD} (R : Rel K S F σ H env (hs ++ v :: ws) (ho ++ o :: os)) (hl : hs.length = ho.length) : Rel K S F σ H env (hs ++ ws ++ [v]) (ho ++ os ++ [o]) := by
  obtain ⟨f1, f2, a, b, nd, io⟩ := R.rep
  obtain ⟨g1, g2, c, d, rfl⟩ := OReps.split hl b
  obtain ⟨k1, k2, e1, e2, rfl⟩ := d.inv
  have pm : (f1 ++ (g1 ++ (k1 ++ k2))).Perm (f1 ++ (g1 ++ k2 ++ k1)) := by
    refine List.Perm.append_left f1 ?_
    rw [List.append_assoc]
    exact List.Perm.append_left g1 List.perm_append_comm
  exact ⟨R.sub, ⟨f1, g1 ++ k2 ++ k1, a, (c.app e2).app e1, pm.nodup_iff.mp nd, fun x hx => io x (pm.mem_iff.mpr hx)⟩, R.keep, R.new, R.f0, R.pin⟩
/-- held things are stored, one after another -/
def setAll : List Nat → List V → L2.St → L2.St
  | i :: is, v :: vs, σ => setAll is vs (σ.set i (some v))
  | _, _, σ => σ
def putAll : List Nat → List OD → DEnv → Option DEnv
  | [], [], e => some e
  | i :: is, o :: os, e => if i < e.length then putAll is os (e.set i (some o)) else none
  | _, _, _ => none
theorem Rel.storeAll : ∀ {is : List Nat} {vs : List V} {us : List OD} {σ : L2.St} {env env' : DEnv}, Rel K S F σ H env (hs ++ vs) (ho ++ us) → hs.length = ho.length → vs.length = us.length → putAll is us env = some env' → (∀ p ∈ S.pin, p.1 ∉ is) → Rel K S F (setAll is vs σ) H env' hs ho
  | [], [], [], σ, env, env', R, _, _, e, _ => by cases e; simpa [setAll] using R
  | [], _, _ :: _, _, _, _, _, _, _, e, _ => by cases e
  | [], _ :: _, [], _, _, _, _, _, h, _, _ => by simp at h
  | _ :: _, _, [], _, _, _, _, _, _, e, _ => by cases e
  | _ :: _, [], _ :: _, _, _, _, _, _, h, _, _ => by simp at h
  | i :: is, v :: vs, u :: us, σ, env, env', R, hl, h, e, hp => by
    simp only [putAll] at e
    split at e
    · rename_i hi
      have R1 := R.rot hl
      have hl2 : (hs ++ vs).length = (ho ++ us).length := by simp at h; simp [hl, h]
      have R2 := R1.store hl2 (by rw [R.len]; exact hi) (fun p hp' z => hp p hp' (by simp [z]))
      exact R2.storeAll hl (by simpa using h) e fun p hp' z => hp p hp' (List.mem_cons_of_mem _ z)
    · cases e
end
section
variable {X : Cx} {S : Sx} {W : WX} {K : PySem.W.Frag} {F H : Hp} {a b c : Expr} {qa qb qc : Opd} {pos : Pos} {σ : L2.St} {env : DEnv}

/-! ### xs.append(y), xs.pop(i), xs.pop() -/
def isL (e : DEnv) (i : Nat) : Bool := match e[i]? with
  | some (some (.l _)) => true
  | _ => false
theorem isL_of {i : Nat} (h : isL env i = true) : ∃ ps, env[i]? = some (some (.l ps)) := by
  unfold isL at h
  split at h
  · exact ⟨_, by assumption⟩
  · cases h
theorem slot_ref {ps : List OD} {i : Nat} {hs : List V} {ho : List OD} (R : Rel K S F σ H env hs ho) (e : env[i]? = some (some (.l ps))) : ∃ p ws, σ[i]? = some (some (.ref p)) ∧ H p = some (.lst ws) ∧ ws.length = ps.length := by
  obtain ⟨v, fp, h1, h2⟩ := R.slot e
  obtain ⟨p, ws, f1, rfl, _, h3, h4, _⟩ := ORp.l_inv h2
  exact ⟨p, ws, h1, h3, h4.len⟩
def mMeth1 (i : Nat) (q : Opd) (f : List OD → HE → DEnv → Option (OD × List OD)) : M OD := fun e0 => if isL e0 i then M.bind q.go (fun he e => match e[i]? with
  | some (some (.l ps)) => match f ps he e with
    | some (r, ps') => some (.ok r, e.set i (some (.l ps')))
    | none => none
  | _ => none) e0 else none
theorem de_meth1 {i : Nat} {x nm : Str} {id : String} {e : Expr} {q : Opd} {apos cpos p : Pos} {r : V → List V → Hp → VK → Prop} {f : List OD → HE → DEnv → Option (OD × List OD)} (hm : MtR X id r) (slot : Slot "list" nm id) (hty : typeOf (.builtin id) = pure (.type "method_descriptor"))
    (spec : ∀ F σ H env hs ho ps he v o ps' Q, Left X.K S F σ H env hs ho v he → hs.length = ho.length → env[i]? = some (some (.l ps)) → f ps he env = some (o, ps') → (∀ p, σ[i]? = some (some (.ref p)) → (∀ H' v, Rel X.K S F σ H' (env.set i (some (.l ps'))) (hs ++ [v]) (ho ++ [o]) → Q v H') → r (.ref p) [v] H Q))
    (h : DO X S W e q) (hN : X.N[i]? = some x := by rfl) (hv : Vis X.env.scope x := by first | exact Or.inl rfl | exact Or.inr (Or.inl rfl) | exact Or.inr (Or.inr rfl)) (hd : (x == ("__debug__" : Str)) = false := by decide)
    (hcd : (x == ("__classdict__" : Str)) = false := by decide) (hbase : attributeBase (.Name x p) nm X.env (eval (.Name x p) X.env) = eval (.Name x p) X.env := by rfl)
    (hfew : ((backTo cpos (starEach [e] X.env)).all (fun x => !x.1) && (backToKw cpos (keywordEach [] X.env)).all (fun x => x.1.isSome)
      && decide (([e] : List Expr).length + ([] : List Keyword).length + (if ([] : List Keyword).isEmpty then 0 else 1) < 30)) = true := by rfl)
    (hline : (apos.endLine == cpos.line) = true := by rfl) (hs : starEach [e] X.env = (false, eval e X.env) :: starEach [] X.env := by rfl) (hplain : (backTo cpos (starEach [] X.env)).any (·.1) = false := by rfl) :
    DE X S W (.Call (.Attribute (.Name x p) nm apos) [e] [] cpos) (mMeth1 i q f) := by
  intro F σ H env hs' ho Q R hq
  unfold mMeth1 at hq
  split at hq
  · rename_i hL
    obtain ⟨ps0, e0⟩ := isL_of hL
    obtain ⟨p0, ws0, s0, h0, _⟩ := slot_ref R e0
    refine WE.of (pe_bm PySem.F.plainAttrs_list slot hty hm (pe_var hN hv hd hcd) (pa_cons (pe_we X e) pa_nil hs) hbase hfew hline hs hplain) ⟨_, s0, .inl ⟨rfl, ws0, .inl (.inl h0)⟩, ?_⟩
    refine h F σ H env hs' ho _ R ((Mwp.bind hq).imp (fun he e' _ k F' H' v s L => ?_) fun _ _ _ z => z)
    have R' : ∃ hs1 ho1, Rel X.K S F' σ H' e' hs1 ho1 := by
      cases he with
      | o u => exact ⟨_, _, L⟩
      | al j => exact ⟨_, _, L.2⟩
    split at k
    · rename_i ps e1
      cases ef : f ps he e' with
      | none => rw [ef] at k; exact k.elim
      | some rp =>
        obtain ⟨o, ps'⟩ := rp
        rw [ef] at k
        exact spec F' σ H' e' hs' ho ps he v o ps' Q L R.hlen e1 ef p0 s0 fun H2 v2 R2 => k F' H2 v2 s R2
    · exact k.elim
  · exact hq.elim
def fApp (ps : List OD) (he : HE) (e : DEnv) : Option (OD × List OD) := match he with
  | .o x => if ps.length < sizeLine then some (.d .none, ps ++ [x]) else none
  | _ => none
theorem sp_app {i : Nat} : ∀ F σ H env hs ho ps he v o ps' Q, Left K S F σ H env hs ho v he → hs.length = ho.length → env[i]? = some (some (.l ps)) → fApp ps he env = some (o, ps') → (∀ p, σ[i]? = some (some (.ref p)) → (∀ H' v, Rel K S F σ H' (env.set i (some (.l ps'))) (hs ++ [v]) (ho ++ [o]) → Q v H') → rAppend (.ref p) [v] H Q) := by
  intro F σ H env hs ho ps he v o ps' Q L hl e1 ef p hp k
  cases he with
  | al j => cases ef
  | o x =>
    simp only [fApp] at ef
    split at ef
    · rename_i hz
      cases ef
      obtain ⟨a, ws, h1, h2, h3, h4⟩ := Rel.mutLH (us := [v]) (us' := [x]) L hl e1
      rw [hp] at h1
      cases h1
      refine ⟨p, ws, v, rfl, rfl, h2, by omega, k _ .non ?_⟩
      have z := h4 (ws ++ [v]) (ps ++ [x]) [] [] fun F2 H2 fp fq c d => ⟨fp ++ fq, [], [], c.app d, .nil, by simp⟩
      rw [List.append_nil, List.append_nil] at z
      exact z.push (.non .nil)
    · cases ef
theorem de_append {i : Nat} {x : Str} {e : Expr} {q : Opd} {apos cpos p : Pos} (h : DO X S W e q) (hN : X.N[i]? = some x := by rfl) (hv : Vis X.env.scope x := by first | exact Or.inl rfl | exact Or.inr (Or.inl rfl) | exact Or.inr (Or.inr rfl)) (hd : (x == ("__debug__" : Str)) = false := by decide)
    (hcd : (x == ("__classdict__" : Str)) = false := by decide) (hbase : attributeBase (.Name x p) "append" X.env (eval (.Name x p) X.env) = eval (.Name x p) X.env := by rfl)
    (hfew : ((backTo cpos (starEach [e] X.env)).all (fun x => !x.1) && (backToKw cpos (keywordEach [] X.env)).all (fun x => x.1.isSome)
      && decide (([e] : List Expr).length + ([] : List Keyword).length + (if ([] : List Keyword).isEmpty then 0 else 1) < 30)) = true := by rfl)
    (hline : (apos.endLine == cpos.line) = true := by rfl) (hs : starEach [e] X.env = (false, eval e X.env) :: starEach [] X.env := by rfl) (hplain : (backTo cpos (starEach [] X.env)).any (·.1) = false := by rfl) :
    DE X S W (.Call (.Attribute (.Name x p) "append" apos) [e] [] cpos) (mMeth1 i q fApp) :=
  de_meth1 mt_append PySem.F.slot_list_append PySem.F.type_list_append sp_app h hN hv hd hcd hbase hfew hline hs hplain
def intAt (he : HE) (e : DEnv) : Option Int := match he.rd e with
  | some (.d (.int i)) => some i
  | _ => none
def fPopAt (ps : List OD) (he : HE) (e : DEnv) : Option (OD × List OD) := match intAt he e with
  | some i => if -(2 ^ 63) ≤ i ∧ i < 2 ^ 63 then match seqIndex? i ps.length with
    | some k => match ps[k]? with
      | some o => some (o, ps.eraseIdx k)
      | none => none
    | none => none
    else none
  | none => none
theorem left_int {he : HE} {v : V} {i : Int} {hs : List V} {ho : List OD} (L : Left K S F σ H env hs ho v he) (hl : hs.length = ho.length) (h : intAt he env = some i) : v = .int i ∧ Rel K S F σ H env hs ho := by
  unfold intAt at h
  split at h
  · rename_i j e
    cases h
    cases he with
    | o x =>
      cases e
      have L : Rel K S F σ H env (hs ++ [v]) (ho ++ [.d (.int i)]) := L
      obtain ⟨fp, r⟩ := L.heldReps hl
      exact ⟨(ORp.d_inv r).2.int_inv, L.drop hl⟩
    | al j =>
      obtain ⟨L1, L⟩ := L
      simp only [HE.rd] at e
      cases q0 : env[j]? with
      | none => rw [q0] at e; cases e
      | some oo =>
        rw [q0] at e
        simp only [Option.join_some] at e
        subst e
        obtain ⟨v', fp, h1, h2⟩ := L.slot q0
        rw [h1] at L1
        cases L1
        exact ⟨(ORp.d_inv h2).2.int_inv, L⟩
  · cases h
theorem sp_popAt {i : Nat} : ∀ F σ H env hs ho ps he v o ps' Q, Left K S F σ H env hs ho v he → hs.length = ho.length → env[i]? = some (some (.l ps)) → fPopAt ps he env = some (o, ps') → (∀ p, σ[i]? = some (some (.ref p)) → (∀ H' v, Rel K S F σ H' (env.set i (some (.l ps'))) (hs ++ [v]) (ho ++ [o]) → Q v H') → rPopAt (.ref p) [v] H Q) := by
  intro F σ H env hs ho ps he v o ps' Q L hl e1 ef p hp k
  unfold fPopAt at ef
  split at ef
  · rename_i j ej
    obtain ⟨rfl, R⟩ := left_int L hl ej
    split at ef
    · rename_i hz
      split at ef
      · rename_i k' ek
        split at ef
        · rename_i o' eo
          cases ef
          obtain ⟨a, ws, h1, h2, h3, h4⟩ := Rel.mutLH (us := []) (us' := []) (by simpa using R) hl e1
          rw [hp] at h1
          cases h1
          have hk : k' < ws.length := by rw [h3]; exact (List.getElem?_eq_some_iff.mp eo).1
          refine ⟨p, ws, j, k', ws[k'], rfl, rfl, h2, hz.1, hz.2, by rw [h3]; exact ek, List.getElem?_eq_getElem hk, k _ _ ?_⟩
          refine h4 (ws.eraseIdx k') (ps.eraseIdx k') [ws[k']] [o] fun F2 H2 fp fq c d => ?_
          obtain ⟨f1, f2, c1, c2, pm⟩ := OReps.erase c (List.getElem?_eq_getElem hk) eo
          cases d
          exact ⟨f1, f2, [], c1, c2, by simpa using pm⟩
        · cases ef
      · cases ef
    · cases ef
  · cases ef
theorem de_popAt {i : Nat} {x : Str} {e : Expr} {q : Opd} {apos cpos p : Pos} (h : DO X S W e q) (hN : X.N[i]? = some x := by rfl) (hv : Vis X.env.scope x := by first | exact Or.inl rfl | exact Or.inr (Or.inl rfl) | exact Or.inr (Or.inr rfl)) (hd : (x == ("__debug__" : Str)) = false := by decide)
    (hcd : (x == ("__classdict__" : Str)) = false := by decide) (hbase : attributeBase (.Name x p) "pop" X.env (eval (.Name x p) X.env) = eval (.Name x p) X.env := by rfl)
    (hfew : ((backTo cpos (starEach [e] X.env)).all (fun x => !x.1) && (backToKw cpos (keywordEach [] X.env)).all (fun x => x.1.isSome)
      && decide (([e] : List Expr).length + ([] : List Keyword).length + (if ([] : List Keyword).isEmpty then 0 else 1) < 30)) = true := by rfl)
    (hline : (apos.endLine == cpos.line) = true := by rfl) (hs : starEach [e] X.env = (false, eval e X.env) :: starEach [] X.env := by rfl) (hplain : (backTo cpos (starEach [] X.env)).any (·.1) = false := by rfl) :
    DE X S W (.Call (.Attribute (.Name x p) "pop" apos) [e] [] cpos) (mMeth1 i q fPopAt) :=
  de_meth1 mt_popAt PySem.F.slot_list_pop PySem.F.type_list_pop sp_popAt h hN hv hd hcd hbase hfew hline hs hplain

/-! ### xs[k] = y -/
theorem WE.imp {e : Expr} {Q Q' : VK} (h : WE X e σ H Q) (k : ∀ v H', Q v H' → Q' v H') : WE X e σ H Q' := fun pins s I =>
  wpAny_mono (h pins s I) (fun _ _ ⟨v, H', J, r, q⟩ => ⟨v, H', J, r, k v H' q⟩) fun _ _ z => z
def mSetL (i : Nat) (qv qi : Opd) : M Fl := fun e0 => if isL e0 i then M.bind (args [qv, qi]) (fun hes e => match hes with
  | [.o x, hi] => match intAt hi e, e[i]? with
    | some k, some (some (.l ps)) => match ixN ps.length k with
      | some j => some (.ok .nx, e.set i (some (.l (ps.set j x))))
      | none => none
    | _, _ => none
  | _ => none) e0 else none
theorem ds_setL {i : Nat} {x : Str} {ix e : Expr} {qv qi : Opd} {p pos' : Pos} (h1 : DO X S W e qv) (h2 : DO X S W ix qi) (hN : X.N[i]? = some x := by rfl) (hv : Vis X.env.scope x := by first | exact Or.inl rfl | exact Or.inr (Or.inl rfl) | exact Or.inr (Or.inr rfl)) (hd : (x == ("__debug__" : Str)) = false := by decide)
    (hcd : (x == ("__classdict__" : Str)) = false := by decide)
    (ha : ∀ v, assign (.Subscript (.Name x p) ix pos') X.env v = (do
      let ov ← holding [v] (eval (.Name x p) X.env)
      let iv ← holding [v, ov] (eval ix X.env)
      standAt pos'
      holding [v, ov, iv] (setItem ov iv v)
      release [v, ov, iv] []) := by intro _; rfl)
    (hs : swapsWithSole [.Subscript (.Name x p) ix pos'] e pos.line X.env = pure false := by rfl) (hw : swappedStores [.Subscript (.Name x p) ix pos'] e X.env = pure none := by rfl)
    (h0 : (assignEach [.Subscript (.Name x p) ix pos'] X.env).map (·.2) = [assign (.Subscript (.Name x p) ix pos') X.env] := by rfl) :
    DS X S W (.Assign [.Subscript (.Name x p) ix pos'] e pos) (mSetL i qv qi) := by
  intro F σ H env D R q
  refine WS.of (ps_asg (pe_we X e) (pg_sub (pe_var hN hv hd hcd) (pe_we X ix) set_list ha) hs hw h0) ?_
  unfold mSetL at q
  split at q
  · rename_i hL
    obtain ⟨ps0, e0⟩ := isL_of hL
    obtain ⟨p0, ws0, s0, _, _⟩ := slot_ref R e0
    refine WE.imp (DA2 (Q := fun v y H' => rSetL (.ref p0) y v H' fun H4 => D.nx σ H4) h1 h2 R ((Mwp.bind q).imp (fun hes e' _ k F' H' v y hvs hos s mt R' => ?_) fun _ _ _ z => z.q)) fun v H1 z => ⟨_, s0, z⟩
    match hes, mt, k with
    | [.o u, hi], mt, k =>
      simp only at k
      cases hk : intAt hi e' with
      | none => rw [hk] at k; exact k.elim
      | some kk =>
        rw [hk] at k
        cases eo : e'[i]? with
        | none => rw [eo] at k; exact k.elim
        | some oo =>
          rw [eo] at k
          cases oo with
          | none => exact k.elim
          | some o =>
            cases o with
            | l ps =>
              simp only at k
              cases ej : ixN ps.length kk with
              | none => rw [ej] at k; exact k.elim
              | some j =>
                rw [ej] at k
                have R1 : Rel X.K S F' σ H' e' [v] [u] ∧ y = .int kk := by
                  cases mt with
                  | o m2 =>
                    cases m2 with
                    | @o u2 _ _ _ hvs2 hos2 m3 =>
                      cases m3
                      have L : Left X.K S F' σ H' e' [v] [u] y (.o u2) := R'
                      exact ⟨(left_int L rfl hk).2, (left_int L rfl hk).1⟩
                    | @al i2 _ _ _ hvs2 hos2 hσ m3 =>
                      cases m3
                      have L : Left X.K S F' σ H' e' [v] [u] y (.al i2) := ⟨hσ, R'⟩
                      exact ⟨(left_int L rfl hk).2, (left_int L rfl hk).1⟩
                obtain ⟨R1, rfl⟩ := R1
                obtain ⟨a, ws, z1, z2, z3, z4⟩ := Rel.mutLH (hs := []) (ho := []) (us := [v]) (us' := [u]) R1 rfl eo
                rw [s0] at z1
                cases z1
                refine ⟨p0, ws, kk, j, rfl, rfl, z2, by rw [z3]; exact ej, k F' σ _ s ?_⟩
                refine z4 (ws.set j v) (ps.set j u) [] [] fun F2 H2 fp fq c d => ?_
                obtain ⟨f1, l, c1, pm⟩ := OReps.setAt (j := j) c d
                exact ⟨f1, [], l, c1, .nil, by simpa using pm⟩
            | d _ => exact k.elim
            | m _ _ => exact k.elim
            | s _ => exact k.elim
  · exact q.elim

/-! ### a, b = e, f : the values held, then stored -/
def mStores (is : List Nat) (qs : List Opd) : M Fl := M.bind (args qs) fun hes e => match allO hes with
  | some os => match putAll is os e with
    | some e' => some (.ok .nx, e')
    | none => none
  | none => none
theorem ds_par {i j : Nat} {x y : Str} {qs : List Opd} {px py pt : Pos} {kt k2 pt2} (hc : X.calm = true) (ha : DAs X S W [a, b] qs) (hN : X.N.Nodup) (hp : ∀ p ∈ S.pin, p.1 ∉ [i, j]) (hij : i ≠ j) (hi : X.N[i]? = some x := by rfl) (hj : X.N[j]? = some y := by rfl)
    (hx : X.env.scope.names.lookup x = some .local := by rfl) (hy : X.env.scope.names.lookup y = some .local := by rfl)
    (hw : swappedStores [.Tuple [.Name x px, .Name y py] kt pt] (.Tuple [a, b] k2 pt2) X.env = pure (some [x, y]) := by rfl)
    (hs : swapsWithSole [.Tuple [.Name x px, .Name y py] kt pt] (.Tuple [a, b] k2 pt2) pos.line X.env = pure false := by rfl) :
    DS X S W (.Assign [.Tuple [.Name x px, .Name y py] kt pt] (.Tuple [a, b] k2 pt2) pos) (mStores [i, j] qs) := by
  intro F σ H env D R q
  refine WS.of (ps_par hc hN hi hj hij hx hy (pa_wa X _) hw hs) (ha F σ H env [] [] _ R ((Mwp.bind q).imp (fun hes e' _ k F' H' vs hvs hos s mt R' => ?_) fun _ _ _ z => z.q))
  cases e : allO hes with
  | none => rw [e] at k; exact k.elim
  | some os =>
    rw [e] at k
    simp only at k
    obtain ⟨rfl, rfl⟩ := mt_allO mt e
    have hlen := mt.hlen
    cases e2 : putAll [i, j] hos e' with
    | none => rw [e2] at k; exact k.elim
    | some e3 =>
      rw [e2] at k
      have R1 := Rel.storeAll (hs := []) (ho := []) R' rfl hlen e2 hp
      match hos, e2, hlen with
      | [o1, o2], e2, hlen =>
        match vs, hlen with
        | [v, w], _ => exact ⟨v, w, rfl, k F' _ H' s R1⟩
      | [], e2, _ => cases e2
      | [_], e2, _ =>
        simp only [putAll] at e2
        split at e2 <;> cases e2
      | _ :: _ :: _ :: _, e2, _ =>
        simp only [putAll] at e2
        split at e2
        · split at e2 <;> cases e2
        · cases e2
/-- any length, names that are cells too -/
theorem ds_tupAsg {es tgs : List Expr} {is : List Nat} {n : Nat} {gs : TGs} {qs : List Opd} {kt k2 : Nat} {pt pt2 : Pos} (hc : X.calm = true) (ha : DAs X S W es qs) (hgs : PGs X tgs gs) (hn : is.length = n) (hp : ∀ p ∈ S.pin, p.1 ∉ is)
    (hg : ∀ vs σ H Q, vs.length = n → Q (setAll is vs σ) H → gs vs σ H Q) (hz : n ≤ 1000)
    (hlen : (assignEach tgs X.env).length = n := by rfl) (hst : (assignEach tgs X.env).findIdx? (·.1) = none := by rfl)
    (hs : swapsWithSole [.Tuple tgs kt pt] (.Tuple es k2 pt2) pos.line X.env = pure false := by rfl) (hw : swappedStores [.Tuple tgs kt pt] (.Tuple es k2 pt2) X.env = pure none := by rfl)
    (h1 : (assignEach [.Tuple tgs kt pt] X.env).map (·.2) = [assign (.Tuple tgs kt pt) X.env] := by rfl) :
    DS X S W (.Assign [.Tuple tgs kt pt] (.Tuple es k2 pt2) pos) (mStores is qs) := by
  intro F σ H env D R q
  refine WS.of (ps_asg (pe_tup (pa_wa X es)) (pg_tup hc hgs hlen hst) hs hw h1) (ha F σ H env [] [] _ R ((Mwp.bind q).imp (fun hes e' _ k F' H' vs hvs hos s mt R' => ?_) fun _ _ _ z => z.q))
  cases e : allO hes with
  | none => rw [e] at k; exact k.elim
  | some os =>
    rw [e] at k
    simp only at k
    obtain ⟨rfl, rfl⟩ := mt_allO mt e
    have hlen' := mt.hlen
    cases e2 : putAll is hos e' with
    | none => rw [e2] at k; exact k.elim
    | some e3 =>
      rw [e2] at k
      have cnt : ∀ (is : List Nat) (os : List OD) (e e' : DEnv), putAll is os e = some e' → is.length = os.length := by
        intro is
        induction is with
        | nil =>
          intro os e e' h
          cases os with
          | nil => rfl
          | cons => cases h
        | cons i is ih =>
          intro os e e' h
          cases os with
          | nil => cases h
          | cons o os =>
            simp only [putAll] at h
            split at h
            · simp [ih _ _ _ h]
            · cases h
      have hl2 : vs.length = n := by rw [hlen', ← cnt _ _ _ _ e2, hn]
      refine ⟨by rw [hl2]; exact Nat.le_trans hz (by decide), fun p hp' => ⟨p, vs, rfl, .inl (.inl upd_same), hl2, hg vs σ _ _ hl2 ?_⟩⟩
      have R1 := (R'.grow (u := .tup vs) hp').storeAll (hs := []) (ho := []) rfl hlen' e2 hp
      exact k F' _ _ s R1

/-! ### x op= e -/
def mAug (i : Nat) (g : List OD → Option OD) (q : Opd) : M Fl := fun e0 => match e0[i]? with
  | some (some (.d x)) => M.bind q.go (fun he e => match he.rd e with
    | none => none
    | some o => match g [.d x, o] with
      | none => none
      | some r => if i < e.length then some (.ok .nx, e.set i (some r)) else none) e0
  | _ => none
theorem ds_aug {i : Nat} {x : Str} {e : Expr} {op : Operator} {r : R2} {g : List OD → Option OD} {q : Opd} {pos' : Pos} (ho : OpR X (inplaceOp op) r) (sp : OSpec X S (rr2 r) g) (h : DO X S W e q) (hN : X.N.Nodup) (hp : ∀ p ∈ S.pin, p.1 ≠ i) (hi : X.N[i]? = some x := by rfl)
    (hx : Loc X.env.scope x := by first | exact Or.inl rfl | exact Or.inr rfl) (hf : X.fn x = true ∨ X.env.scope.names.lookup x = some .local := by first | exact .inl rfl | exact .inr rfl | assumption) : DS X S W (.AugAssign (.Name x pos') op e pos) (mAug i g q) := by
  intro F σ H env D R hq
  unfold mAug at hq
  split at hq
  · rename_i d e0
    obtain ⟨v, fp, h1, h2⟩ := R.slot e0
    have rp := (ORp.d_inv h2).2
    refine WS.of (ps_aug hN hi hx (pe_we X e) (fun pins s σ H x y v u Q I r1 r2 t => ho pins s σ H x y v u Q I r1 r2 t) hf) ⟨v, h1, ?_⟩
    refine h F σ H env [] [] _ R ((Mwp.bind hq).imp (fun he e' _ k F' H' w s L => ?_) fun _ _ _ z => z.q)
    cases e1 : he.rd e' with
    | none => rw [e1] at k; exact k.elim
    | some o =>
      rw [e1] at k
      simp only at k
      cases e2 : g [.d d, o] with
      | none => rw [e2] at k; exact k.elim
      | some r' =>
        rw [e2] at k
        simp only at k
        split at k
        · rename_i hlt
          have both : Rel X.K S F' σ H' e' [] [] ∧ ∃ fp, ORp X.K F' H' w o fp := by
            cases he with
            | o u =>
              cases e1
              have L : Rel X.K S F' σ H' e' ([] ++ [w]) ([] ++ [o]) := L
              exact ⟨L.drop rfl, L.heldReps rfl⟩
            | al j =>
              obtain ⟨L1, L⟩ := L
              simp only [HE.rd] at e1
              cases q0 : e'[j]? with
              | none => rw [q0] at e1; cases e1
              | some oo =>
                rw [q0] at e1
                simp only [Option.join_some] at e1
                subst e1
                obtain ⟨v', fp, g1, g2⟩ := L.slot q0
                rw [g1] at L1
                cases L1
                exact ⟨L, fp, g2⟩
          obtain ⟨R', fp2, rw2⟩ := both
          refine sp F' σ H' e' [] [] [v, w] [.d d, o] r' _ R' (.cons (ORp.mkd (rp.mono s)) (.cons rw2 .nil)) e2 fun F2 H2 z s2 R2 => ?_
          exact k F2 _ H2 (s.trans s2) (R2.store (hs := []) (ho := []) rfl (by rw [R2.len]; exact hlt) hp)
        · exact k.elim
  · exact hq.elim
end
end DL

set_option Elab.async false
set_option linter.all false
set_option autoImplicit false
set_option maxRecDepth 100000
/-! How many different texts: len(set(xs)). -/
namespace DL
open PySem PySem.Spec PyProof.Rows L2

def nubN (xs : List Str) : Nat := xs.eraseDups.length
theorem nubN_snoc (xs : List Str) (x : Str) : nubN (xs ++ [x]) = if decide (x ∈ xs) then nubN xs else nubN xs + 1 := by
  unfold nubN
  rw [List.eraseDups_append, List.length_append]
  by_cases h : x ∈ xs
  · have : [x].removeAll xs = [] := by simp [List.removeAll, h]
    rw [this]
    simp [h]
  · have : [x].removeAll xs = [x] := by simp [List.removeAll, h]
    rw [this]
    simp [h, List.eraseDups_cons]
section
variable {prog : Program} {w : World} {A : Around} {R : Result → Shared → Prop} {I : Addr} {fp wr : List Addr} {G : Array GenState → Array GenState → Prop} {n : Nat} {P : Nat → Value → Prop} {St : Nat → Shared → Prop}
/-- the loop of set(xs), from turn i on -/
theorem nub_loop (W : WalksS prog w A.in1 I fp wr G n P St) (D : Addr) (hD : D ∉ fp) (xs : List Str) (hsz : xs.length = n) (hb : n + 1 < scanBound) (hval : ∀ i v, P i v → ∃ t, v = .str (xs.getD i Str.empty) t) (k : Nat) :
    ∀ (i : Nat) (s : Shared), i + k = n → St i s → s.heap.SetOf (PySem.strKind prog w) D (fun y => decide (y ∈ xs.take i)) (nubN (xs.take i)) →
      (∀ s', Moved (D :: wr) G s s' → s'.heap.SetOf (PySem.strKind prog w) D (fun y => decide (y ∈ xs)) (nubN xs) → R (.ok (.ret .none)) s') →
      codeAny (model prog w) A (.builtin "set.update.loop" ⟨[.ref D, .ref I], []⟩) R s := by
  have out : D ∉ wr := fun h => hD (W.sub _ h)
  have wide : ∀ b ∈ wr, b ∈ D :: wr := fun b h => List.mem_cons_of_mem _ h
  have carry : ∀ {h h' : Heap} {S : Str → Bool} {m : Nat}, (∀ b o, b ∉ wr → h.get? b = some o → h'.get? b = some o) → h.SetOf (PySem.strKind prog w) D S m → h'.SetOf (PySem.strKind prog w) D S m := by
    rintro h h' S m mv ⟨o, es, ep, tb, ho, rest⟩
    exact ⟨o, es, ep, tb, mv D _ out ho, rest⟩
  have small : ∀ i : Nat, nubN (xs.take i) ≤ i := by
    intro i
    induction i with
    | zero => simp [nubN]
    | succ i ih =>
      by_cases hi : i < xs.length
      · rw [List.take_succ_eq_append_getElem hi, nubN_snoc]
        split <;> omega
      · have e1 : xs.take (i + 1) = xs.take i := by rw [List.take_of_length_le (by omega), List.take_of_length_le (by omega)]
        rw [e1]
        omega
  induction k with
  | zero =>
    intro i s hk hst hS hR
    have hin : i = n := by omega
    subst hin
    rw [← hsz, List.take_length] at hS
    refine codeAny_builtin PyProof.Rows.F.entry_set_update_loop ?_
    rw [Around.under_plainId PyProof.Rows.F.plain_set_update_loop _]
    show wpAny _ A.in1 (pyNext (.ref I) >>= _) _ _ s
    refine wpAny_bind (W.done s _ _ hst fun s' mv => wpAny_pure (hR s' (mv.mono wide) (carry mv.heap hS)))
  | succ k ih =>
    intro i s hk hst hS hR
    have hi : i < xs.length := by omega
    refine codeAny_builtin PyProof.Rows.F.entry_set_update_loop ?_
    rw [Around.under_plainId PyProof.Rows.F.plain_set_update_loop _]
    show wpAny _ A.in1 (pyNext (.ref I) >>= _) _ _ s
    refine wpAny_bind (W.item i s _ _ (by omega) hst fun v s' hP hst' mv => ?_)
    obtain ⟨t, rfl⟩ := hval i v hP
    have gx : xs.getD i Str.empty = xs[i] := by rw [List.getD_eq_getElem?_getD, List.getElem?_eq_getElem hi]; rfl
    rw [gx]
    have hS' := carry mv.heap hS
    show wpAny _ A.in1 (holding [Value.str xs[i] t] (setAdd D (.str xs[i] t)) >>= _) _ _ s'
    refine wpAny_bind (wpAny_holding ?_)
    unfold setAdd
    refine wpAny_holding (wpAny_bind ((PySem.strKind prog w).pyHash (k := xs[i]) (strKind_is _ _ _ _) ?_))
    have room : nubN (xs.take i) + 1 < scanBound := by have := small i; omega
    refine wpAny_setAddHashed_of (knd := PySem.strKind prog w) (s := { s' with toks := s'.toks + 1 }) (strKind_is _ _ _ _) rfl hS' room fun h' but hS2 => ?_
    have hS3 : h'.SetOf (PySem.strKind prog w) D (fun y => decide (y ∈ xs.take (i + 1))) (nubN (xs.take (i + 1))) := by
      rw [List.take_succ_eq_append_getElem hi]
      refine SetOf_congr hS2 (fun y => ?_) (nubN_snoc _ _).symm
      simp only [List.mem_append, List.mem_singleton, Bool.decide_or]
    refine wpAny_pure ⟨plainId_quiet PyProof.Rows.F.plain_set_update_loop _, ih (i + 1) _ (by omega) (W.frame _ s' _ _ hst' (Nat.le_succ _) fun b hb o e => ?_) hS3 fun s'' mv2 hS4 => ?_⟩
    · rw [but.2 b fun z => hD (z ▸ hb)]
      exact e
    · refine hR s'' (Moved.trans W.gtrans ((mv.mono wide).then_heap (Nat.le_succ _) fun b o hb e => ?_) mv2) hS4
      rw [but.2 b fun z => hb (z ▸ List.mem_cons_self)]
      exact e
end
section
variable {prog : Program} {w : World} {A : Around} {E : Value → Shared → Prop} {s : Shared}

set_option maxHeartbeats 3200000 in
/-- set(xs), xs at l a list or a tuple (T) -/
theorem set_made {T : String} {l : Addr} {items : Array Value} {xs : List Str} {Q : Value → Shared → Prop} (hh : A.handled = none) (hl : ∃ o n, s.heap.get? l = some o ∧ o.cls = .type T ∧ o.data = .seq items n)
    (t1 : isSubtype (.type T) (.type "set") = pure false) (t2 : isSubtype (.type T) (.type "frozenset") = pure false) (t3 : (Value.type T == Value.type "dict") = false) (itc : String)
    (iter : ∀ (A : Around) (E : Value → Shared → Prop) (s : Shared) (Q : Value → Shared → Prop), (∃ o n, s.heap.get? l = some o ∧ o.cls = .type T ∧ o.data = .seq items n) →
      Q (.ref s.heap.objs.size) { s with heap := s.heap.push { cls := .type itc, data := .fields #[.ref l, .int 0 0] } } → wpAny (model prog w) A (pyIter (.ref l)) Q E s)
    (wk : ∀ (A : Around) (I : Addr), A.handled = none → l ≠ I → ∃ St : Nat → Heap → Prop, Walks prog w A I [I, l] [I] items.size (fun i v => items[i]? = some v) St ∧ ∀ h : Heap, h.get? I = some { cls := .type itc, data := .fields #[.ref l, .int 0 0] } → (∃ o n, h.get? l = some o ∧ o.cls = .type T ∧ o.data = .seq items n) → St 0 h)
    (hi : PyProof.Rows.StrsAre items.toList xs) (hb : xs.length + 1 < scanBound)
    (h : ∀ (h' : Heap) (tk : Nat), h'.SetOf (PySem.strKind prog w) s.heap.objs.size (fun y => decide (y ∈ xs)) (nubN xs) → (∀ b o, b < s.heap.objs.size → s.heap.get? b = some o → h'.get? b = some o) → Q (.ref s.heap.objs.size) { s with heap := h', toks := tk }) :
    wpAny (model prog w) A (call (.type "set") [.ref l]) Q E s := by
  have f1 := PySem.F.called_set.made
  have f2 := PySem.F.called_set.sub
  have f3 := PySem.F.called_set.notType
  have f4 := PySem.F.called_set.canCreate
  have f5 := PySem.F.typeCall_set_1 (.ref l)
  obtain ⟨mc, mt, f6⟩ := PySem.F.called_set.mro
  refine wpAny_call (codeAny_of_tree ?_)
  show wpAny _ _ (callAny (.type "set") _) _ _ _
  refine wpAny_pure ⟨Code.quiet_builtin _ (by decide +kernel), codeAny_builtin PySem.F.entry_type_call ?_⟩
  rw [Around.under_plain (weight_type_call_type "set" [.ref l] []) rfl]
  repeat (any_goals (first | assumption | wp_step))
  refine codeAny_mono (code_set_new_1 (.ref l) (E := E) (Q₁ := fun obj s₁ => ∃ led : Bool, obj = .ref s.heap.objs.size ∧ s₁ = { s with heap := s.heap.push { cls := .type "set", dict := none, data := .set #[] 0 (.fresh 0 0 led) } }) fun led => ⟨led, rfl, rfl⟩) fun r s₁ made => ?_
  match r, made with
  | .ok (.ret obj), made =>
    obtain ⟨led, rfl, rfl⟩ := made
    have atS : (s.heap.push { cls := .type "set", dict := none, data := .set #[] 0 (.fresh 0 0 led) }).get? s.heap.objs.size = some { cls := .type "set", dict := none, data := .set #[] 0 (.fresh 0 0 led) } := Heap.get?_push_size _ rfl
    have tyS : Shared.TypeIs { s with heap := s.heap.push { cls := .type "set", dict := none, data := .set #[] 0 (.fresh 0 0 led) } } (.ref s.heap.objs.size) "set" := ⟨_, atS, rfl⟩
    have f7 := PySem.F.called_set.init.lookup
    have f8 := PySem.F.called_set.init.bind (.ref s.heap.objs.size)
    repeat (any_goals (first | assumption | wp_step))
    refine codeAny_mono (codeAny_call_builtin (R := wants (fun r s₂ => r = .none ∧ ∃ h' tk, s₂ = { s with heap := h', toks := tk } ∧ h'.SetOf (PySem.strKind prog w) s.heap.objs.size (fun y => decide (y ∈ xs)) (nubN xs) ∧
      (∀ b o, b < s.heap.objs.size → s.heap.get? b = some o → h'.get? b = some o)) E) PySem.F.called_set.init.plain PySem.F.entry_set_init (check_set_init_1 tyS ?_)) fun r₂ s₂ fin => ?_
    · obtain ⟨ol, nl, ol1, ol2, ol3⟩ := hl
      obtain ⟨oc, odi, oda, osl⟩ := ol
      simp only at ol2 ol3
      subst ol2
      subst ol3
      have lS : l < s.heap.objs.size := Heap.lt_size ol1
      have atl : (s.heap.push { cls := .type "set", dict := none, data := .set #[] 0 (.fresh 0 0 led) }).get? l = some { cls := .type T, dict := odi, data := .seq items nl, slots := osl } := Heap.get?_push_of_some _ ol1
      unfold Builtin.«set.__init__» noKeywords Builtin.Frozenset.updateFrom
      generalize hPI : pyIter = PI
      wp_walk
      subst hPI
      refine iter _ _ { s with heap := s.heap.push { cls := .type "set", dict := none, data := .set #[] 0 (.fresh 0 0 led) } } _ ⟨{ cls := .type T, dict := odi, data := .seq items nl, slots := osl }, nl, atl, rfl, rfl⟩ ?_
      refine wpAny_bind (wpAny_runValue ?_)
      have nI : l ≠ (s.heap.push { cls := .type "set", dict := none, data := .set #[] 0 (.fresh 0 0 led) }).objs.size := by rw [Heap.size_push]; exact Nat.ne_of_lt (Nat.lt_succ_of_lt lS)
      have nS : s.heap.objs.size ∉ [(s.heap.push { cls := .type "set", dict := none, data := .set #[] 0 (.fresh 0 0 led) }).objs.size, l] := by
        rw [Heap.size_push]
        simp only [List.mem_cons, List.not_mem_nil, or_false, not_or]
        exact ⟨Nat.ne_of_lt (Nat.lt_succ_self _), Nat.ne_of_gt lS⟩
      have cnt : xs.length = items.size := by rw [← StrsAre.len_eq hi, Array.length_toList]
      obtain ⟨St, Wk, st0⟩ := wk A.in1.in1.in1 (s.heap.push { cls := .type "set", dict := none, data := .set #[] 0 (.fresh 0 0 led) }).objs.size (by simp [hh]) nI
      refine nub_loop (Wk.toS) s.heap.objs.size nS xs cnt (by rw [← cnt]; exact hb) (fun i v hv => SS.strs_at hi i v (by rw [Array.getElem?_toList]; exact hv)) items.size 0 _ (by omega)
        (st0 _ (Heap.get?_push_size _ rfl) ⟨{ cls := .type T, dict := odi, data := .seq items nl, slots := osl }, nl, Heap.get?_push_of_some _ atl, rfl, rfl⟩) ?_ ?_
      · have g : ((s.heap.push { cls := .type "set", dict := none, data := .set #[] 0 (.fresh 0 0 led) }).push { cls := .type itc, data := .fields #[.ref l, .int 0 0] }).get? s.heap.objs.size = some { cls := .type "set", dict := none, data := .set #[] 0 (.fresh 0 0 led) } := Heap.get?_push_of_some _ atS
        exact PyProof.Rows.SetOf_congr ((PyProof.Rows.setObjOf_fresh (knd := PySem.strKind prog w) led).setOf g (by unfold scanBound; omega)) (fun _ => by simp) (by simp [nubN])
      · intro s' mv set'
        obtain ⟨h', g', d', tk', os'⟩ := s'
        obtain rfl : g' = s.gens := mv.gens
        obtain rfl : d' = s.drawn := mv.drawn
        obtain rfl : os' = s.os := mv.os
        refine wpAny_pure (wpAny_pure ⟨rfl, h', tk', rfl, set', fun b o hb' e => ?_⟩)
        refine mv.heap b o ?_ (Heap.get?_push_of_some _ (Heap.get?_push_of_some _ e))
        simp only [List.mem_cons, List.not_mem_nil, or_false, not_or]
        rw [Heap.size_push]
        exact ⟨Nat.ne_of_lt hb', Nat.ne_of_lt (Nat.lt_succ_of_lt hb')⟩
    · match r₂, fin with
      | .ok (.ret r), fin =>
        obtain ⟨rfl, h', tk, rfl, set', kp⟩ := fin
        repeat (any_goals (first | assumption | wp_step))
        exact h _ _ set' kp
      | .error e, fin => exact fin
  | .error e, made => exact made
theorem set_list {l : Addr} {items : Array Value} {xs : List Str} {Q : Value → Shared → Prop} (hh : A.handled = none) (hl : s.heap.IsList l items) (hi : PyProof.Rows.StrsAre items.toList xs) (hb : xs.length + 1 < scanBound)
    (h : ∀ (h' : Heap) (tk : Nat), h'.SetOf (PySem.strKind prog w) s.heap.objs.size (fun y => decide (y ∈ xs)) (nubN xs) → (∀ b o, b < s.heap.objs.size → s.heap.get? b = some o → h'.get? b = some o) → Q (.ref s.heap.objs.size) { s with heap := h', toks := tk }) :
    wpAny (model prog w) A (call (.type "set") [.ref l]) Q E s := by
  have un : ∀ {h : Heap}, h.IsList l items ↔ ∃ o n, h.get? l = some o ∧ o.cls = .type "list" ∧ o.data = .seq items n := fun {h} => ⟨fun ⟨o, a, b, n, c⟩ => ⟨o, n, a, b, c⟩, fun ⟨o, n, a, b, c⟩ => ⟨o, a, b, n, c⟩⟩
  exact set_made hh (un.mp hl) PySem.F.sub_list_set PySem.F.sub_list_frozenset (by decide) "list_iterator" (fun A E s Q h q => wpAny_pyIter_list (un.mpr h) q)
    (fun A I ha ne => ⟨_, Walks.list ha I l ne items, fun h h1 h2 => ⟨⟨_, h1, rfl, rfl⟩, un.mpr h2⟩⟩) hi hb h
theorem set_tuple {l : Addr} {items : Array Value} {xs : List Str} {Q : Value → Shared → Prop} (hh : A.handled = none) (hl : s.heap.IsTuple l items) (hi : PyProof.Rows.StrsAre items.toList xs) (hb : xs.length + 1 < scanBound)
    (h : ∀ (h' : Heap) (tk : Nat), h'.SetOf (PySem.strKind prog w) s.heap.objs.size (fun y => decide (y ∈ xs)) (nubN xs) → (∀ b o, b < s.heap.objs.size → s.heap.get? b = some o → h'.get? b = some o) → Q (.ref s.heap.objs.size) { s with heap := h', toks := tk }) :
    wpAny (model prog w) A (call (.type "set") [.ref l]) Q E s := by
  have un : ∀ {h : Heap}, h.IsTuple l items ↔ ∃ o n, h.get? l = some o ∧ o.cls = .type "tuple" ∧ o.data = .seq items n := fun {h} => ⟨fun ⟨o, a, b, n, c⟩ => ⟨o, n, a, b, c⟩, fun ⟨o, n, a, b, c⟩ => ⟨o, a, b, n, c⟩⟩
  exact set_made hh (un.mp hl) PySem.F.sub_tuple_set PySem.F.sub_tuple_frozenset (by decide) "tuple_iterator" (fun A E s Q h q => wpAny_pyIter_tuple (un.mpr h) q)
    (fun A I ha ne => ⟨_, Walks.tuple ha I l ne items, fun h h1 h2 => ⟨⟨_, h1, rfl, rfl⟩, un.mpr h2⟩⟩) hi hb h
end

/-! ### len(set(e)) -/
def strsOf : List PyData → Option (List Str)
  | [] => some []
  | .str x :: ds => (strsOf ds).map (x :: ·)
  | _ => none
theorem strs_rep {K : PySem.W.Frag} {F : Hp} : ∀ {ds : List PyData} {vs : List V} {xs : List Str}, Reps K F vs ds → strsOf ds = some xs → vs = xs.map V.str
  | [], [], _, _, e => by cases e; rfl
  | [], _ :: _, _, h, _ => nomatch h
  | d :: ds, [], _, h, _ => nomatch h
  | d :: ds, v :: vs, bs, h, e => by
    obtain ⟨h1, h2⟩ := h.inv
    cases d with
    | str b =>
      simp only [strsOf] at e
      obtain ⟨cs, q, rfl⟩ := Option.map_eq_some_iff.mp e
      rw [strs_rep h2 q, h1.str_inv.1]
      rfl
    | _ => cases e
def gLenSet : PyData → Option OD
  | .list ds => (strsOf ds).bind fun xs => if xs.length ≤ 1000 then some (.d (.int (nubN xs))) else none
  | .tuple ds => (strsOf ds).bind fun xs => if xs.length ≤ 1000 then some (.d (.int (nubN xs))) else none
  | _ => none
def rLenSet (K : PySem.W.Frag) : V → Hp → VK → Prop := fun x H Q => ∃ l, ∃ xs : List Str, x = .ref l ∧ (SqL K H l (xs.map V.str) ∨ SqT K H l (xs.map V.str)) ∧ xs.length ≤ 1000 ∧ Q (.int (nubN xs)) H
section
variable {X : Cx} {S : Sx} {W : WX} {a : Expr} {qa : Opd}
theorem strsAre' : ∀ {ys : List Str} {us : List Value}, Vals (ys.map V.str) us → StrsAre us ys
  | [], _, .nil => .nil
  | y :: ys, _, .cons r t => by
    obtain ⟨k, rfl⟩ := r
    exact .cons y k (strsAre' t)
theorem nub_le (xs : List Str) : nubN xs ≤ xs.length := by
  have small : ∀ i : Nat, nubN (xs.take i) ≤ i := by
    intro i
    induction i with
    | zero => simp [nubN]
    | succ i ih =>
      by_cases hi : i < xs.length
      · rw [List.take_succ_eq_append_getElem hi, nubN_snoc]
        split <;> omega
      · have e1 : xs.take (i + 1) = xs.take i := by rw [List.take_of_length_le (by omega), List.take_of_length_le (by omega)]
        rw [e1]
        omega
  have := small xs.length
  rw [List.take_length] at this
  exact this
theorem pe_lenSetN {ta : TE} {p p2 q pos : Pos} (hc : X.calm = true) (hg : Gl X "len") (hm : X.mg "len" = none) (hg2 : Gl X "set") (hm2 : X.mg "set" = none) (ha : PE X a ta)
    (na : starEach [a] X.env = (false, eval a X.env) :: starEach [] X.env := by rfl) : PE X (.Call (.Name "len" p) [.Call (.Name "set" p2) [a] [] q] [] pos) (fun σ H Q => ta σ H fun x H1 => rLenSet X.K x H1 Q) := by
  refine ⟨?_⟩
  intro pins s σ H Q I h
  refine Call_ (ld_blt I hg hm boot_len (PyProof.Rows.callWith_builtin1 (PyProof.Rows.args_cons ?_ rfl) rfl rfl))
  refine Call_ (ld_blt I hg2 hm2 boot_set (PyProof.Rows.callWith_type1 (PyProof.Rows.args_cons (thn (ha.run pins s σ H _ I h) ?_) na) na rfl))
  rintro v s1 ⟨x, H1, I1, r1, l, xs, rfl, hq, hz, k⟩
  refine PyProof.Rows.args_nil ?_
  obtain rfl : v = Value.ref l := r1
  have big : (2 : Int) ^ 63 > 1000 := by decide
  have last : ∀ (h' : Heap) (tk : Nat), h'.SetOf (PySem.strKind X.prog X.w) s1.heap.objs.size (fun y => decide (y ∈ xs)) (nubN xs) → (∀ b o, b < s1.heap.objs.size → s1.heap.get? b = some o → h'.get? b = some o) →
      wpAny (model X.prog X.w) X.A (spliced (backTo pos (starEach [] X.env))) (fun vs s₂ => wpAny (model X.prog X.w) X.A (call (.builtin "len") (Value.ref s1.heap.objs.size :: vs)) (EP X pins σ Q) X.xe s₂) X.xe { s1 with heap := h', toks := tk } := by
    intro h' tk st kp
    refine PyProof.Rows.args_nil ?_
    have I2 : Inv X pins σ H1 { s1 with heap := h', toks := tk } := I1.kept fun b o e => kp b o (Heap.lt_size e) e
    obtain ⟨o, es, ep, t, ho, hex, hd, _, _, _, hf, hn⟩ := st
    have := nub_le xs
    exact call_len_set ho hex hd hf (by rw [hn]; omega) ⟨.int (nubN xs), H1, I2.tok _, ⟨_, by rw [hn]⟩, k⟩
  have sb : xs.length + 1 < scanBound := by unfold scanBound; omega
  rcases hq with hq | hq
  · obtain ⟨its, rv, pl, _⟩ := I1.list hq
    exact DL.set_list (I1.ok.hd hc) pl.isList (strsAre' rv) sb last
  · obtain ⟨its, rv, pl, _⟩ := I1.tuple hq
    exact DL.set_tuple (I1.ok.hd hc) pl (strsAre' rv) sb last
theorem de_lenSet {p p2 q pos : Pos} (hc : X.calm = true) (h1 : DO X S W a qa) (hm : X.mg "len" = none) (hm2 : X.mg "set" = none) (hg : Gl X "len" := by rfl) (hg2 : Gl X "set" := by rfl)
    (na : starEach [a] X.env = (false, eval a X.env) :: starEach [] X.env := by rfl) : DE X S W (.Call (.Name "len" p) [.Call (.Name "set" p2) [a] [] q] [] pos) (prim (sh1 gLenSet) [qa]) := by
  intro F σ H env hs hos Q R h
  refine WE.of (pe_lenSetN hc hg hm hg2 hm2 (pe_we X a) na) (DA1 h1 R ((Mwp.bind h).imp (fun hes env' _ k F' H' x hvs hos' s mt R' => ?_) fun _ _ _ x => x))
  refine prim_fin (r := rr1 (rLenSet X.K)) (os_sh1 fun F σ H env hs ho x d o Q R h1 hf k => ?_) R.hlen s mt R' k
  unfold gLenSet at hf
  split at hf
  · rename_i ds
    cases e : strsOf ds with
    | none => rw [e] at hf; cases hf
    | some xs =>
      rw [e] at hf
      simp only [Option.bind_some] at hf
      split at hf
      · cases hf
        obtain ⟨p, ws, rfl, e1, e2⟩ := h1.list R.sub
        have := strs_rep e2 e
        subst this
        exact ⟨p, xs, rfl, .inl (.inl (.inl e1)), by assumption, fin_d R k (.int _ .nil)⟩
      · cases hf
  · rename_i ds
    cases e : strsOf ds with
    | none => rw [e] at hf; cases hf
    | some xs =>
      rw [e] at hf
      simp only [Option.bind_some] at hf
      split at hf
      · cases hf
        obtain ⟨p, ws, rfl, e1, e1', e2⟩ := h1.tuple R.sub
        have := strs_rep e2 e
        subst this
        exact ⟨p, xs, rfl, .inr e1, by assumption, fin_d R k (.int _ .nil)⟩
      · cases hf
  · cases hf
end
end DL

set_option Elab.async false
set_option linter.all false
set_option autoImplicit false
set_option maxRecDepth 100000
/-! tuple and list of a text; a chain as a test; words for printed proofs. -/
namespace DL
open PySem PySem.Spec PyProof.Rows L2

section
variable {prog : Program} {w : World} {A : Around} {E : Value → Shared → Prop} {s : Shared}
theorem tuple_of_str {x : Str} {t : Tok} {Q : Value → Shared → Prop} (hh : A.handled = none) (hz : x.cps.size ≤ sizeLine)
    (h : ∀ (s' : Shared) (acc : Array Value), (∀ b o, s.heap.get? b = some o → s'.heap.get? b = some o) → s'.gens = s.gens → s'.drawn = s.drawn → s'.os = s.os → ItemsOf (SignAt x) acc x.cps.size →
      Q (.ref s'.heap.objs.size) { s' with heap := s'.heap.push { cls := .type "tuple", data := .seq acc } }) : wpAny (model prog w) A (call (.type "tuple") [.str x t]) Q E s := by
  have made : codeAny (model prog w) A.in1 (.call (.builtin "tuple.__new__") ⟨[.type "tuple", .str x t], []⟩) (wants (fun obj s₁ => s₁.TypeIs obj "tuple" ∧ Q obj s₁) E) s := by
    apply codeAny_of_tree
    show wpAny _ A.in1.in1 (do checkBuiltinCall "tuple.__new__" ⟨[.type "tuple", .str x t], []⟩; again (.builtin "tuple.__new__" ⟨[.type "tuple", .str x t], []⟩)) _ _ s
    refine wpAny_bind (wpAny_of_eq (F.newCall_tuple_1 _) (wpAny_pure ⟨plainId_quiet F.plain_tuple_new _, codeAny_builtin F.entry_tuple_new ?_⟩))
    rw [Around.under_plainId F.plain_tuple_new _]
    have g1 := sub_tuple_self
    have g2 := init_tuple_lookup
    have g3 := madeHere_tuple
    have g4 : s.TypeIs (.str x t) "str" := typeIs_str s x t
    have g5 : A.in1.in1.handled = none := hh
    wp_walk using wpAny_typeOf g4, wpAny_collect_str (hn := hz) (A := A.in1.in1) g5 x t
    intro s' acc k1 k2 k3 k4 hacc
    show wpAny _ _ (Builtin.Tuple.tupleExact acc.toList.toArray >>= fun v => ret v) _ _ _
    unfold Builtin.Tuple.tupleExact
    have e : acc.toList.toArray = acc := by simp
    rw [e]
    refine wpAny_bind (wpAny_newObj_type (wpAny_pure ?_) (by show acc.size ≤ sizeLine; rw [hacc.1]; exact hz))
    exact ⟨⟨_, Heap.get?_push_size _ rfl, rfl⟩, h s' acc k1 k2 k3 k4 hacc⟩
  refine callType_codes (Q₁ := fun obj s₁ => s₁.TypeIs obj "tuple" ∧ Q obj s₁) F.called_tuple (F.typeCall_tuple_1 _) F.entry_object_init made ?_
  rintro obj s₁ ⟨z1, z2⟩
  exact ⟨z1, F.args_object_init_2 obj _, object_init_meets F.called_tuple.init.lookup F.called_tuple.made (by decide) prog w A.in1 _ s₁ ⟨z1, rfl, z2⟩⟩
end
theorem signs_vals {x : Str} {acc : Array Value} (h : ItemsOf (SignAt x) acc x.cps.size) : Vals (x.cps.toList.map fun c => V.str ⟨#[c]⟩) acc.toList := by
  have go : ∀ (l : List Nat) (us : List Value), us.length = l.length → (∀ (j : Nat) (v : Value), us[j]? = some v → ∃ c u, l[j]? = some c ∧ v = .str ⟨#[c]⟩ u) → Vals (l.map fun c => V.str ⟨#[c]⟩) us := by
    intro l
    induction l with
    | nil =>
      intro us hl _
      have : us = [] := List.eq_nil_of_length_eq_zero hl
      subst this
      exact .nil
    | cons c l ih =>
      intro us hl hk
      cases us with
      | nil => simp at hl
      | cons u us =>
        obtain ⟨c', t, h1, h2⟩ := hk 0 u (by simp)
        simp at h1
        subst h1
        refine .cons ⟨t, h2⟩ (ih us (by simpa using hl) fun j v hv => ?_)
        simpa using hk (j + 1) v (by simpa using hv)
  refine go _ _ (by simp [h.1]) fun j v hv => ?_
  obtain ⟨c, u, h1, h2⟩ := h.2 j v (by simpa using hv)
  exact ⟨c, u, by simpa using h1, h2⟩
section
variable {X : Cx} {S : Sx} {W : WX} {a b c : Expr} {qa qb qc : Opd} {pos : Pos}
theorem chars_rep {K : PySem.W.Frag} {F : Hp} (x : Str) : Reps K F (x.cps.toList.map fun c => V.str ⟨#[c]⟩) (chars x) := by
  unfold chars
  generalize x.cps.toList = l
  induction l with
  | nil => exact .nil
  | cons c l ih => exact .str _ (by show 1 ≤ sizeLine; decide) ih
def rTupStr : V → Hp → VK → Prop := fun x H Q => ∃ z : Str, x = .str z ∧ z.length ≤ sizeLine ∧ ∀ l, H l = none → Q (.ref l) (upd H l (.tup (z.cps.toList.map fun c => V.str ⟨#[c]⟩)))
theorem cr_tupStr (hc : X.calm = true) : CallR X (.type "tuple") (rr1 rTupStr) := by
  intro pins s σ H xs us Q I r h
  unfold rr1 at h
  split at h
  · rename_i x
    obtain ⟨u, rfl, r1⟩ := vals1 r
    obtain ⟨z, rfl, hz, k⟩ := h
    obtain ⟨t, rfl⟩ := r1
    refine tuple_of_str (I.ok.hd hc) hz fun s' acc k1 k2 k3 k4 hacc => ?_
    obtain ⟨h', g', d', t', o'⟩ := s'
    obtain rfl : g' = s.gens := k2
    obtain rfl : d' = s.drawn := k3
    obtain rfl : o' = s.os := k4
    have I1 : Inv X pins σ H { s with heap := h', toks := t' } := I.kept k1
    have rv := signs_vals hacc
    have hlen : (z.cps.toList.map fun c => V.str ⟨#[c]⟩).length ≤ sizeLine := by simpa [Str.length] using hz
    have I2 : Inv X pins σ (upd H h'.objs.size (.tup (z.cps.toList.map fun c => V.str ⟨#[c]⟩))) { s with heap := h'.push { cls := .type "tuple", data := .seq acc }, toks := t' } :=
      I1.laid (t' := t') (fun b o e => Heap.get?_push_of_some _ e) (Nat.le_refl _) (show ObjOk X.prog X.w _ _ _ (.tup _) from ⟨hlen, acc.toList, rv, by simpa using IsTup.new h' acc⟩)
    exact ⟨.ref h'.objs.size, _, I2, rfl, k _ (I1.hok.fresh (Nat.le_refl _))⟩
  · exact h.elim
def gTupStr : PyData → Option OD
  | .str x => some (.d (.tuple (chars x)))
  | _ => none
theorem os_tupStr : OSpec X S (rr1 rTupStr) (sh1 gTupStr) := os_sh1 fun F σ H env hs ho x d o Q R h1 hf k => by
  unfold gTupStr at hf
  split at hf
  · cases hf
    obtain ⟨rfl, hz⟩ := h1.str
    exact ⟨_, rfl, hz, fun l hl => fin_t R k (chars_rep _) hl⟩
  · cases hf

/-! ### a op b op c as a test -/
theorem dt_chain {op op' : CmpOp} {r r' : R2} {g g' : List OD → Option OD} (ho : OpR X (compareOp op) r) (ho' : OpR X (compareOp op') r') (sp : OSpec X S (rr2 r) g) (sp' : OSpec X S (rr2 r') g') (h1 : DO X S W a qa) (h2 : DO X S W b qb) (h3 : DO X S W c qc)
    (hm : lastMarks [op, op'] [b, c] = false := by with_unfolding_all rfl) : DT X S W (.Compare a [op, op'] [b, c] pos) (mTest (mChain g g' qa qb qc)) := by
  intro F σ H env hs hos Q R h
  have hb := Mwp.bind h
  refine WT.of (pt_chain ho ho' (pe_we X a) (pe_we X b) (pe_we X c) hm) (DA2 h1 h2 R ((Mwp.bind hb).imp (fun hes env' _ k F' H' x y hvs hos' s mt R' => ?_) fun _ _ _ x => x))
  cases e : rds env' hes with
  | none => rw [e] at k; exact k.elim
  | some os =>
    rw [e] at k
    simp only at k
    have rb := mt.rdb R' R.hlen e
    have hl2 : (hs ++ hvs).length = (hos ++ hos').length := by simp [R.hlen, mt.hlen]
    cases e2 : g os with
    | none => rw [e2] at k; exact k.elim
    | some o =>
      rw [e2] at k
      refine sp F' σ H' env' (hs ++ hvs) (hos ++ hos') [x, y] os o _ R' rb e2 fun F2 H2 z s2 R2 => ?_
      cases o with
      | d d =>
        cases d with
        | bool t =>
          have ez := bool_held R2 hl2
          subst ez
          have R3 := R2.drop hl2
          refine ⟨t, rfl, ?_⟩
          cases t with
          | false => exact ⟨false, rfl, k F2 H2 (s.trans s2) (R3.drop R.hlen)⟩
          | true =>
            refine h3 F2 σ H2 env' (hs ++ hvs) (hos ++ hos') _ R3 ((Mwp.bind k).imp (fun hc env3 _ k3 F3 H3 w s3 L => ?_) fun _ _ _ q => q.mono (s.trans s2) R.hlen)
            have s03 : Same F F3 := (s.trans s2).trans s3
            cases e4 : rds env3 (hes ++ [hc]) with
            | none => rw [e4] at k3; exact k3.elim
            | some us =>
              rw [e4] at k3
              simp only at k3
              cases e5 : g' (us.drop 1) with
              | none => rw [e5] at k3; exact k3.elim
              | some o' =>
                rw [e5] at k3
                have fin : ∀ {hvs2 hos2}, Mt σ (hes ++ [hc]) [x, y, w] hvs2 hos2 → Rel X.K S F3 σ H3 env3 (hs ++ hvs2) (hos ++ hos2) → r' y w H3 fun v H4 => ∃ k, v = .bl k ∧ Q k H4 := fun {hvs2 hos2} mt2 R4 => by
                  have rb2 := rdb_drop (mt2.rdb R4 R.hlen e4)
                  refine sp' F3 σ H3 env3 hs hos [y, w] (us.drop 1) o' _ (R4.drop R.hlen) rb2 e5 fun F5 H5 v s5 R5 => ?_
                  cases o' with
                  | d d' =>
                    cases d' with
                    | bool t' =>
                      have ev := bool_held R5 R.hlen
                      subst ev
                      exact ⟨t', rfl, k3 F5 H5 (s03.trans s5) (R5.drop R.hlen)⟩
                    | _ => exact k3.elim
                  | _ => exact k3.elim
                cases hc with
                | o u =>
                  have L' : Rel X.K S F3 σ H3 env3 (hs ++ hvs ++ [w]) (hos ++ hos' ++ [u]) := L
                  exact fin (mt_snoc mt (he := .o u)) (by rw [← List.append_assoc, ← List.append_assoc]; exact L')
                | al i => exact fin (mt_snoc mt (he := .al i) L.1) L.2
        | _ => exact k.elim
      | _ => exact k.elim

/-! ### words for printed proofs -/
theorem Ok1.blk (ok : Ok1 X) {s : Shared} {H : Hp} {scope : Scope} {ce : Env} {fp : List Addr} : Ok1 (X.blk s H scope ce fp) := ⟨ok.calm, ok.nd, ok.grd, ok.sysm, ok.un⟩
theorem passC0 {σ : L2.St} {E : XK} : PassesAt CX0 X σ E := fun _ _ _ _ _ _ z => z.elim
theorem ent_pinsL {H F : Hp} {fp : List Addr} {io : Option Nat} {vs : List V} {l : List Nat} (h : ∀ j ∈ l, io ≠ some j) : ∀ p ∈ (entS H F fp io vs).pin, p.1 ∉ l := fun p hp hm => ent_pins (h p.1 hm) p hp rfl
theorem gsAll2 {i j : Nat} : ∀ vs σ H Q, vs.length = 2 → Q (setAll [i, j] vs σ) H → gCons (gName i) (gCons (gName j) gNil) vs σ H Q := by
  intro vs σ H Q hl q
  match vs, hl with
  | [u, v], _ => exact ⟨u, [v], rfl, v, [], rfl, rfl, q⟩
theorem gsAll3 {i j k : Nat} : ∀ vs σ H Q, vs.length = 3 → Q (setAll [i, j, k] vs σ) H → gCons (gName i) (gCons (gName j) (gCons (gName k) gNil)) vs σ H Q := by
  intro vs σ H Q hl q
  match vs, hl with
  | [u, v, w], _ => exact ⟨u, [v, w], rfl, v, [w], rfl, w, [], rfl, rfl, q⟩
theorem gsAll4 {i j k l : Nat} : ∀ vs σ H Q, vs.length = 4 → Q (setAll [i, j, k, l] vs σ) H → gCons (gName i) (gCons (gName j) (gCons (gName k) (gCons (gName l) gNil))) vs σ H Q := by
  intro vs σ H Q hl q
  match vs, hl with
  | [u, v, w, x], _ => exact ⟨u, [v, w, x], rfl, v, [w, x], rfl, w, [x], rfl, x, [], rfl, rfl, q⟩
def is_int (d : PyData) : Bool := match d with
  | .int _ => true
  | .bool _ => true
  | _ => false
def is_bool (d : PyData) : Bool := match d with
  | .bool _ => true
  | _ => false
def is_str (d : PyData) : Bool := match d with
  | .str _ => true
  | _ => false
def is_tuple (d : PyData) : Bool := match d with
  | .tuple _ => true
  | _ => false
def is_list (d : PyData) : Bool := match d with
  | .list _ => true
  | _ => false
theorem ty_int : isTy "int" is_int := isTy_int
theorem ty_bool : isTy "bool" is_bool := isTy_bool
theorem ty_str : isTy "str" is_str := isTy_str
theorem ty_tuple : isTy "tuple" is_tuple := isTy_tuple
theorem ty_list : isTy "list" is_list := isTy_list
def gAddI : PyData → PyData → Option OD
  | .int i, .int j => some (.d (.int (i + j)))
  | _, _ => none
theorem os_addI : OSpec X S (rr2 (rI0 fun i j => .int (i + j))) (sh2 gAddI) := os_sh2 fun F σ H env hs ho x y d e o Q R h1 h2 hf k => by
  unfold gAddI at hf
  split at hf
  · cases hf
    rw [h1.int, h2.int]
    exact ⟨_, _, rfl, rfl, fin_d R k (.int _ .nil)⟩
  · cases hf
def gMulI : PyData → PyData → Option OD
  | .int i, .int j => if i.natAbs < 2 ^ 64 ∨ j.natAbs < 2 ^ 64 then some (.d (.int (i * j))) else none
  | _, _ => none
theorem os_mulI : OSpec X S (rr2 (rI CMul fun i j => .int (i * j))) (sh2 gMulI) := os_sh2 fun F σ H env hs ho x y d e o Q R h1 h2 hf k => by
  unfold gMulI at hf
  split at hf
  · split at hf
    · rename_i hz
      cases hf
      rw [h1.int, h2.int]
      refine ⟨_, _, rfl, rfl, ?_, fin_d R k (.int _ .nil)⟩
      unfold CMul
      omega
    · cases hf
  · cases hf
theorem ok1_of {P : Program} {w : World} {K : PySem.W.Frag} {mg : Str → Option Value} {base : Heap} {N : List Str} {qual : Str} {st : Stmt} {f : Addr} {cd : Value} {A : Around} {outer : List Env} {s : Shared} {H : Hp} {E : XK} {k : Nat}
    (hN : N.Nodup) (hg : A.guards = some []) (hr : Room k (A.deeper (envOfC qual (defScope st) s.heap.objs.size f cd))) (hs : ∃ o, base.get? sysModules = some o) : Ok1 (DCx P w K mg base N qual st f cd A outer s H E) :=
  ⟨rfl, hN, hg, hs, by have := hr.un; show (A.deeper _).units + 100 < _; omega⟩
theorem de_globIe {x : Str} {i : Int} {pos : Pos} (hm : ∃ t, X.mg x = some (.int i t)) (hg : Gl X x := by rfl) (hd : (x == ("__debug__" : Str)) = false := by decide) : DE X S W (.Name x pos) (mC (.int i)) :=
  let ⟨_, h⟩ := hm
  de_globI h hg hd
theorem de_globSe {x y : Str} {pos : Pos} (hm : ∃ t, X.mg x = some (.str y t)) (hg : Gl X x := by rfl) (hy : y.length ≤ sizeLine := by decide) (hd : (x == ("__debug__" : Str)) = false := by decide) : DE X S W (.Name x pos) (mC (.str y)) :=
  let ⟨_, h⟩ := hm
  de_globS h hg hy hd
end
end DL

set_option Elab.async false
set_option linter.all false
set_option autoImplicit false
set_option maxRecDepth 100000
/-! The evaluator's laws, for plain proofs. -/
namespace DL
open PySem PySem.Spec PyProof.Rows L2
section
variable {α β : Type} {e : DEnv} {Q : α → DEnv → Prop} {Qx : Xn → DEnv → Prop}
theorem w_bind {m : M β} {f : β → M α} : Mwp (M.bind m f e) Q Qx ↔ Mwp (m e) (fun a e' => Mwp (f a e') Q Qx) Qx := by
  unfold M.bind
  cases m e with
  | none => exact Iff.rfl
  | some r =>
    obtain ⟨r, e'⟩ := r
    cases r <;> exact Iff.rfl
theorem w_ret {a : α} : Mwp (M.ret a e) Q Qx ↔ Q a e := Iff.rfl
theorem w_ok {a : α} : Mwp (some (.ok a, e)) Q Qx ↔ Q a e := Iff.rfl
theorem w_ex {x : Xn} : Mwp (some (.ex x, e) : Option (Rs α × DEnv)) Q Qx ↔ Qx x e := Iff.rfl
theorem w_none : Mwp (none : Option (Rs α × DEnv)) Q Qx ↔ False := Iff.rfl
theorem mwp_congr {r : Option (Rs α × DEnv)} {Q' : α → DEnv → Prop} (h : ∀ a e, Q a e ↔ Q' a e) : Mwp r Q Qx ↔ Mwp r Q' Qx :=
  ⟨fun z => z.imp (fun a e _ q => (h a e).mp q) fun _ _ _ q => q, fun z => z.imp (fun a e _ q => (h a e).mpr q) fun _ _ _ q => q⟩
theorem w_noX {m : M α} : Mwp (M.noX m e) Q Qx ↔ Mwp (m e) Q (fun _ _ => False) := by
  unfold M.noX
  cases m e with
  | none => exact Iff.rfl
  | some r =>
    obtain ⟨r, e'⟩ := r
    cases r <;> exact Iff.rfl
end
section
variable {e : DEnv} {Qx : Xn → DEnv → Prop}
theorem w_seq {m n : M Fl} {Q : Fl → DEnv → Prop} : Mwp (mSeq m n e) Q Qx ↔ Mwp (m e) (fun fl e' => match fl with
    | .nx => Mwp (n e') Q Qx
    | f => Q f e') Qx := by
  unfold mSeq
  rw [w_bind]
  refine mwp_congr fun fl e' => ?_
  cases fl <;> exact Iff.rfl
theorem w_if {t : M Bool} {m n : M Fl} {Q : Fl → DEnv → Prop} : Mwp (mIf t m n e) Q Qx ↔ Mwp (t e) (fun k e' => if k = true then Mwp (m e') Q Qx else Mwp (n e') Q Qx) Qx := by
  unfold mIf
  rw [w_bind]
  refine mwp_congr fun k e' => ?_
  cases k <;> exact Iff.rfl
theorem w_ifE {t : M Bool} {m n : M OD} {Q : OD → DEnv → Prop} : Mwp (mIfE t m n e) Q Qx ↔ Mwp (t e) (fun k e' => if k = true then Mwp (m e') Q Qx else Mwp (n e') Q Qx) Qx := by
  unfold mIfE
  rw [w_bind]
  refine mwp_congr fun k e' => ?_
  cases k <;> exact Iff.rfl
theorem w_test {m : M OD} {Q : Bool → DEnv → Prop} : Mwp (mTest m e) Q Qx ↔ Mwp (m e) (fun o e' => ∃ b, boolOf o = some b ∧ Q b e') Qx := by
  unfold mTest
  rw [w_bind]
  refine mwp_congr fun o e' => ?_
  unfold M.of
  cases boolOf o with
  | none => simp [Mwp]
  | some b => simp [Mwp]
theorem w_and {m n : M Bool} {Q : Bool → DEnv → Prop} : Mwp (mAnd m n e) Q Qx ↔ Mwp (m e) (fun k e' => if k = true then Mwp (n e') Q Qx else Q false e') Qx := by
  unfold mAnd
  rw [w_bind]
  refine mwp_congr fun k e' => ?_
  cases k <;> exact Iff.rfl
theorem w_or {m n : M Bool} {Q : Bool → DEnv → Prop} : Mwp (mOr m n e) Q Qx ↔ Mwp (m e) (fun k e' => if k = true then Q true e' else Mwp (n e') Q Qx) Qx := by
  unfold mOr
  rw [w_bind]
  refine mwp_congr fun k e' => ?_
  cases k <;> exact Iff.rfl
theorem w_not {m : M Bool} {Q : Bool → DEnv → Prop} : Mwp (mNot m e) Q Qx ↔ Mwp (m e) (fun k e' => Q (!k) e') Qx := by
  unfold mNot
  rw [w_bind]
  exact Iff.rfl
theorem w_andV {m n : M OD} {Q : OD → DEnv → Prop} : Mwp (mAndV m n e) Q Qx ↔ Mwp (m e) (fun o e' => ∃ b, boolOf o = some b ∧ if b = true then Mwp (n e') Q Qx else Q (.d (.bool false)) e') Qx := by
  unfold mAndV
  rw [w_bind, w_test]
  refine mwp_congr fun o e' => ?_
  refine (exists_congr fun b => and_congr_right fun _ => ?_)
  cases b <;> exact Iff.rfl
theorem w_orV {m n : M OD} {Q : OD → DEnv → Prop} : Mwp (mOrV m n e) Q Qx ↔ Mwp (m e) (fun o e' => ∃ b, boolOf o = some b ∧ if b = true then Q (.d (.bool true)) e' else Mwp (n e') Q Qx) Qx := by
  unfold mOrV
  rw [w_bind, w_test]
  refine mwp_congr fun o e' => ?_
  refine (exists_congr fun b => and_congr_right fun _ => ?_)
  cases b <;> exact Iff.rfl
theorem w_notV {m : M OD} {Q : OD → DEnv → Prop} : Mwp (mNotV m e) Q Qx ↔ Mwp (m e) (fun o e' => ∃ b, boolOf o = some b ∧ Q (.d (.bool (!b))) e') Qx := by
  unfold mNotV
  rw [w_bind, w_test]
  exact Iff.rfl
theorem w_do {m : M OD} {Q : Fl → DEnv → Prop} : Mwp (mDo m e) Q Qx ↔ Mwp (m e) (fun _ e' => Q .nx e') Qx := by
  unfold mDo
  rw [w_bind]
  exact Iff.rfl
theorem w_rt {m : M OD} {Q : Fl → DEnv → Prop} : Mwp (mRet m e) Q Qx ↔ Mwp (m e) (fun o e' => Q (.rt o) e') Qx := by
  unfold mRet
  rw [w_bind]
  exact Iff.rfl
theorem w_asg {m : M OD} {a : OD → DEnv → Option DEnv} {Q : Fl → DEnv → Prop} : Mwp (mAsg m a e) Q Qx ↔ Mwp (m e) (fun o e' => ∃ e2, a o e' = some e2 ∧ Q .nx e2) Qx := by
  unfold mAsg
  rw [w_bind]
  refine mwp_congr fun o e' => ?_
  cases a o e' <;> simp [Mwp]
theorem w_C {x : PyData} {Q : OD → DEnv → Prop} : Mwp (mC x e) Q Qx ↔ Q (.d x) e := Iff.rfl
theorem w_var {i : Nat} {Q : OD → DEnv → Prop} : Mwp (mVar i e) Q Qx ↔ ∃ o, e[i]? = some (some o) ∧ o.noS = true ∧ Q (.d o.erase) (e.set i (some (.d o.erase))) := by
  unfold mVar
  cases h : e[i]? with
  | none => simp [Mwp]
  | some oo =>
    cases oo with
    | none => simp [Mwp]
    | some o =>
      cases h2 : o.noS <;> simp [Mwp, h2]
theorem w_args0 {Q : List HE → DEnv → Prop} : Mwp (args [] e) Q Qx ↔ Q [] e := Iff.rfl
theorem w_args1 {q : Opd} {qs : List Opd} {Q : List HE → DEnv → Prop} : Mwp (args (q :: qs) e) Q Qx ↔ Mwp (q.go e) (fun h e1 => Mwp (args qs e1) (fun hs e2 => Q (h :: hs) e2) Qx) Qx := by
  show Mwp (M.bind q.go _ e) Q Qx ↔ _
  rw [w_bind]
  refine mwp_congr fun h e1 => ?_
  exact w_bind
theorem w_plc {i : Nat} {Q : HE → DEnv → Prop} : Mwp (Opd.go (.plc i) e) Q Qx ↔ ∃ o, e[i]? = some (some o) ∧ Q (.al i) e := by
  simp only [Opd.go]
  cases h : e[i]? with
  | none => simp [Mwp]
  | some oo => cases oo <;> simp [Mwp]
theorem w_own {m : M OD} {Q : HE → DEnv → Prop} : Mwp (Opd.go (.own m) e) Q Qx ↔ Mwp (m e) (fun o e' => Q (.o o) e') Qx := by
  show Mwp (M.bind m _ e) Q Qx ↔ _
  rw [w_bind]
  exact Iff.rfl
theorem w_val {m : M OD} {Q : HE → DEnv → Prop} : Mwp (Opd.go (.val m) e) Q Qx ↔ Mwp (m e) (fun o e' => o.noS = true ∧ Q (.o (.d o.erase)) e') Qx := by
  show Mwp (M.bind m _ e) Q Qx ↔ _
  rw [w_bind]
  refine mwp_congr fun o e' => ?_
  cases h : o.noS <;> simp [Mwp, M.ret]
theorem w_prim {g : List OD → Option OD} {qs : List Opd} {Q : OD → DEnv → Prop} : Mwp (prim g qs e) Q Qx ↔ Mwp (args qs e) (fun hes e' => ∃ os, rds e' hes = some os ∧ ∃ o, g os = some o ∧ Q o e') Qx := by
  unfold prim
  rw [w_bind]
  refine mwp_congr fun hes e' => ?_
  cases rds e' hes with
  | none => simp [Mwp]
  | some os => cases h : g os <;> simp [Mwp, h]
theorem w_list {qs : List Opd} {Q : OD → DEnv → Prop} : Mwp (mList qs e) Q Qx ↔ Mwp (args qs e) (fun hes e' => ∃ os, allO hes = some os ∧ os.length ≤ sizeLine ∧ Q (.l os) e') Qx := by
  unfold mList
  rw [w_bind]
  refine mwp_congr fun hes e' => ?_
  cases allO hes with
  | none => simp [Mwp]
  | some os => by_cases h : os.length ≤ sizeLine <;> simp [Mwp, h]
theorem w_tup {qs : List Opd} {Q : OD → DEnv → Prop} : Mwp (mTup qs e) Q Qx ↔ Mwp (args qs e) (fun hes e' => ∃ ds, allD hes = some ds ∧ ds.length ≤ sizeLine ∧ Q (.d (.tuple ds)) e') Qx := by
  unfold mTup
  rw [w_bind]
  refine mwp_congr fun hes e' => ?_
  cases allD hes with
  | none => simp [Mwp]
  | some os => by_cases h : os.length ≤ sizeLine <;> simp [Mwp, h]
theorem w_call {fs : FSem} {qs : List Opd} {Q : OD → DEnv → Prop} : Mwp (mCall fs qs e) Q Qx ↔ Mwp (args qs e) (fun hes e' => ∃ os, rds e' hes = some os ∧ allStill os = true ∧ FWp (fs os) (fun o l => l = [] ∧ Q o e') (fun x l => l = [] ∧ Qx x e')) Qx := by
  unfold mCall
  rw [w_bind]
  refine mwp_congr fun hes e' => ?_
  cases rds e' hes with
  | none => simp [Mwp]
  | some os =>
    cases h : allStill os with
    | false => simp [Mwp, h]
    | true =>
      cases h2 : fs os with
      | none => simp [Mwp, FWp, h, h2]
      | some p =>
        obtain ⟨r, l⟩ := p
        cases l with
        | nil => cases r <;> simp [Mwp, FWp, h, h2]
        | cons a b => cases r <;> simp [Mwp, FWp, h, h2]
theorem w_callIo {j : Nat} {fs : FSem} {qs : List Opd} {Q : OD → DEnv → Prop} : Mwp (mCallIo j fs qs e) Q Qx ↔ Mwp (args qs e) (fun hes e' => ∃ os, rds e' hes = some os ∧ ∃ i, hes[j]? = some (.al i) ∧ allStill (os.eraseIdx j) = true ∧
    FWp (fs os) (fun o l => ∃ o', l = [o'] ∧ Q o (e'.set i (some o'))) (fun x l => ∃ o', l = [o'] ∧ Qx x (e'.set i (some o')))) Qx := by
  unfold mCallIo
  rw [w_bind]
  refine mwp_congr fun hes e' => ?_
  cases rds e' hes with
  | none => simp [Mwp]
  | some os =>
    cases h0 : hes[j]? with
    | none => simp [Mwp]
    | some he =>
      cases he with
      | o x => simp [Mwp]
      | al i =>
        cases h : allStill (os.eraseIdx j) with
        | false => simp [Mwp, h]
        | true =>
          cases h2 : fs os with
          | none => simp [Mwp, FWp, h, h2]
          | some p =>
            obtain ⟨r, l⟩ := p
            match l with
            | [] => cases r <;> simp [Mwp, FWp, h, h2]
            | [o'] => cases r <;> simp [Mwp, FWp, h, h2]
            | _ :: _ :: _ => cases r <;> simp [Mwp, FWp, h, h2]
theorem w_callK {perm : List Nat} {fs : FSem} {qs : List Opd} {Q : OD → DEnv → Prop} : Mwp (mCallK perm fs qs e) Q Qx ↔ Mwp (args qs e) (fun hes e' => ∃ os, rds e' hes = some os ∧ allStill os = true ∧ FWp (fs (perm.filterMap fun j => os[j]?)) (fun o l => l = [] ∧ Q o e') (fun x l => l = [] ∧ Qx x e')) Qx := by
  unfold mCallK
  rw [w_bind]
  refine mwp_congr fun hes e' => ?_
  cases rds e' hes with
  | none => simp [Mwp]
  | some os =>
    cases h : allStill os with
    | false => simp [Mwp, h]
    | true =>
      cases h2 : fs (perm.filterMap fun j => os[j]?) with
      | none => simp [Mwp, FWp, h, h2]
      | some p =>
        obtain ⟨r, l⟩ := p
        cases l with
        | nil => cases r <;> simp [Mwp, FWp, h, h2]
        | cons a b => cases r <;> simp [Mwp, FWp, h, h2]
theorem w_chain {g g' : List OD → Option OD} {qa qb qc : Opd} {Q : OD → DEnv → Prop} : Mwp (mChain g g' qa qb qc e) Q Qx ↔ Mwp (args [qa, qb] e) (fun hes e' => ∃ os, rds e' hes = some os ∧ ∃ b, g os = some (.d (.bool b)) ∧
    if b = true then Mwp (qc.go e') (fun hc e2 => ∃ us, rds e2 (hes ++ [hc]) = some us ∧ ∃ o, g' (us.drop 1) = some o ∧ Q o e2) Qx else Q (.d (.bool false)) e') Qx := by
  unfold mChain
  rw [w_bind]
  refine mwp_congr fun hes e' => ?_
  cases rds e' hes with
  | none => simp [Mwp]
  | some os =>
    cases h : g os with
    | none => simp [Mwp, h]
    | some o =>
      cases o with
      | d d =>
        cases d with
        | bool b =>
          cases b with
          | false => simp [Mwp, h]
          | true =>
            simp only [h]
            rw [w_bind]
            refine (mwp_congr (Q' := fun hc e2 => ∃ us, rds e2 (hes ++ [hc]) = some us ∧ ∃ o, g' (us.drop 1) = some o ∧ Q o e2) fun hc e2 => ?_).trans (by simp [h])
            cases rds e2 (hes ++ [hc]) with
            | none => simp [Mwp]
            | some us =>
              simp only [Option.some.injEq, exists_eq_left']
              generalize us.drop 1 = z
              cases h3 : g' z <;> simp [Mwp, h3]
        | _ => simp [Mwp, h]
      | _ => simp [Mwp, h]

/-! ### loops -/
theorem w_for {mi : M (List PyData)} {a : OD → DEnv → Option DEnv} {mb : M Fl} {Q : Fl → DEnv → Prop} : Mwp (mFor mi a mb e) Q Qx ↔ Mwp (mi e) (fun ds e' => Mwp (mEach a mb ds e') Q Qx) Qx := by
  unfold mFor
  rw [w_bind]
theorem w_each0 {a : OD → DEnv → Option DEnv} {mb : M Fl} {Q : Fl → DEnv → Prop} : Mwp (mEach a mb [] e) Q Qx ↔ Q .nx e := Iff.rfl
theorem w_each1 {a : OD → DEnv → Option DEnv} {mb : M Fl} {d : PyData} {ds : List PyData} {Q : Fl → DEnv → Prop} : Mwp (mEach a mb (d :: ds) e) Q Qx ↔ ∃ e1, a (.d d) e = some e1 ∧ Mwp (mb e1) (fun fl e2 => match fl with
    | .nx => Mwp (mEach a mb ds e2) Q Qx
    | .ct => Mwp (mEach a mb ds e2) Q Qx
    | .bk => Q .nx e2
    | .rt o => Q (.rt o) e2) Qx := by
  show Mwp (match a (.d d) e with
    | some e' => mFlow mb (mEach a mb ds) e'
    | none => none) Q Qx ↔ _
  cases h : a (.d d) e with
  | none => simp [Mwp]
  | some e1 =>
    simp only [Option.some.injEq, exists_eq_left']
    unfold mFlow
    rw [w_bind]
    refine mwp_congr fun fl e2 => ?_
    cases fl <;> exact Iff.rfl
/-- a loop by its invariant -/
theorem each_by {a : OD → DEnv → Option DEnv} {mb : M Fl} {Q : Fl → DEnv → Prop} (I : Nat → DEnv → Prop) : ∀ {ds : List PyData} (k : Nat) {e : DEnv}, I k e →
    (∀ j d e, ds[j]? = some d → I (k + j) e → ∃ e1, a (.d d) e = some e1 ∧ Mwp (mb e1) (fun fl e2 => match fl with
      | .nx => I (k + j + 1) e2
      | .ct => I (k + j + 1) e2
      | .bk => Q .nx e2
      | .rt o => Q (.rt o) e2) Qx) → (∀ e, I (k + ds.length) e → Q .nx e) → Mwp (mEach a mb ds e) Q Qx
  | [], k, e, h, _, q => w_each0.mpr (q e h)
  | d :: ds, k, e, h, s, q => by
    rw [w_each1]
    obtain ⟨e1, h1, h2⟩ := s 0 d e (by simp) h
    refine ⟨e1, h1, h2.imp (fun fl e2 _ z => ?_) fun _ _ _ z => z⟩
    cases fl with
    | nx => exact each_by I (k + 1) z (fun j d e hj hI => by
        have := s (j + 1) d e (by simpa using hj) (by rw [show k + (j + 1) = k + 1 + j by omega]; exact hI)
        rw [show k + (j + 1) + 1 = k + 1 + j + 1 by omega] at this
        exact this) fun e hI => q e (by rw [List.length_cons, show k + (ds.length + 1) = k + 1 + ds.length by omega]; exact hI)
    | ct => exact each_by I (k + 1) z (fun j d e hj hI => by
        have := s (j + 1) d e (by simpa using hj) (by rw [show k + (j + 1) = k + 1 + j by omega]; exact hI)
        rw [show k + (j + 1) + 1 = k + 1 + j + 1 by omega] at this
        exact this) fun e hI => q e (by rw [List.length_cons, show k + (ds.length + 1) = k + 1 + ds.length by omega]; exact hI)
    | bk => exact z
    | rt o => exact z
theorem w_items {q : Opd} {Q : List PyData → DEnv → Prop} : Mwp (mItems q e) Q Qx ↔ Mwp (q.go e) (fun he e' => ∃ o, he.rd e' = some o ∧ ∃ ds, itemsOf o = some ds ∧ Q ds e') Qx := by
  unfold mItems
  rw [w_bind]
  refine mwp_congr fun he e' => ?_
  cases he.rd e' with
  | none => simp [Mwp]
  | some o => cases h : itemsOf o <;> simp [Mwp, h]
theorem w_rng {f : List OD → Option (List PyData)} {qs : List Opd} {Q : List PyData → DEnv → Prop} : Mwp (mRng f qs e) Q Qx ↔ Mwp (args qs e) (fun hes e' => ∃ os, rds e' hes = some os ∧ ∃ ds, f os = some ds ∧ Q ds e') Qx := by
  unfold mRng
  rw [w_bind]
  refine mwp_congr fun hes e' => ?_
  cases rds e' hes with
  | none => simp [Mwp]
  | some os => cases h : f os <;> simp [Mwp, h]
theorem w_lc {mi : M (List PyData)} {a : OD → DEnv → Option DEnv} {mt : M Bool} {me : M OD} {vs : List Nat} {Q : OD → DEnv → Prop} : Mwp (mLc mi a mt me vs e) Q Qx ↔ Mwp (mi e) (fun ds e' => ds.length ≤ sizeLine ∧ Mwp (mMap vs a mt me ds [] e') (fun os e2 => Q (.l os) (wipeE e2 vs)) Qx) Qx := by
  unfold mLc
  rw [w_bind]
  refine mwp_congr fun ds e' => ?_
  by_cases h : ds.length ≤ sizeLine
  · simp only [h, if_true, true_and]
    rw [w_bind]
    exact Iff.rfl
  · simp [h, Mwp, mStuck]
theorem w_map0 {a : OD → DEnv → Option DEnv} {mt : M Bool} {me : M OD} {vs : List Nat} {acc : List OD} {Q : List OD → DEnv → Prop} : Mwp (mMap vs a mt me [] acc e) Q Qx ↔ Q acc e := Iff.rfl
theorem w_map1 {a : OD → DEnv → Option DEnv} {mt : M Bool} {me : M OD} {vs : List Nat} {d : PyData} {ds : List PyData} {acc : List OD} {Q : List OD → DEnv → Prop} : Mwp (mMap vs a mt me (d :: ds) acc e) Q Qx ↔ ∃ e1, a (.d d) (wipeE e vs) = some e1 ∧
    Mwp (mt e1) (fun k e2 => if k = true then Mwp (me e2) (fun o e3 => Mwp (mMap vs a mt me ds (acc ++ [o]) e3) Q Qx) (fun _ _ => False) else Mwp (mMap vs a mt me ds acc e2) Q Qx) (fun _ _ => False) := by
  show Mwp (match a (.d d) (wipeE e vs) with
    | some e' => M.bind (M.noX mt) (fun k => if k then M.bind (M.noX me) (fun o => mMap vs a mt me ds (acc ++ [o])) else mMap vs a mt me ds acc) e'
    | none => none) Q Qx ↔ _
  cases h : a (.d d) (wipeE e vs) with
  | none => simp [Mwp]
  | some e1 =>
    simp only [Option.some.injEq, exists_eq_left']
    rw [w_bind, w_noX]
    refine mwp_congr fun k e2 => ?_
    cases k with
    | false => exact Iff.rfl
    | true =>
      skip
      show Mwp (M.bind (M.noX me) (fun o => mMap vs a mt me ds (acc ++ [o])) e2) Q Qx ↔ _
      rw [w_bind, w_noX]
      exact Iff.rfl
/-- a comprehension by its invariant -/
theorem map_by {a : OD → DEnv → Option DEnv} {me : M OD} {vs : List Nat} {Q : List OD → DEnv → Prop} (I : Nat → List OD → DEnv → Prop) : ∀ {ds : List PyData} (k : Nat) {acc : List OD} {e : DEnv}, I k acc e →
    (∀ (j : Nat) d acc e, ds[j]? = some d → I (k + j) acc e → ∃ e1, a (.d d) (wipeE e vs) = some e1 ∧ Mwp (me e1) (fun o e2 => I (k + j + 1) (acc ++ [o]) e2) (fun _ _ => False)) →
    (∀ acc e, I (k + ds.length) acc e → Q acc e) → Mwp (mMap vs a mYes me ds acc e) Q Qx
  | [], k, acc, e, h, _, q => w_map0.mpr (q acc e h)
  | d :: ds, k, acc, e, h, s, q => by
    rw [w_map1]
    obtain ⟨e1, h1, h2⟩ := s 0 d acc e (by simp) h
    refine ⟨e1, h1, ?_⟩
    show Mwp (me e1) _ _
    refine h2.imp (fun o e2 _ z => ?_) fun _ _ _ z => z
    exact map_by I (k + 1) z (fun j d acc e hj hI => by
      have := s (j + 1) d acc e (by simpa using hj) (by rw [show k + (j + 1) = k + 1 + j by omega]; exact hI)
      rw [show k + (j + 1) + 1 = k + 1 + j + 1 by omega] at this
      exact this) fun acc e hI => q acc e (by rw [List.length_cons, show k + (ds.length + 1) = k + 1 + ds.length by omega]; exact hI)

/-! ### own lists -/
theorem w_meth1 {i : Nat} {q : Opd} {f : List OD → HE → DEnv → Option (OD × List OD)} {Q : OD → DEnv → Prop} : Mwp (mMeth1 i q f e) Q Qx ↔ isL e i = true ∧ Mwp (q.go e) (fun he e' => ∃ ps, e'[i]? = some (some (.l ps)) ∧ ∃ r ps', f ps he e' = some (r, ps') ∧ Q r (e'.set i (some (.l ps')))) Qx := by
  unfold mMeth1
  cases h : isL e i with
  | false => simp [Mwp]
  | true =>
    simp only [if_true, true_and]
    rw [w_bind]
    refine mwp_congr fun he e' => ?_
    cases h1 : e'[i]? with
    | none => simp [Mwp]
    | some oo =>
      cases oo with
      | none => simp [Mwp]
      | some o =>
        cases o with
        | l ps =>
          cases h2 : f ps he e' with
          | none => simp [Mwp, h2]
          | some p =>
            obtain ⟨p1, p2⟩ := p
            simp only [h2, Option.some.injEq, OD.l.injEq, exists_eq_left', Prod.mk.injEq]
            exact ⟨fun z => ⟨p1, p2, ⟨rfl, rfl⟩, z⟩, fun ⟨_, _, ⟨z1, z2⟩, z⟩ => by subst z1; subst z2; exact z⟩
        | _ => simp [Mwp]
theorem w_setL {i : Nat} {qv qi : Opd} {Q : Fl → DEnv → Prop} : Mwp (mSetL i qv qi e) Q Qx ↔ isL e i = true ∧ Mwp (args [qv, qi] e) (fun hes e' => ∃ x hi, hes = [.o x, hi] ∧ ∃ k, intAt hi e' = some k ∧ ∃ ps, e'[i]? = some (some (.l ps)) ∧ ∃ j, ixN ps.length k = some j ∧ Q .nx (e'.set i (some (.l (ps.set j x))))) Qx := by
  unfold mSetL
  cases h : isL e i with
  | false => simp [Mwp]
  | true =>
    simp only [if_true, true_and]
    rw [w_bind]
    have : ∀ (hes : List HE) (e' : DEnv), Mwp (match hes with
      | [.o x, hi] => match intAt hi e', e'[i]? with
        | some k, some (some (.l ps)) => match ixN ps.length k with
          | some j => some (Rs.ok Fl.nx, e'.set i (some (.l (ps.set j x))))
          | none => none
        | _, _ => none
      | _ => none) Q Qx ↔ ∃ x hi, hes = [.o x, hi] ∧ ∃ k, intAt hi e' = some k ∧ ∃ ps, e'[i]? = some (some (.l ps)) ∧ ∃ j, ixN ps.length k = some j ∧ Q .nx (e'.set i (some (.l (ps.set j x)))) := by
      intro hes e'
      match hes with
      | [] => simp [Mwp]
      | [_] => simp [Mwp]
      | [.al _, _] => simp [Mwp]
      | _ :: _ :: _ :: _ => simp [Mwp]
      | [.o x, hi] =>
        cases h1 : intAt hi e' with
        | none => simp [Mwp, h1]
        | some k =>
          cases h2 : e'[i]? with
          | none => simp [Mwp, h1, h2]
          | some oo =>
            cases oo with
            | none => simp [Mwp, h1, h2]
            | some o =>
              cases o with
              | l ps =>
                cases h3 : ixN ps.length k with
                | none => simp [Mwp, h1, h2, h3]
                | some j =>
                  constructor
                  · intro z
                    exact ⟨x, hi, rfl, k, h1, ps, rfl, j, h3, by simpa [Mwp, h1, h2, h3] using z⟩
                  · rintro ⟨x2, hi2, z1, k2, z2, ps2, z3, j2, z4, z5⟩
                    cases z1
                    rw [h1] at z2
                    cases z2
                    cases z3
                    rw [h3] at z4
                    cases z4
                    simpa [Mwp, h1, h2, h3] using z5
              | _ => simp [Mwp, h1, h2]
    constructor
    · intro z
      exact z.imp (fun a e' _ q => (this a e').mp q) fun _ _ _ q => q
    · intro z
      exact z.imp (fun a e' _ q => (this a e').mpr q) fun _ _ _ q => q
theorem w_setL2 {i : Nat} {qv qi : Opd} {Q : Fl → DEnv → Prop} : Mwp (mSetL i qv qi e) Q Qx ↔ isL e i = true ∧ Mwp (qv.go e) (fun hv e1 => Mwp (qi.go e1) (fun hi e2 => ∃ x, hv = .o x ∧ ∃ k, intAt hi e2 = some k ∧ ∃ ps, e2[i]? = some (some (.l ps)) ∧ ∃ j, ixN ps.length k = some j ∧ Q .nx (e2.set i (some (.l (ps.set j x))))) Qx) Qx := by
  rw [w_setL]
  simp only [w_args1, w_args0]
  refine and_congr_right fun _ => mwp_congr fun hv e1 => mwp_congr fun hi e2 => ?_
  constructor
  · rintro ⟨x, hi', h, r⟩
    injection h with h1 h2
    injection h2 with h2 _
    subst h2
    exact ⟨x, h1, r⟩
  · rintro ⟨x, rfl, r⟩
    exact ⟨x, hi, rfl, r⟩
theorem w_stores {is : List Nat} {qs : List Opd} {Q : Fl → DEnv → Prop} : Mwp (mStores is qs e) Q Qx ↔ Mwp (args qs e) (fun hes e' => ∃ os, allO hes = some os ∧ ∃ e2, putAll is os e' = some e2 ∧ Q .nx e2) Qx := by
  unfold mStores
  rw [w_bind]
  refine mwp_congr fun hes e' => ?_
  cases allO hes with
  | none => simp [Mwp]
  | some os => cases h : putAll is os e' <;> simp [Mwp, h]
theorem w_aug {i : Nat} {g : List OD → Option OD} {q : Opd} {Q : Fl → DEnv → Prop} : Mwp (mAug i g q e) Q Qx ↔ ∃ x, e[i]? = some (some (.d x)) ∧ Mwp (q.go e) (fun he e' => ∃ o, he.rd e' = some o ∧ ∃ r, g [.d x, o] = some r ∧ i < e'.length ∧ Q .nx (e'.set i (some r))) Qx := by
  unfold mAug
  cases h : e[i]? with
  | none => simp [Mwp]
  | some oo =>
    cases oo with
    | none => simp [Mwp]
    | some o =>
      cases o with
      | d x =>
        simp only [Option.some.injEq, OD.d.injEq, exists_eq_left']
        rw [w_bind]
        refine mwp_congr fun he e' => ?_
        cases he.rd e' with
        | none => simp [Mwp]
        | some o =>
          cases h2 : g [.d x, o] with
          | none => simp [Mwp, h2]
          | some r => by_cases h3 : i < e'.length <;> simp [Mwp, h2, h3]
      | _ => simp [Mwp]

/-! ### a def's answer -/
theorem fw_sem {io : Option Nat} {n : Nat} {m : M Fl} {os : List OD} {Q : OD → List OD → Prop} {Qx : Xn → List OD → Prop} : FWp (semD io n m os) Q Qx ↔ Mwp (m (startE n os)) (fun fl e => ∃ l, outs io e = some l ∧ match fl with
    | .rt o => Q o l
    | .nx => Q (.d .none) l
    | _ => False) (fun x e => ∃ l, outs io e = some l ∧ Qx x l) := by
  unfold semD
  cases m (startE n os) with
  | none => exact Iff.rfl
  | some p =>
    obtain ⟨p, e⟩ := p
    cases p with
    | ex x => cases h : outs io e <;> simp [Mwp, FWp, h]
    | ok fl => cases fl <;> (cases h : outs io e <;> simp [Mwp, FWp, h])
theorem fw_eq {r : Option (Rs OD × List OD)} {o : OD} {l : List OD} : FWp r (fun a b => a = o ∧ b = l) (fun _ _ => False) ↔ r = some (.ok o, l) := by
  cases r with
  | none => simp [FWp]
  | some p =>
    obtain ⟨p, e⟩ := p
    cases p <;> simp [FWp]
theorem FWp.imp {r : Option (Rs OD × List OD)} {Q Q' : OD → List OD → Prop} {Qx Qx' : Xn → List OD → Prop} (h : FWp r Q Qx) (k : ∀ a b, Q a b → Q' a b) (kx : ∀ a b, Qx a b → Qx' a b) : FWp r Q' Qx' := by
  cases r with
  | none => exact h
  | some p =>
    obtain ⟨p, e⟩ := p
    cases p with
    | ok a => exact k _ _ h
    | ex x => exact kx _ _ h
end
end DL

set_option Elab.async false
set_option linter.all false
set_option autoImplicit false
set_option maxRecDepth 100000
/-! The defs of this law: their evaluators, their bodies (printed by gen.py). -/
namespace LW
open PySem PySem.Spec PyProof.Rows L2 DL
def top (i : Nat) : Stmt := PySem.Challenge.pw_copyover_k32_lists_counted_for_many_fold.main.body.getD i (.Pass ⟨0, 0, 0, 0⟩)
/-- what the top leaves of the names used -/
structure Glb (mg : Str → Option Value) : Prop where
  n_abs : mg "abs" = none
  n_all : mg "all" = none
  n_bool : mg "bool" = none
  n_int : mg "int" = none
  n_isinstance : mg "isinstance" = none
  n_len : mg "len" = none
  n_max : mg "max" = none
  n_min : mg "min" = none
  n_range : mg "range" = none
  n_repr : mg "repr" = none
  n_set : mg "set" = none
  n_sorted : mg "sorted" = none
  n_str : mg "str" = none
  n_tuple : mg "tuple" = none
  c_LETTERS : ∃ t, mg "LETTERS" = some (.str "abcdefghijklmnopqrstuvwxyz" t)
  c_MOST_FOLDERS : ∃ t, mg "MOST_FOLDERS" = some (.int 20 t)
  c_MOST_LETTERS : ∃ t, mg "MOST_LETTERS" = some (.int 8 t)
abbrev s_is_integer : Stmt := top 9
abbrev N_is_integer : List Str := ["value", "low", "high"]
def m_is_integer : M Fl := mSeq (mIf (mOr (mNot (mTest (prim (dp1 (gIsI is_int)) [.plc 0]))) (mTest (prim (dp1 (gIsI is_bool)) [.plc 0]))) (mRet (mC (.bool false))) (mNx))
    (mRet (mAndV (prim (sh2 gLe) [.plc 1, .plc 0]) (mOrV (prim (dp1 (gIsN false)) [.plc 2]) (prim (sh2 gLe) [.plc 0, .plc 2]))))
def f_is_integer : FSem := semD none 3 m_is_integer
abbrev s_is_name : Stmt := top 10
abbrev N_is_name : List Str := ["value", "letter"]
def m_is_name : M Fl := mSeq (mIf (mOr (mNot (mTest (prim (dp1 (gIsI is_str)) [.plc 0]))) (mNot (mTest (mChain (sh2 gLe) (sh2 gLe) (.own (mC (.int 1))) (.own (prim (gLen) [.plc 0])) (.own (mC (.int 8))))))) (mRet (mC (.bool false))) (mNx))
    (mRet (prim (sh1 (gBs fun bs => bs.all id)) [.own (mLc (mItems (.val (mVar 0))) (aName 1) mYes (prim (dp2 (gInB false)) [.plc 1, .own (mC (.str "abcdefghijklmnopqrstuvwxyz"))]) [1])]))
def f_is_name : FSem := semD none 2 m_is_name
abbrev s_are_different_names : Stmt := top 11
abbrev N_are_different_names : List Str := ["value", "name"]
def m_are_different_names : M Fl := mSeq (mIf (mOr (mNot (mTest (prim (dp1 (gIsI is_tuple)) [.plc 0]))) (mNot (mTest (prim (sh1 (gBs fun bs => bs.all id)) [.own (mLc (mItems (.val (mVar 0))) (aName 1) mYes (mCall f_is_name [.val (mVar 1)]) [1])])))) (mRet (mC (.bool false))) (mNx))
    (mRet (prim (dp2 gEq) [.own (prim (sh1 gLenSet) [.plc 0]), .own (prim (gLen) [.plc 0])]))
def f_are_different_names : FSem := semD none 2 m_are_different_names
abbrev s_are_folders : Stmt := top 12
abbrev N_are_folders : List Str := ["value"]
def m_are_folders : M Fl := mRet (mAndV (mCall f_are_different_names [.val (mVar 0)]) (mChain (sh2 gLe) (sh2 gLe) (.own (mC (.int 1))) (.own (prim (gLen) [.plc 0])) (.own (mC (.int 20)))))
def f_are_folders : FSem := semD none 1 m_are_folders
abbrev s_require_folders : Stmt := top 13
abbrev N_require_folders : List Str := ["value"]
def m_require_folders : M Fl := mIf (mNot (mTest (mCall f_are_folders [.val (mVar 0)]))) (mStuck) (mNx)
def f_require_folders : FSem := semD none 1 m_require_folders
abbrev s_is_one_of : Stmt := top 14
abbrev N_is_one_of : List Str := ["names", "value"]
def m_is_one_of : M Fl := mRet (mAndV (mCall f_is_name [.val (mVar 1)]) (prim (dp2 (gInB false)) [.plc 1, .plc 0]))
def f_is_one_of : FSem := semD none 2 m_is_one_of
abbrev s_require_name : Stmt := top 15
abbrev N_require_name : List Str := ["names", "value"]
def m_require_name : M Fl := mIf (mNot (mTest (mCall f_is_one_of [.val (mVar 0), .val (mVar 1)]))) (mStuck) (mNx)
def f_require_name : FSem := semD none 2 m_require_name
abbrev s_arrangements : Stmt := top 17
abbrev N_arrangements : List Str := ["many", "places", "found", "place"]
def m_arrangements : M Fl := mSeq (mAsg (mC (.int 1)) (aName 2))
    (mSeq (mFor (mRng rngA [.plc 1]) (aName 3) (mAug 2 (sh2 gMulI) (.own (prim (sh2 gSub) [.plc 0, .plc 3]))))
    (mRet (mVar 2)))
def f_arrangements : FSem := semD none 4 m_arrangements
abbrev s_endings : Stmt := top 18
abbrev N_endings : List Str := ["others", "places", "is_there"]
def m_endings : M Fl := mSeq (mIf (mTest (mVar 2)) (mRet (mCall f_arrangements [.val (mVar 0), .val (mVar 1)])) (mNx))
    (mRet (mIfE (mTest (prim (sh2 gGt) [.plc 1, .own (mC (.int 0))])) (prim (sh2 gMul) [.plc 1, .own (mCall f_arrangements [.val (mVar 0), .val (prim (sh2 gSub) [.plc 1, .own (mC (.int 1))])])]) (mC (.int 0))))
def f_endings : FSem := semD none 3 m_endings
abbrev s_require_length : Stmt := top 19
abbrev N_require_length : List Str := ["folders", "name", "length"]
def m_require_length : M Fl := mSeq (mDo (mCall f_require_folders [.val (mVar 0)]))
    (mSeq (mDo (mCall f_require_name [.val (mVar 0), .val (mVar 1)]))
    (mIf (mNot (mTest (mCall f_is_integer [.val (mVar 2), .val (mC (.int 1)), .val (prim (gLen) [.plc 0])]))) (mStuck) (mNx)))
def f_require_length : FSem := semD none 3 m_require_length
abbrev s_count_lists : Stmt := top 20
abbrev N_count_lists : List Str := ["folders", "name", "length"]
def m_count_lists : M Fl := mSeq (mDo (mCall f_require_length [.val (mVar 0), .val (mVar 1), .val (mVar 2)]))
    (mRet (mCall f_endings [.val (prim (sh2 gSub) [.own (prim (gLen) [.plc 0]), .own (mC (.int 1))]), .val (mVar 2), .val (mC (.bool false))]))
def f_count_lists : FSem := semD none 3 m_count_lists
abbrev s__law_satchel : Stmt := top 22
abbrev N__law_satchel : List Str := ["script", "k", "cell"]
def m__law_satchel : M Fl := mSeq (mAsg (mIfE (mTest (prim (sh2 gLt) [.plc 1, .own (prim (gLen) [.plc 0])])) (prim gIx [.plc 0, .plc 1]) (mC (.int 0))) (aName 2))
    (mRet (mList [.own (prim (gMax2) [.own (mC (.int 0)), .own (prim (sh2 gSub) [.own (prim (gAbs) [.plc 2]), .own (prim (sh2 gPow) [.own (mC (.int 10)), .own (mC (.int 18))])])]), .own (prim (sh2 gAdd) [.own (prim (sh2 gAdd) [.own (prim (sh2 gMul) [.own (prim (sh2 gMod) [.plc 2, .own (prim (sh2 gAdd) [.own (prim (sh2 gPow) [.own (mC (.int 10)), .own (mC (.int 38))]), .own (mC (.int 133))])]), .own (mC (.int 11))]), .own (prim (sh2 gMul) [.own (mC (.int 7919)), .plc 1])]), .own (mC (.int 3))]), .own (mC (.int 0))]))
def f__law_satchel : FSem := semD none 3 m__law_satchel
abbrev s__law_pluck : Stmt := top 23
abbrev N__law_pluck : List Str := ["satchel", "many", "mixed", "digit"]
def m__law_pluck : M Fl := mSeq (mIf (mTest (prim (sh2 gGt) [.own (prim gIx [.plc 0, .own (mC (.int 0))]), .own (mC (.int 0))])) (mSeq (mAsg (prim (sh2 gMod) [.own (prim gIx [.plc 0, .own (mC (.int 0))]), .plc 1]) (aName 3))
    (mSeq (mSetL 0 (.own (prim (sh2 gFdiv) [.own (prim gIx [.plc 0, .own (mC (.int 0))]), .plc 1])) (.own (mC (.int 0))))
    (mRet (mVar 3)))) (mNx))
    (mSeq (mSetL 0 (.own (prim (sh2 gAdd) [.own (prim gIx [.plc 0, .own (mC (.int 2))]), .own (mC (.int 1))])) (.own (mC (.int 2))))
    (mSeq (mAsg (prim (sh2 gMod) [.own (prim (sh2 gPow) [.own (prim (sh2 gAdd) [.own (prim gIx [.plc 0, .own (mC (.int 1))]), .own (prim (sh2 gMul) [.own (mC (.int 295075147)), .own (prim gIx [.plc 0, .own (mC (.int 2))])])]), .own (mC (.int 3))]), .own (prim (sh2 gAdd) [.own (prim (sh2 gPow) [.own (mC (.int 10)), .own (mC (.int 40))]), .own (mC (.int 121))])]) (aName 2))
    (mSeq (mAsg (prim (sh2 gMod) [.own (prim (sh2 gPow) [.own (prim (sh2 gAdd) [.plc 2, .own (prim (sh2 gMul) [.own (mC (.int 198491317)), .own (prim gIx [.plc 0, .own (mC (.int 2))])])]), .own (mC (.int 3))]), .own (prim (sh2 gAdd) [.own (prim (sh2 gPow) [.own (mC (.int 10)), .own (mC (.int 39))]), .own (mC (.int 3))])]) (aName 2))
    (mRet (prim (sh2 gMod) [.own (prim (sh2 gFdiv) [.plc 2, .own (mC (.int 77773))]), .plc 1])))))
def f__law_pluck : FSem := semD (some 0) 4 m__law_pluck
abbrev s__law_names : Stmt := top 24
abbrev N__law_names : List Str := ["satchel", "many", "head", "style", "some", "turn", "spot", "letter"]
def m__law_names : M Fl := mSeq (mStores [2, 3, 4] [.own (mC (.str "")), .own (mCallIo 0 f__law_pluck [.plc 0, .val (mC (.int 3))]), .own (mList [])])
    (mSeq (mFor (mRng rngA [.own (mCallIo 0 f__law_pluck [.plc 0, .val (mC (.int 7))])]) (aName 5) (mAsg (prim (sh2 gAdd) [.plc 2, .own (prim gIx [.own (mC (.str "abcdefghijklmnopqrstuvwxyz")), .own (mCallIo 0 f__law_pluck [.plc 0, .val (mC (.int 26))])])]) (aName 2)))
    (mSeq (mFor (mRng rngA [.own (mC (.int 20))]) (aName 6) (mSeq (mAsg (prim gIx [.own (mC (.str "abcdefghijklmnopqrst")), .plc 6]) (aName 7))
    (mDo (mMeth1 4 (.own (prim gIx [.own (mList [.own (mVar 7), .own (prim (sh2 gAdd) [.plc 2, .plc 7]), .own (prim (sh2 gMul) [.own (prim gIx [.own (mC (.str "qux")), .own (prim (sh2 gFdiv) [.plc 6, .own (mC (.int 8))])]), .own (prim (sh2 gAdd) [.own (mC (.int 1)), .own (prim (sh2 gMod) [.plc 6, .own (mC (.int 8))])])])]), .plc 3])) fApp))))
    (mRet (mLc (mRng rngA [.plc 1]) (aName 5) mYes (mMeth1 4 (.own (mCallIo 0 f__law_pluck [.plc 0, .val (prim (gLen) [.plc 4])])) fPopAt) [5]))))
def f__law_names : FSem := semD (some 0) 8 m__law_names
abbrev s__law_due : Stmt := top 25
abbrev N__law_due : List Str := ["many", "size", "found", "step"]
def m__law_due : M Fl := mSeq (mAsg (mVar 1) (aName 2))
    (mSeq (mFor (mRng rngA [.own (prim (sh2 gSub) [.plc 1, .own (mC (.int 1))])]) (aName 3) (mAsg (prim (sh2 gMul) [.plc 2, .own (prim (sh2 gSub) [.own (prim (sh2 gSub) [.plc 0, .own (mC (.int 1))]), .plc 3])]) (aName 2)))
    (mRet (mVar 2)))
def f__law_due : FSem := semD none 4 m__law_due
abbrev s_law : Stmt := top 26
abbrev N_law : List Str := ["script", "k", "some", "satchel", "many", "names", "size", "due", "told", "one"]
def m_law : M Fl := mSeq (mFor (mRng rngA [.own (prim (gMax2) [.own (mC (.int 1)), .own (prim (gMin2) [.own (mC (.int 6)), .own (prim (gLen) [.plc 0])])])]) (aName 1) (mSeq (mAsg (mCall f__law_satchel [.plc 0, .val (mVar 1)]) (aName 3))
    (mFor (mItems (.val (mList [.own (prim (sh2 gAdd) [.own (mC (.int 1)), .own (mCallIo 0 f__law_pluck [.plc 3, .val (mC (.int 20))])]), .own (mC (.int 20))]))) (aName 4) (mSeq (mAsg (mCallIo 0 f__law_names [.plc 3, .val (mVar 4)]) (aName 5))
    (mFor (mRng rngB [.own (mC (.int 1)), .own (prim (sh2 gAdd) [.plc 4, .own (mC (.int 1))])]) (aName 6) (mSeq (mAsg (mCall f__law_due [.val (mVar 4), .val (mVar 6)]) (aName 7))
    (mSeq (mAsg (mList [.own (prim gIx [.plc 5, .own (mC (.int 0))]), .own (prim gIx [.plc 5, .own (mCallIo 0 f__law_pluck [.plc 3, .val (mVar 4)])])]) (aName 2))
    (mSeq (mAsg (mLc (mItems (.val (mVar 2))) (aName 9) mYes (mCall f_count_lists [.val (prim (sh1 gTupOf) [.plc 5]), .val (mVar 9), .val (mVar 6)]) [9]) (aName 8))
    (mSeq (mIf (mTest (prim (dp2 gNe) [.own (prim (dp1 gRepr) [.plc 8]), .own (prim (dp1 gRepr) [.own (mList [.own (mVar 7), .own (mVar 7)])])])) (mRet (mC (.bool false))) (mNx))
    (mSeq (mAsg (mCallK [0, 2, 1] f_count_lists [.val (prim (sh1 gTupOf) [.own (prim (sh1 gSorted) [.plc 5])]), .val (mVar 6), .val (prim gIx [.plc 5, .own (prim (sh1 gNeg) [.own (mC (.int 1))])])]) (aName 8))
    (mIf (mTest (prim (dp2 gNe) [.own (prim (dp1 gRepr) [.plc 8]), .own (prim (dp1 gRepr) [.plc 7])])) (mRet (mC (.bool false))) (mNx))))))))))))
    (mSeq (mAsg (prim (sh1 gTupStr) [.own (mC (.str "abcdefghijklmnopqrst"))]) (aName 2))
    (mRet (mAndV (prim (dp2 gEq) [.own (mCall f_count_lists [.val (mVar 2), .val (mC (.str "k")), .val (mC (.int 20))]), .own (mC (.int 2432902008176640000))]) (prim (dp2 gEq) [.own (mCall f_count_lists [.val (mTup [.val (mC (.str "a"))]), .val (mC (.str "a")), .val (mC (.int 1))]), .own (mC (.int 1))]))))
def f_law : FSem := semD none 10 m_law
section
variable {P : Program} {w : World} {K : PySem.W.Frag} {mg : Str → Option Value} {base : Heap}
theorem sc_is_integer : FnScope N_is_integer ["value", "low", "high"] (defScope s_is_integer) := ⟨rfl, rfl, rfl, by decide +kernel, rfl, by decide +kernel, by decide +kernel⟩
theorem b_is_integer (G : Glb mg) {f : Addr} {cd : Value} {A : Around} {outer : List Env} {s : Shared} {H F : Hp} {E : XK} {fp : List Addr} {vs : List V} {W : WX} (hr : Room 0 (A.deeper (envOfC "is_integer" (defScope s_is_integer) s.heap.objs.size f cd))) (ok : Ok1 (DCx P w K mg base N_is_integer "is_integer" s_is_integer f cd A outer s H E)) :
    DB (DCx P w K mg base N_is_integer "is_integer" s_is_integer f cd A outer s H E) (entS H F fp none vs) W (defBody s_is_integer) m_is_integer :=
    (db_cons (ds_if (DW.t (dw_or (dt_not (dt_val (de_isI ty_int (do_plc (i := 0)) G.n_isinstance G.n_int (by rfl) (by rfl)))) (dw_or1 (dt_val (de_isI ty_bool (do_plc (i := 0)) G.n_isinstance G.n_bool (by rfl) (by rfl)))))) (db_one (ds_ret de_bl)) db_nil)
      (db_one (ds_ret (de_and (de_cmp op_leA (os_ord _ _) (do_plc (i := 1)) (do_plc (i := 0))) (de_one (de_or (de_isN (do_plc (i := 2))) (de_one (de_cmp op_leA (os_ord _ _) (do_plc (i := 0)) (do_plc (i := 2))))))))))
theorem g_is_integer (G : Glb mg) (hs : ∃ o, base.get? sysModules = some o) {f : Addr} {kV doc pm cdv ct oc : Value} {an od : Option Addr} {osl : Array (Option Value)}
    (lk : K.lookup f = some ⟨oc, od, .func (PySem.W.fnOf "is_integer" "is_integer" (defArgs s_is_integer) (defBody s_is_integer) (defScope s_is_integer) .none kV doc pm an cdv ct), osl⟩) (hcd : PySem.W.codeIn K cdv "is_integer" = true) :
    FnG P w K mg base CX0 1 f (PySem.W.fnOf "is_integer" "is_integer" (defArgs s_is_integer) (defBody s_is_integer) (defScope s_is_integer) .none kV doc pm an cdv ct) ["value", "low", "high"] (spD K mg 3 none f_is_integer) :=
  cald0 (k := 0) lk hcd sc_is_integer (by decide) fun A outer s H vs E F os fp hg hr _ _ _ _ => b_is_integer G hr (ok1_of sc_is_integer.nd hg hr hs)
theorem sc_is_name : FnScope N_is_name ["value"] (defScope s_is_name) := ⟨rfl, rfl, rfl, by decide +kernel, rfl, by decide +kernel, by decide +kernel⟩
theorem b_is_name (G : Glb mg) {f : Addr} {cd : Value} {A : Around} {outer : List Env} {s : Shared} {H F : Hp} {E : XK} {fp : List Addr} {vs : List V} {W : WX} (hr : Room 0 (A.deeper (envOfC "is_name" (defScope s_is_name) s.heap.objs.size f cd))) (ok : Ok1 (DCx P w K mg base N_is_name "is_name" s_is_name f cd A outer s H E)) :
    DB (DCx P w K mg base N_is_name "is_name" s_is_name f cd A outer s H E) (entS H F fp none vs) W (defBody s_is_name) m_is_name :=
    (db_cons (ds_if (DW.t (dw_or (dt_not (dt_val (de_isI ty_str (do_plc (i := 0)) G.n_isinstance G.n_str (by rfl) (by rfl)))) (dw_or1 (dt_not (dt_chain op_leA op_leA (os_ord _ _) (os_ord _ _) (do_own de_int) (do_own (de_callB call_len os_len (DAs.cons (do_plc (i := 0)) DAs.nil) G.n_len (by rfl))) (do_own (de_globIe G.c_MOST_LETTERS))))))) (db_one (ds_ret de_bl)) db_nil)
      (db_one (ds_ret (de_callB (cr_all ok.calm) os_allB (DAs.cons (do_own (de_lc (own := [("letter", 1)]) ok.calm ok.nd (di_opd (do_val (de_var (i := 0)))) (by rfl) (fun s H C cl fp => (pg_name (i := 1) ok.blk.nd rfl (by first | exact Or.inl rfl | exact Or.inr rfl))) (gs_name (i := 1) (ent_pins (by decide)) (by decide)) (ent_pinsL (by decide)) (fun s H C cl fp => (de_cmp (op_inP ok.blk) (os_in _) (do_plc (i := 1)) (do_own (de_globSe G.c_LETTERS)))))) DAs.nil) G.n_all (by rfl)))))
theorem g_is_name (G : Glb mg) (hs : ∃ o, base.get? sysModules = some o) {f : Addr} {kV doc pm cdv ct oc : Value} {an od : Option Addr} {osl : Array (Option Value)}
    (lk : K.lookup f = some ⟨oc, od, .func (PySem.W.fnOf "is_name" "is_name" (defArgs s_is_name) (defBody s_is_name) (defScope s_is_name) .none kV doc pm an cdv ct), osl⟩) (hcd : PySem.W.codeIn K cdv "is_name" = true) :
    FnG P w K mg base CX0 1 f (PySem.W.fnOf "is_name" "is_name" (defArgs s_is_name) (defBody s_is_name) (defScope s_is_name) .none kV doc pm an cdv ct) ["value"] (spD K mg 1 none f_is_name) :=
  cald0 (k := 0) lk hcd sc_is_name (by decide) fun A outer s H vs E F os fp hg hr _ _ _ _ => b_is_name G hr (ok1_of sc_is_name.nd hg hr hs)
theorem sc_are_different_names : FnScope N_are_different_names ["value"] (defScope s_are_different_names) := ⟨rfl, rfl, rfl, by decide +kernel, rfl, by decide +kernel, by decide +kernel⟩
theorem b_are_different_names (G : Glb mg) (c_is_name : CalD P w K mg base CX0 1 "is_name" ["value"] none f_is_name) {f : Addr} {cd : Value} {A : Around} {outer : List Env} {s : Shared} {H F : Hp} {E : XK} {fp : List Addr} {vs : List V} {W : WX} (hr : Room 1 (A.deeper (envOfC "are_different_names" (defScope s_are_different_names) s.heap.objs.size f cd))) (ok : Ok1 (DCx P w K mg base N_are_different_names "are_different_names" s_are_different_names f cd A outer s H E)) :
    DB (DCx P w K mg base N_are_different_names "are_different_names" s_are_different_names f cd A outer s H E) (entS H F fp none vs) W (defBody s_are_different_names) m_are_different_names :=
    (db_cons (ds_if (DW.t (dw_or (dt_not (dt_val (de_isI ty_tuple (do_plc (i := 0)) G.n_isinstance G.n_tuple (by rfl) (by rfl)))) (dw_or1 (dt_not (dt_val (de_callB (cr_all ok.calm) os_allB (DAs.cons (do_own (de_lc (own := [("name", 1)]) ok.calm ok.nd (di_opd (do_val (de_var (i := 0)))) (by rfl) (fun s H C cl fp => (pg_name (i := 1) ok.blk.nd rfl (by first | exact Or.inl rfl | exact Or.inr rfl))) (gs_name (i := 1) (ent_pins (by decide)) (by decide)) (ent_pinsL (by decide)) (fun s H C cl fp => (de_call c_is_name (hr.mono (by decide)) ok.blk.grd (fun _ => passC0) (DAs.cons (do_val (de_var (i := 1))) DAs.nil) rfl)))) DAs.nil) G.n_all (by rfl))))))) (db_one (ds_ret de_bl)) db_nil)
      (db_one (ds_ret (de_cmp (op_eqP ok) os_eq (do_own (de_lenSet ok.calm (do_plc (i := 0)) G.n_len G.n_set)) (do_own (de_callB call_len os_len (DAs.cons (do_plc (i := 0)) DAs.nil) G.n_len (by rfl)))))))
theorem g_are_different_names (G : Glb mg) (c_is_name : CalD P w K mg base CX0 1 "is_name" ["value"] none f_is_name) (hs : ∃ o, base.get? sysModules = some o) {f : Addr} {kV doc pm cdv ct oc : Value} {an od : Option Addr} {osl : Array (Option Value)}
    (lk : K.lookup f = some ⟨oc, od, .func (PySem.W.fnOf "are_different_names" "are_different_names" (defArgs s_are_different_names) (defBody s_are_different_names) (defScope s_are_different_names) .none kV doc pm an cdv ct), osl⟩) (hcd : PySem.W.codeIn K cdv "are_different_names" = true) :
    FnG P w K mg base CX0 2 f (PySem.W.fnOf "are_different_names" "are_different_names" (defArgs s_are_different_names) (defBody s_are_different_names) (defScope s_are_different_names) .none kV doc pm an cdv ct) ["value"] (spD K mg 1 none f_are_different_names) :=
  cald0 (k := 1) lk hcd sc_are_different_names (by decide) fun A outer s H vs E F os fp hg hr _ _ _ _ => b_are_different_names G c_is_name hr (ok1_of sc_are_different_names.nd hg hr hs)
theorem sc_are_folders : FnScope N_are_folders ["value"] (defScope s_are_folders) := ⟨rfl, rfl, rfl, by decide +kernel, rfl, by decide +kernel, by decide +kernel⟩
theorem b_are_folders (G : Glb mg) (c_are_different_names : CalD P w K mg base CX0 2 "are_different_names" ["value"] none f_are_different_names) {f : Addr} {cd : Value} {A : Around} {outer : List Env} {s : Shared} {H F : Hp} {E : XK} {fp : List Addr} {vs : List V} {W : WX} (hr : Room 2 (A.deeper (envOfC "are_folders" (defScope s_are_folders) s.heap.objs.size f cd))) (ok : Ok1 (DCx P w K mg base N_are_folders "are_folders" s_are_folders f cd A outer s H E)) :
    DB (DCx P w K mg base N_are_folders "are_folders" s_are_folders f cd A outer s H E) (entS H F fp none vs) W (defBody s_are_folders) m_are_folders :=
    (db_one (ds_ret (de_and (de_call c_are_different_names (hr.mono (by decide)) ok.grd (fun _ => passC0) (DAs.cons (do_val (de_var (i := 0))) DAs.nil) rfl) (de_one (de_chain op_leA op_leA (os_ord _ _) (os_ord _ _) (do_own de_int) (do_own (de_callB call_len os_len (DAs.cons (do_plc (i := 0)) DAs.nil) G.n_len (by rfl))) (do_own (de_globIe G.c_MOST_FOLDERS)))))))
theorem g_are_folders (G : Glb mg) (c_are_different_names : CalD P w K mg base CX0 2 "are_different_names" ["value"] none f_are_different_names) (hs : ∃ o, base.get? sysModules = some o) {f : Addr} {kV doc pm cdv ct oc : Value} {an od : Option Addr} {osl : Array (Option Value)}
    (lk : K.lookup f = some ⟨oc, od, .func (PySem.W.fnOf "are_folders" "are_folders" (defArgs s_are_folders) (defBody s_are_folders) (defScope s_are_folders) .none kV doc pm an cdv ct), osl⟩) (hcd : PySem.W.codeIn K cdv "are_folders" = true) :
    FnG P w K mg base CX0 3 f (PySem.W.fnOf "are_folders" "are_folders" (defArgs s_are_folders) (defBody s_are_folders) (defScope s_are_folders) .none kV doc pm an cdv ct) ["value"] (spD K mg 1 none f_are_folders) :=
  cald0 (k := 2) lk hcd sc_are_folders (by decide) fun A outer s H vs E F os fp hg hr _ _ _ _ => b_are_folders G c_are_different_names hr (ok1_of sc_are_folders.nd hg hr hs)
theorem sc_require_folders : FnScope N_require_folders ["value"] (defScope s_require_folders) := ⟨rfl, rfl, rfl, by decide +kernel, rfl, by decide +kernel, by decide +kernel⟩
theorem b_require_folders (G : Glb mg) (c_are_folders : CalD P w K mg base CX0 3 "are_folders" ["value"] none f_are_folders) {f : Addr} {cd : Value} {A : Around} {outer : List Env} {s : Shared} {H F : Hp} {E : XK} {fp : List Addr} {vs : List V} {W : WX} (hr : Room 3 (A.deeper (envOfC "require_folders" (defScope s_require_folders) s.heap.objs.size f cd))) (ok : Ok1 (DCx P w K mg base N_require_folders "require_folders" s_require_folders f cd A outer s H E)) :
    DB (DCx P w K mg base N_require_folders "require_folders" s_require_folders f cd A outer s H E) (entS H F fp none vs) W (defBody s_require_folders) m_require_folders :=
    (db_one (ds_if (dt_not (dt_val (de_call c_are_folders (hr.mono (by decide)) ok.grd (fun _ => passC0) (DAs.cons (do_val (de_var (i := 0))) DAs.nil) rfl))) (db_one ds_stuck) db_nil))
theorem g_require_folders (G : Glb mg) (c_are_folders : CalD P w K mg base CX0 3 "are_folders" ["value"] none f_are_folders) (hs : ∃ o, base.get? sysModules = some o) {f : Addr} {kV doc pm cdv ct oc : Value} {an od : Option Addr} {osl : Array (Option Value)}
    (lk : K.lookup f = some ⟨oc, od, .func (PySem.W.fnOf "require_folders" "require_folders" (defArgs s_require_folders) (defBody s_require_folders) (defScope s_require_folders) .none kV doc pm an cdv ct), osl⟩) (hcd : PySem.W.codeIn K cdv "require_folders" = true) :
    FnG P w K mg base CX0 4 f (PySem.W.fnOf "require_folders" "require_folders" (defArgs s_require_folders) (defBody s_require_folders) (defScope s_require_folders) .none kV doc pm an cdv ct) ["value"] (spD K mg 1 none f_require_folders) :=
  cald0 (k := 3) lk hcd sc_require_folders (by decide) fun A outer s H vs E F os fp hg hr _ _ _ _ => b_require_folders G c_are_folders hr (ok1_of sc_require_folders.nd hg hr hs)
theorem sc_is_one_of : FnScope N_is_one_of ["names", "value"] (defScope s_is_one_of) := ⟨rfl, rfl, rfl, by decide +kernel, rfl, by decide +kernel, by decide +kernel⟩
theorem b_is_one_of (G : Glb mg) (c_is_name : CalD P w K mg base CX0 1 "is_name" ["value"] none f_is_name) {f : Addr} {cd : Value} {A : Around} {outer : List Env} {s : Shared} {H F : Hp} {E : XK} {fp : List Addr} {vs : List V} {W : WX} (hr : Room 1 (A.deeper (envOfC "is_one_of" (defScope s_is_one_of) s.heap.objs.size f cd))) (ok : Ok1 (DCx P w K mg base N_is_one_of "is_one_of" s_is_one_of f cd A outer s H E)) :
    DB (DCx P w K mg base N_is_one_of "is_one_of" s_is_one_of f cd A outer s H E) (entS H F fp none vs) W (defBody s_is_one_of) m_is_one_of :=
    (db_one (ds_ret (de_and (de_call c_is_name (hr.mono (by decide)) ok.grd (fun _ => passC0) (DAs.cons (do_val (de_var (i := 1))) DAs.nil) rfl) (de_one (de_cmp (op_inP ok) (os_in _) (do_plc (i := 1)) (do_plc (i := 0)))))))
theorem g_is_one_of (G : Glb mg) (c_is_name : CalD P w K mg base CX0 1 "is_name" ["value"] none f_is_name) (hs : ∃ o, base.get? sysModules = some o) {f : Addr} {kV doc pm cdv ct oc : Value} {an od : Option Addr} {osl : Array (Option Value)}
    (lk : K.lookup f = some ⟨oc, od, .func (PySem.W.fnOf "is_one_of" "is_one_of" (defArgs s_is_one_of) (defBody s_is_one_of) (defScope s_is_one_of) .none kV doc pm an cdv ct), osl⟩) (hcd : PySem.W.codeIn K cdv "is_one_of" = true) :
    FnG P w K mg base CX0 2 f (PySem.W.fnOf "is_one_of" "is_one_of" (defArgs s_is_one_of) (defBody s_is_one_of) (defScope s_is_one_of) .none kV doc pm an cdv ct) ["names", "value"] (spD K mg 2 none f_is_one_of) :=
  cald0 (k := 1) lk hcd sc_is_one_of (by decide) fun A outer s H vs E F os fp hg hr _ _ _ _ => b_is_one_of G c_is_name hr (ok1_of sc_is_one_of.nd hg hr hs)
theorem sc_require_name : FnScope N_require_name ["names", "value"] (defScope s_require_name) := ⟨rfl, rfl, rfl, by decide +kernel, rfl, by decide +kernel, by decide +kernel⟩
theorem b_require_name (G : Glb mg) (c_is_one_of : CalD P w K mg base CX0 2 "is_one_of" ["names", "value"] none f_is_one_of) {f : Addr} {cd : Value} {A : Around} {outer : List Env} {s : Shared} {H F : Hp} {E : XK} {fp : List Addr} {vs : List V} {W : WX} (hr : Room 2 (A.deeper (envOfC "require_name" (defScope s_require_name) s.heap.objs.size f cd))) (ok : Ok1 (DCx P w K mg base N_require_name "require_name" s_require_name f cd A outer s H E)) :
    DB (DCx P w K mg base N_require_name "require_name" s_require_name f cd A outer s H E) (entS H F fp none vs) W (defBody s_require_name) m_require_name :=
    (db_one (ds_if (dt_not (dt_val (de_call c_is_one_of (hr.mono (by decide)) ok.grd (fun _ => passC0) (DAs.cons (do_val (de_var (i := 0))) (DAs.cons (do_val (de_var (i := 1))) DAs.nil)) rfl))) (db_one ds_stuck) db_nil))
theorem g_require_name (G : Glb mg) (c_is_one_of : CalD P w K mg base CX0 2 "is_one_of" ["names", "value"] none f_is_one_of) (hs : ∃ o, base.get? sysModules = some o) {f : Addr} {kV doc pm cdv ct oc : Value} {an od : Option Addr} {osl : Array (Option Value)}
    (lk : K.lookup f = some ⟨oc, od, .func (PySem.W.fnOf "require_name" "require_name" (defArgs s_require_name) (defBody s_require_name) (defScope s_require_name) .none kV doc pm an cdv ct), osl⟩) (hcd : PySem.W.codeIn K cdv "require_name" = true) :
    FnG P w K mg base CX0 3 f (PySem.W.fnOf "require_name" "require_name" (defArgs s_require_name) (defBody s_require_name) (defScope s_require_name) .none kV doc pm an cdv ct) ["names", "value"] (spD K mg 2 none f_require_name) :=
  cald0 (k := 2) lk hcd sc_require_name (by decide) fun A outer s H vs E F os fp hg hr _ _ _ _ => b_require_name G c_is_one_of hr (ok1_of sc_require_name.nd hg hr hs)
theorem sc_arrangements : FnScope N_arrangements ["many", "places"] (defScope s_arrangements) := ⟨rfl, rfl, rfl, by decide +kernel, rfl, by decide +kernel, by decide +kernel⟩
theorem b_arrangements (G : Glb mg) {f : Addr} {cd : Value} {A : Around} {outer : List Env} {s : Shared} {H F : Hp} {E : XK} {fp : List Addr} {vs : List V} {W : WX} (hr : Room 0 (A.deeper (envOfC "arrangements" (defScope s_arrangements) s.heap.objs.size f cd))) (ok : Ok1 (DCx P w K mg base N_arrangements "arrangements" s_arrangements f cd A outer s H E)) :
    DB (DCx P w K mg base N_arrangements "arrangements" s_arrangements f cd A outer s H E) (entS H F fp none vs) W (defBody s_arrangements) m_arrangements :=
    (db_cons (ds_set (i := 2) de_int ok.nd (ent_pins (by decide)))
      (db_cons (ds_for (vs := [3]) PassesOwn.never ok.calm (di_range1 (DAs.cons (do_plc (i := 1)) DAs.nil) G.n_range) (pg_name (i := 3) ok.nd rfl (by first | exact Or.inl rfl | exact Or.inr rfl)) (gs_name (i := 3) (ent_pins (by decide)) (by decide)) (db_one (ds_aug (i := 2) iop_mul os_mulI (do_own (de_op2 op_sub os_sub (do_plc (i := 0)) (do_plc (i := 3)))) ok.nd (ent_pins (by decide)))))
      (db_one (ds_ret (de_var (i := 2))))))
theorem g_arrangements (G : Glb mg) (hs : ∃ o, base.get? sysModules = some o) {f : Addr} {kV doc pm cdv ct oc : Value} {an od : Option Addr} {osl : Array (Option Value)}
    (lk : K.lookup f = some ⟨oc, od, .func (PySem.W.fnOf "arrangements" "arrangements" (defArgs s_arrangements) (defBody s_arrangements) (defScope s_arrangements) .none kV doc pm an cdv ct), osl⟩) (hcd : PySem.W.codeIn K cdv "arrangements" = true) :
    FnG P w K mg base CX0 1 f (PySem.W.fnOf "arrangements" "arrangements" (defArgs s_arrangements) (defBody s_arrangements) (defScope s_arrangements) .none kV doc pm an cdv ct) ["many", "places"] (spD K mg 2 none f_arrangements) :=
  cald0 (k := 0) lk hcd sc_arrangements (by decide) fun A outer s H vs E F os fp hg hr _ _ _ _ => b_arrangements G hr (ok1_of sc_arrangements.nd hg hr hs)
theorem sc_endings : FnScope N_endings ["others", "places", "is_there"] (defScope s_endings) := ⟨rfl, rfl, rfl, by decide +kernel, rfl, by decide +kernel, by decide +kernel⟩
theorem b_endings (G : Glb mg) (c_arrangements : CalD P w K mg base CX0 1 "arrangements" ["many", "places"] none f_arrangements) {f : Addr} {cd : Value} {A : Around} {outer : List Env} {s : Shared} {H F : Hp} {E : XK} {fp : List Addr} {vs : List V} {W : WX} (hr : Room 1 (A.deeper (envOfC "endings" (defScope s_endings) s.heap.objs.size f cd))) (ok : Ok1 (DCx P w K mg base N_endings "endings" s_endings f cd A outer s H E)) :
    DB (DCx P w K mg base N_endings "endings" s_endings f cd A outer s H E) (entS H F fp none vs) W (defBody s_endings) m_endings :=
    (db_cons (ds_if (dt_val (de_var (i := 2))) (db_one (ds_ret (de_call c_arrangements (hr.mono (by decide)) ok.grd (fun _ => passC0) (DAs.cons (do_val (de_var (i := 0))) (DAs.cons (do_val (de_var (i := 1))) DAs.nil)) rfl))) db_nil)
      (db_one (ds_ret (de_if (dt_cmp op_gtA (os_ord _ _) (do_plc (i := 1)) (do_own de_int)) (de_op2 op_mulAll os_mul (do_plc (i := 1)) (do_own (de_call c_arrangements (hr.mono (by decide)) ok.grd (fun _ => passC0) (DAs.cons (do_val (de_var (i := 0))) (DAs.cons (do_val (de_op2 op_sub os_sub (do_plc (i := 1)) (do_own de_int))) DAs.nil)) rfl))) de_int))))
theorem g_endings (G : Glb mg) (c_arrangements : CalD P w K mg base CX0 1 "arrangements" ["many", "places"] none f_arrangements) (hs : ∃ o, base.get? sysModules = some o) {f : Addr} {kV doc pm cdv ct oc : Value} {an od : Option Addr} {osl : Array (Option Value)}
    (lk : K.lookup f = some ⟨oc, od, .func (PySem.W.fnOf "endings" "endings" (defArgs s_endings) (defBody s_endings) (defScope s_endings) .none kV doc pm an cdv ct), osl⟩) (hcd : PySem.W.codeIn K cdv "endings" = true) :
    FnG P w K mg base CX0 2 f (PySem.W.fnOf "endings" "endings" (defArgs s_endings) (defBody s_endings) (defScope s_endings) .none kV doc pm an cdv ct) ["others", "places", "is_there"] (spD K mg 3 none f_endings) :=
  cald0 (k := 1) lk hcd sc_endings (by decide) fun A outer s H vs E F os fp hg hr _ _ _ _ => b_endings G c_arrangements hr (ok1_of sc_endings.nd hg hr hs)
theorem sc_require_length : FnScope N_require_length ["folders", "name", "length"] (defScope s_require_length) := ⟨rfl, rfl, rfl, by decide +kernel, rfl, by decide +kernel, by decide +kernel⟩
theorem b_require_length (G : Glb mg) (c_require_folders : CalD P w K mg base CX0 4 "require_folders" ["value"] none f_require_folders) (c_require_name : CalD P w K mg base CX0 3 "require_name" ["names", "value"] none f_require_name) (c_is_integer : CalD P w K mg base CX0 1 "is_integer" ["value", "low", "high"] none f_is_integer) {f : Addr} {cd : Value} {A : Around} {outer : List Env} {s : Shared} {H F : Hp} {E : XK} {fp : List Addr} {vs : List V} {W : WX} (hr : Room 4 (A.deeper (envOfC "require_length" (defScope s_require_length) s.heap.objs.size f cd))) (ok : Ok1 (DCx P w K mg base N_require_length "require_length" s_require_length f cd A outer s H E)) :
    DB (DCx P w K mg base N_require_length "require_length" s_require_length f cd A outer s H E) (entS H F fp none vs) W (defBody s_require_length) m_require_length :=
    (db_cons (ds_expr (de_call c_require_folders (hr.mono (by decide)) ok.grd (fun _ => passC0) (DAs.cons (do_val (de_var (i := 0))) DAs.nil) rfl))
      (db_cons (ds_expr (de_call c_require_name (hr.mono (by decide)) ok.grd (fun _ => passC0) (DAs.cons (do_val (de_var (i := 0))) (DAs.cons (do_val (de_var (i := 1))) DAs.nil)) rfl))
      (db_one (ds_if (dt_not (dt_val (de_call c_is_integer (hr.mono (by decide)) ok.grd (fun _ => passC0) (DAs.cons (do_val (de_var (i := 2))) (DAs.cons (do_val de_int) (DAs.cons (do_val (de_callB call_len os_len (DAs.cons (do_plc (i := 0)) DAs.nil) G.n_len (by rfl))) DAs.nil))) rfl))) (db_one ds_stuck) db_nil))))
theorem g_require_length (G : Glb mg) (c_require_folders : CalD P w K mg base CX0 4 "require_folders" ["value"] none f_require_folders) (c_require_name : CalD P w K mg base CX0 3 "require_name" ["names", "value"] none f_require_name) (c_is_integer : CalD P w K mg base CX0 1 "is_integer" ["value", "low", "high"] none f_is_integer) (hs : ∃ o, base.get? sysModules = some o) {f : Addr} {kV doc pm cdv ct oc : Value} {an od : Option Addr} {osl : Array (Option Value)}
    (lk : K.lookup f = some ⟨oc, od, .func (PySem.W.fnOf "require_length" "require_length" (defArgs s_require_length) (defBody s_require_length) (defScope s_require_length) .none kV doc pm an cdv ct), osl⟩) (hcd : PySem.W.codeIn K cdv "require_length" = true) :
    FnG P w K mg base CX0 5 f (PySem.W.fnOf "require_length" "require_length" (defArgs s_require_length) (defBody s_require_length) (defScope s_require_length) .none kV doc pm an cdv ct) ["folders", "name", "length"] (spD K mg 3 none f_require_length) :=
  cald0 (k := 4) lk hcd sc_require_length (by decide) fun A outer s H vs E F os fp hg hr _ _ _ _ => b_require_length G c_require_folders c_require_name c_is_integer hr (ok1_of sc_require_length.nd hg hr hs)
theorem sc_count_lists : FnScope N_count_lists ["folders", "name", "length"] (defScope s_count_lists) := ⟨rfl, rfl, rfl, by decide +kernel, rfl, by decide +kernel, by decide +kernel⟩
theorem b_count_lists (G : Glb mg) (c_require_length : CalD P w K mg base CX0 5 "require_length" ["folders", "name", "length"] none f_require_length) (c_endings : CalD P w K mg base CX0 2 "endings" ["others", "places", "is_there"] none f_endings) {f : Addr} {cd : Value} {A : Around} {outer : List Env} {s : Shared} {H F : Hp} {E : XK} {fp : List Addr} {vs : List V} {W : WX} (hr : Room 5 (A.deeper (envOfC "count_lists" (defScope s_count_lists) s.heap.objs.size f cd))) (ok : Ok1 (DCx P w K mg base N_count_lists "count_lists" s_count_lists f cd A outer s H E)) :
    DB (DCx P w K mg base N_count_lists "count_lists" s_count_lists f cd A outer s H E) (entS H F fp none vs) W (defBody s_count_lists) m_count_lists :=
    (db_cons (ds_expr (de_call c_require_length (hr.mono (by decide)) ok.grd (fun _ => passC0) (DAs.cons (do_val (de_var (i := 0))) (DAs.cons (do_val (de_var (i := 1))) (DAs.cons (do_val (de_var (i := 2))) DAs.nil))) rfl))
      (db_one (ds_ret (de_call c_endings (hr.mono (by decide)) ok.grd (fun _ => passC0) (DAs.cons (do_val (de_op2 op_sub os_sub (do_own (de_callB call_len os_len (DAs.cons (do_plc (i := 0)) DAs.nil) G.n_len (by rfl))) (do_own de_int))) (DAs.cons (do_val (de_var (i := 2))) (DAs.cons (do_val de_bl) DAs.nil))) rfl))))
theorem g_count_lists (G : Glb mg) (c_require_length : CalD P w K mg base CX0 5 "require_length" ["folders", "name", "length"] none f_require_length) (c_endings : CalD P w K mg base CX0 2 "endings" ["others", "places", "is_there"] none f_endings) (hs : ∃ o, base.get? sysModules = some o) {f : Addr} {kV doc pm cdv ct oc : Value} {an od : Option Addr} {osl : Array (Option Value)}
    (lk : K.lookup f = some ⟨oc, od, .func (PySem.W.fnOf "count_lists" "count_lists" (defArgs s_count_lists) (defBody s_count_lists) (defScope s_count_lists) .none kV doc pm an cdv ct), osl⟩) (hcd : PySem.W.codeIn K cdv "count_lists" = true) :
    FnG P w K mg base CX0 6 f (PySem.W.fnOf "count_lists" "count_lists" (defArgs s_count_lists) (defBody s_count_lists) (defScope s_count_lists) .none kV doc pm an cdv ct) ["folders", "name", "length"] (spD K mg 3 none f_count_lists) :=
  cald0 (k := 5) lk hcd sc_count_lists (by decide) fun A outer s H vs E F os fp hg hr _ _ _ _ => b_count_lists G c_require_length c_endings hr (ok1_of sc_count_lists.nd hg hr hs)
theorem sc__law_satchel : FnScope N__law_satchel ["script", "k"] (defScope s__law_satchel) := ⟨rfl, rfl, rfl, by decide +kernel, rfl, by decide +kernel, by decide +kernel⟩
theorem b__law_satchel (G : Glb mg) {f : Addr} {cd : Value} {A : Around} {outer : List Env} {s : Shared} {H F : Hp} {E : XK} {fp : List Addr} {vs : List V} {W : WX} (hr : Room 0 (A.deeper (envOfC "_law_satchel" (defScope s__law_satchel) s.heap.objs.size f cd))) (ok : Ok1 (DCx P w K mg base N__law_satchel "_law_satchel" s__law_satchel f cd A outer s H E)) :
    DB (DCx P w K mg base N__law_satchel "_law_satchel" s__law_satchel f cd A outer s H E) (entS H F fp none vs) W (defBody s__law_satchel) m__law_satchel :=
    (db_cons (ds_set (i := 2) (de_if (dt_cmp op_ltA (os_ord _ _) (do_plc (i := 1)) (do_own (de_callB call_len os_len (DAs.cons (do_plc (i := 0)) DAs.nil) G.n_len (by rfl)))) (de_ix ix_seq os_ixAll (do_plc (i := 0)) (do_plc (i := 1))) de_int) ok.nd (ent_pins (by decide)))
      (db_one (ds_ret (de_list (DAs.cons (do_own (de_callB (call_max2 ok.calm) os_max2 (DAs.cons (do_own de_int) (DAs.cons (do_own (de_op2 op_sub os_sub (do_own (de_callB call_abs os_abs (DAs.cons (do_plc (i := 2)) DAs.nil) G.n_abs (by rfl))) (do_own (de_op2 op_powW os_pow (do_own de_int) (do_own de_int))))) DAs.nil)) G.n_max (by rfl))) (DAs.cons (do_own (de_op2 op_addAll os_add (do_own (de_op2 op_addAll os_add (do_own (de_op2 op_mulAll os_mul (do_own (de_op2 op_mod os_mod (do_plc (i := 2)) (do_own (de_op2 op_addAll os_add (do_own (de_op2 op_powW os_pow (do_own de_int) (do_own de_int))) (do_own de_int))))) (do_own de_int))) (do_own (de_op2 op_mulAll os_mul (do_own de_int) (do_plc (i := 1)))))) (do_own de_int))) (DAs.cons (do_own de_int) DAs.nil)))))))
theorem g__law_satchel (G : Glb mg) (hs : ∃ o, base.get? sysModules = some o) {f : Addr} {kV doc pm cdv ct oc : Value} {an od : Option Addr} {osl : Array (Option Value)}
    (lk : K.lookup f = some ⟨oc, od, .func (PySem.W.fnOf "_law_satchel" "_law_satchel" (defArgs s__law_satchel) (defBody s__law_satchel) (defScope s__law_satchel) .none kV doc pm an cdv ct), osl⟩) (hcd : PySem.W.codeIn K cdv "_law_satchel" = true) :
    FnG P w K mg base CX0 1 f (PySem.W.fnOf "_law_satchel" "_law_satchel" (defArgs s__law_satchel) (defBody s__law_satchel) (defScope s__law_satchel) .none kV doc pm an cdv ct) ["script", "k"] (spD K mg 2 none f__law_satchel) :=
  cald0 (k := 0) lk hcd sc__law_satchel (by decide) fun A outer s H vs E F os fp hg hr _ _ _ _ => b__law_satchel G hr (ok1_of sc__law_satchel.nd hg hr hs)
theorem sc__law_pluck : FnScope N__law_pluck ["satchel", "many"] (defScope s__law_pluck) := ⟨rfl, rfl, rfl, by decide +kernel, rfl, by decide +kernel, by decide +kernel⟩
theorem b__law_pluck (G : Glb mg) {f : Addr} {cd : Value} {A : Around} {outer : List Env} {s : Shared} {H F : Hp} {E : XK} {fp : List Addr} {vs : List V} {W : WX} (hr : Room 0 (A.deeper (envOfC "_law_pluck" (defScope s__law_pluck) s.heap.objs.size f cd))) (ok : Ok1 (DCx P w K mg base N__law_pluck "_law_pluck" s__law_pluck f cd A outer s H E)) :
    DB (DCx P w K mg base N__law_pluck "_law_pluck" s__law_pluck f cd A outer s H E) (entS H F fp (some 0) vs) W (defBody s__law_pluck) m__law_pluck :=
    (db_cons (ds_if (dt_cmp op_gtA (os_ord _ _) (do_own (de_ix ix_seq os_ixAll (do_plc (i := 0)) (do_own de_int))) (do_own de_int)) (db_cons (ds_set (i := 3) (de_op2 op_mod os_mod (do_own (de_ix ix_seq os_ixAll (do_plc (i := 0)) (do_own de_int))) (do_plc (i := 1))) ok.nd (ent_pins (by decide)))
      (db_cons (ds_setL (i := 0) (do_own (de_op2 op_fdivW os_fdiv (do_own (de_ix ix_seq os_ixAll (do_plc (i := 0)) (do_own de_int))) (do_plc (i := 1)))) (do_own de_int))
      (db_one (ds_ret (de_var (i := 3)))))) db_nil)
      (db_cons (ds_setL (i := 0) (do_own (de_op2 op_addAll os_add (do_own (de_ix ix_seq os_ixAll (do_plc (i := 0)) (do_own de_int))) (do_own de_int))) (do_own de_int))
      (db_cons (ds_set (i := 2) (de_op2 op_mod os_mod (do_own (de_op2 op_powW os_pow (do_own (de_op2 op_addAll os_add (do_own (de_ix ix_seq os_ixAll (do_plc (i := 0)) (do_own de_int))) (do_own (de_op2 op_mulAll os_mul (do_own de_int) (do_own (de_ix ix_seq os_ixAll (do_plc (i := 0)) (do_own de_int))))))) (do_own de_int))) (do_own (de_op2 op_addAll os_add (do_own (de_op2 op_powW os_pow (do_own de_int) (do_own de_int))) (do_own de_int)))) ok.nd (ent_pins (by decide)))
      (db_cons (ds_set (i := 2) (de_op2 op_mod os_mod (do_own (de_op2 op_powW os_pow (do_own (de_op2 op_addAll os_add (do_plc (i := 2)) (do_own (de_op2 op_mulAll os_mul (do_own de_int) (do_own (de_ix ix_seq os_ixAll (do_plc (i := 0)) (do_own de_int))))))) (do_own de_int))) (do_own (de_op2 op_addAll os_add (do_own (de_op2 op_powW os_pow (do_own de_int) (do_own de_int))) (do_own de_int)))) ok.nd (ent_pins (by decide)))
      (db_one (ds_ret (de_op2 op_mod os_mod (do_own (de_op2 op_fdivW os_fdiv (do_plc (i := 2)) (do_own de_int))) (do_plc (i := 1)))))))))
theorem g__law_pluck (G : Glb mg) (hs : ∃ o, base.get? sysModules = some o) {f : Addr} {kV doc pm cdv ct oc : Value} {an od : Option Addr} {osl : Array (Option Value)}
    (lk : K.lookup f = some ⟨oc, od, .func (PySem.W.fnOf "_law_pluck" "_law_pluck" (defArgs s__law_pluck) (defBody s__law_pluck) (defScope s__law_pluck) .none kV doc pm an cdv ct), osl⟩) (hcd : PySem.W.codeIn K cdv "_law_pluck" = true) :
    FnG P w K mg base CX0 1 f (PySem.W.fnOf "_law_pluck" "_law_pluck" (defArgs s__law_pluck) (defBody s__law_pluck) (defScope s__law_pluck) .none kV doc pm an cdv ct) ["satchel", "many"] (spD K mg 2 (some 0) f__law_pluck) :=
  cald0 (k := 0) lk hcd sc__law_pluck (by decide) fun A outer s H vs E F os fp hg hr _ _ _ _ => b__law_pluck G hr (ok1_of sc__law_pluck.nd hg hr hs)
theorem sc__law_names : FnScope N__law_names ["satchel", "many"] (defScope s__law_names) := ⟨rfl, rfl, rfl, by decide +kernel, rfl, by decide +kernel, by decide +kernel⟩
theorem b__law_names (G : Glb mg) (c__law_pluck : CalD P w K mg base CX0 1 "_law_pluck" ["satchel", "many"] (some 0) f__law_pluck) {f : Addr} {cd : Value} {A : Around} {outer : List Env} {s : Shared} {H F : Hp} {E : XK} {fp : List Addr} {vs : List V} {W : WX} (hr : Room 1 (A.deeper (envOfC "_law_names" (defScope s__law_names) s.heap.objs.size f cd))) (ok : Ok1 (DCx P w K mg base N__law_names "_law_names" s__law_names f cd A outer s H E)) :
    DB (DCx P w K mg base N__law_names "_law_names" s__law_names f cd A outer s H E) (entS H F fp (some 0) vs) W (defBody s__law_names) m__law_names :=
    (db_cons (ds_tupAsg (is := [2, 3, 4]) (n := 3) ok.calm (DAs.cons (do_own (de_str (by decide))) (DAs.cons (do_own (de_callIo c__law_pluck (hr.mono (by decide)) ok.grd (fun _ => passC0) (DAs.cons (do_plc (i := 0)) (DAs.cons (do_val de_int) DAs.nil)) rfl)) (DAs.cons (do_own (de_list DAs.nil)) DAs.nil))) (pgs_cons (pg_name (i := 2) ok.nd rfl (by first | exact Or.inl rfl | exact Or.inr rfl)) (pgs_cons (pg_name (i := 3) ok.nd rfl (by first | exact Or.inl rfl | exact Or.inr rfl)) (pgs_cons (pg_name (i := 4) ok.nd rfl (by first | exact Or.inl rfl | exact Or.inr rfl)) pgs_nil))) rfl (ent_pinsL (by decide)) (gsAll3) (by decide))
      (db_cons (ds_for (vs := [5]) PassesOwn.never ok.calm (di_range1 (DAs.cons (do_own (de_callIo c__law_pluck (hr.mono (by decide)) ok.grd (fun _ => passC0) (DAs.cons (do_plc (i := 0)) (DAs.cons (do_val de_int) DAs.nil)) rfl)) DAs.nil) G.n_range) (pg_name (i := 5) ok.nd rfl (by first | exact Or.inl rfl | exact Or.inr rfl)) (gs_name (i := 5) (ent_pins (by decide)) (by decide)) (db_one (ds_set (i := 2) (de_op2 op_addAll os_add (do_plc (i := 2)) (do_own (de_ix ix_seq os_ixAll (do_own (de_str (by decide))) (do_own (de_callIo c__law_pluck (hr.mono (by decide)) ok.grd (fun _ => passC0) (DAs.cons (do_plc (i := 0)) (DAs.cons (do_val de_int) DAs.nil)) rfl))))) ok.nd (ent_pins (by decide)))))
      (db_cons (ds_for (vs := [6]) PassesOwn.never ok.calm (di_range1 (DAs.cons (do_own de_int) DAs.nil) G.n_range) (pg_name (i := 6) ok.nd rfl (by first | exact Or.inl rfl | exact Or.inr rfl)) (gs_name (i := 6) (ent_pins (by decide)) (by decide)) (db_cons (ds_set (i := 7) (de_ix ix_seq os_ixAll (do_own (de_str (by decide))) (do_plc (i := 6))) ok.nd (ent_pins (by decide)))
      (db_one (ds_expr (de_append (i := 4) (do_own (de_ix ix_seq os_ixAll (do_own (de_list (DAs.cons (do_own (de_var (i := 7))) (DAs.cons (do_own (de_op2 op_addAll os_add (do_plc (i := 2)) (do_plc (i := 7)))) (DAs.cons (do_own (de_op2 op_mulAll os_mul (do_own (de_ix ix_seq os_ixAll (do_own (de_str (by decide))) (do_own (de_op2 op_fdivW os_fdiv (do_plc (i := 6)) (do_own de_int))))) (do_own (de_op2 op_addAll os_add (do_own de_int) (do_own (de_op2 op_mod os_mod (do_plc (i := 6)) (do_own de_int))))))) DAs.nil))))) (do_plc (i := 3)))))))))
      (db_one (ds_ret (de_lc (own := [("turn", 5)]) ok.calm ok.nd (di_range1 (DAs.cons (do_plc (i := 1)) DAs.nil) G.n_range) (by rfl) (fun s H C cl fp => (pg_name (i := 5) ok.blk.nd rfl (by first | exact Or.inl rfl | exact Or.inr rfl))) (gs_name (i := 5) (ent_pins (by decide)) (by decide)) (ent_pinsL (by decide)) (fun s H C cl fp => (de_popAt (i := 4) (do_own (de_callIo c__law_pluck (hr.mono (by decide)) ok.blk.grd (fun _ => passC0) (DAs.cons (do_plc (i := 0)) (DAs.cons (do_val (de_callB call_len os_len (DAs.cons (do_plc (i := 4)) DAs.nil) G.n_len (by rfl))) DAs.nil)) rfl))))))))))
theorem g__law_names (G : Glb mg) (c__law_pluck : CalD P w K mg base CX0 1 "_law_pluck" ["satchel", "many"] (some 0) f__law_pluck) (hs : ∃ o, base.get? sysModules = some o) {f : Addr} {kV doc pm cdv ct oc : Value} {an od : Option Addr} {osl : Array (Option Value)}
    (lk : K.lookup f = some ⟨oc, od, .func (PySem.W.fnOf "_law_names" "_law_names" (defArgs s__law_names) (defBody s__law_names) (defScope s__law_names) .none kV doc pm an cdv ct), osl⟩) (hcd : PySem.W.codeIn K cdv "_law_names" = true) :
    FnG P w K mg base CX0 2 f (PySem.W.fnOf "_law_names" "_law_names" (defArgs s__law_names) (defBody s__law_names) (defScope s__law_names) .none kV doc pm an cdv ct) ["satchel", "many"] (spD K mg 2 (some 0) f__law_names) :=
  cald0 (k := 1) lk hcd sc__law_names (by decide) fun A outer s H vs E F os fp hg hr _ _ _ _ => b__law_names G c__law_pluck hr (ok1_of sc__law_names.nd hg hr hs)
theorem sc__law_due : FnScope N__law_due ["many", "size"] (defScope s__law_due) := ⟨rfl, rfl, rfl, by decide +kernel, rfl, by decide +kernel, by decide +kernel⟩
theorem b__law_due (G : Glb mg) {f : Addr} {cd : Value} {A : Around} {outer : List Env} {s : Shared} {H F : Hp} {E : XK} {fp : List Addr} {vs : List V} {W : WX} (hr : Room 0 (A.deeper (envOfC "_law_due" (defScope s__law_due) s.heap.objs.size f cd))) (ok : Ok1 (DCx P w K mg base N__law_due "_law_due" s__law_due f cd A outer s H E)) :
    DB (DCx P w K mg base N__law_due "_law_due" s__law_due f cd A outer s H E) (entS H F fp none vs) W (defBody s__law_due) m__law_due :=
    (db_cons (ds_set (i := 2) (de_var (i := 1)) ok.nd (ent_pins (by decide)))
      (db_cons (ds_for (vs := [3]) PassesOwn.never ok.calm (di_range1 (DAs.cons (do_own (de_op2 op_sub os_sub (do_plc (i := 1)) (do_own de_int))) DAs.nil) G.n_range) (pg_name (i := 3) ok.nd rfl (by first | exact Or.inl rfl | exact Or.inr rfl)) (gs_name (i := 3) (ent_pins (by decide)) (by decide)) (db_one (ds_set (i := 2) (de_op2 op_mulAll os_mul (do_plc (i := 2)) (do_own (de_op2 op_sub os_sub (do_own (de_op2 op_sub os_sub (do_plc (i := 0)) (do_own de_int))) (do_plc (i := 3))))) ok.nd (ent_pins (by decide)))))
      (db_one (ds_ret (de_var (i := 2))))))
theorem g__law_due (G : Glb mg) (hs : ∃ o, base.get? sysModules = some o) {f : Addr} {kV doc pm cdv ct oc : Value} {an od : Option Addr} {osl : Array (Option Value)}
    (lk : K.lookup f = some ⟨oc, od, .func (PySem.W.fnOf "_law_due" "_law_due" (defArgs s__law_due) (defBody s__law_due) (defScope s__law_due) .none kV doc pm an cdv ct), osl⟩) (hcd : PySem.W.codeIn K cdv "_law_due" = true) :
    FnG P w K mg base CX0 1 f (PySem.W.fnOf "_law_due" "_law_due" (defArgs s__law_due) (defBody s__law_due) (defScope s__law_due) .none kV doc pm an cdv ct) ["many", "size"] (spD K mg 2 none f__law_due) :=
  cald0 (k := 0) lk hcd sc__law_due (by decide) fun A outer s H vs E F os fp hg hr _ _ _ _ => b__law_due G hr (ok1_of sc__law_due.nd hg hr hs)
theorem sc_law : FnScope N_law ["script"] (defScope s_law) := ⟨rfl, rfl, rfl, by decide +kernel, rfl, by decide +kernel, by decide +kernel⟩
theorem b_law (G : Glb mg) (c__law_satchel : CalD P w K mg base CX0 1 "_law_satchel" ["script", "k"] none f__law_satchel) (c__law_names : CalD P w K mg base CX0 2 "_law_names" ["satchel", "many"] (some 0) f__law_names) (c_count_lists : CalD P w K mg base CX0 6 "count_lists" ["folders", "name", "length"] none f_count_lists) (c__law_pluck : CalD P w K mg base CX0 1 "_law_pluck" ["satchel", "many"] (some 0) f__law_pluck) (c__law_due : CalD P w K mg base CX0 1 "_law_due" ["many", "size"] none f__law_due) (k_count_lists_folders_length_name : CalK P w K mg base CX0 6 "count_lists" ["folders", "name", "length"] ["folders", "length", "name"] [0, 2, 1] f_count_lists) {f : Addr} {cd : Value} {A : Around} {outer : List Env} {s : Shared} {H F : Hp} {E : XK} {fp : List Addr} {vs : List V} {W : WX} (hr : Room 6 (A.deeper (envOfC "law" (defScope s_law) s.heap.objs.size f cd))) (ok : Ok1 (DCx P w K mg base N_law "law" s_law f cd A outer s H E)) :
    DB (DCx P w K mg base N_law "law" s_law f cd A outer s H E) (entS H F fp none vs) W (defBody s_law) m_law :=
    (db_cons (ds_for (vs := [1]) PassesOwn.never ok.calm (di_range1 (DAs.cons (do_own (de_callB (call_max2 ok.calm) os_max2 (DAs.cons (do_own de_int) (DAs.cons (do_own (de_callB (call_min2 ok.calm) os_min2 (DAs.cons (do_own de_int) (DAs.cons (do_own (de_callB call_len os_len (DAs.cons (do_plc (i := 0)) DAs.nil) G.n_len (by rfl))) DAs.nil)) G.n_min (by rfl))) DAs.nil)) G.n_max (by rfl))) DAs.nil) G.n_range) (pg_name (i := 1) ok.nd rfl (by first | exact Or.inl rfl | exact Or.inr rfl)) (gs_name (i := 1) (ent_pins (by decide)) (by decide)) (db_cons (ds_set (i := 3) (de_call c__law_satchel (hr.mono (by decide)) ok.grd (fun _ => passC0) (DAs.cons (do_plc (i := 0)) (DAs.cons (do_val (de_var (i := 1))) DAs.nil)) rfl) ok.nd (ent_pins (by decide)))
      (db_one (ds_for (vs := [4]) PassesOwn.never ok.calm (di_opd (do_val (de_list (DAs.cons (do_own (de_op2 op_addAll os_add (do_own de_int) (do_own (de_callIo c__law_pluck (hr.mono (by decide)) ok.grd (fun _ => passC0) (DAs.cons (do_plc (i := 3)) (DAs.cons (do_val de_int) DAs.nil)) rfl)))) (DAs.cons (do_own de_int) DAs.nil))))) (pg_name (i := 4) ok.nd rfl (by first | exact Or.inl rfl | exact Or.inr rfl)) (gs_name (i := 4) (ent_pins (by decide)) (by decide)) (db_cons (ds_set (i := 5) (de_callIo c__law_names (hr.mono (by decide)) ok.grd (fun _ => passC0) (DAs.cons (do_plc (i := 3)) (DAs.cons (do_val (de_var (i := 4))) DAs.nil)) rfl) ok.nd (ent_pins (by decide)))
      (db_one (ds_for (vs := [6]) PassesOwn.never ok.calm (di_range2 (DAs.cons (do_own de_int) (DAs.cons (do_own (de_op2 op_addAll os_add (do_plc (i := 4)) (do_own de_int))) DAs.nil)) G.n_range) (pg_name (i := 6) ok.nd rfl (by first | exact Or.inl rfl | exact Or.inr rfl)) (gs_name (i := 6) (ent_pins (by decide)) (by decide)) (db_cons (ds_set (i := 7) (de_call c__law_due (hr.mono (by decide)) ok.grd (fun _ => passC0) (DAs.cons (do_val (de_var (i := 4))) (DAs.cons (do_val (de_var (i := 6))) DAs.nil)) rfl) ok.nd (ent_pins (by decide)))
      (db_cons (ds_set (i := 2) (de_list (DAs.cons (do_own (de_ix ix_seq os_ixAll (do_plc (i := 5)) (do_own de_int))) (DAs.cons (do_own (de_ix ix_seq os_ixAll (do_plc (i := 5)) (do_own (de_callIo c__law_pluck (hr.mono (by decide)) ok.grd (fun _ => passC0) (DAs.cons (do_plc (i := 3)) (DAs.cons (do_val (de_var (i := 4))) DAs.nil)) rfl)))) DAs.nil))) ok.nd (ent_pins (by decide)))
      (db_cons (ds_setLc (i := 8) (own := [("one", 9)]) ok.calm ok.nd (di_opd (do_val (de_var (i := 2)))) (by rfl) (fun s H C cl fp => (pg_name (i := 9) ok.blk.nd rfl (by first | exact Or.inl rfl | exact Or.inr rfl))) (gs_name (i := 9) (ent_pins (by decide)) (by decide)) (ent_pinsL (by decide)) (ent_pins (by decide)) (.inl ⟨rfl, rfl⟩) (fun s H C cl fp => (de_call c_count_lists (hr.mono (by decide)) ok.blk.grd (fun _ => passC0) (DAs.cons (do_val (de_callTy call_tuple_of os_tupOf (DAs.cons (do_plc (i := 5)) DAs.nil) G.n_tuple (by rfl))) (DAs.cons (do_val (de_var (i := 9))) (DAs.cons (do_val (de_var (i := 6))) DAs.nil))) rfl)))
      (db_cons (ds_if (dt_cmp (op_neP ok) os_ne (do_own (de_callB (cr_reprD ok) os_repr (DAs.cons (do_plc (i := 8)) DAs.nil) G.n_repr (by rfl))) (do_own (de_callB (cr_reprD ok) os_repr (DAs.cons (do_own (de_list (DAs.cons (do_own (de_var (i := 7))) (DAs.cons (do_own (de_var (i := 7))) DAs.nil)))) DAs.nil) G.n_repr (by rfl)))) (db_one (ds_ret de_bl)) db_nil)
      (db_cons (ds_set (i := 8) (de_callK k_count_lists_folders_length_name (hr.mono (by decide)) ok.grd (fun _ => passC0) (DKs.cons (do_val (de_callTy call_tuple_of os_tupOf (DAs.cons (do_own (de_callB (cr_sortedD ok) os_sorted (DAs.cons (do_plc (i := 5)) DAs.nil) G.n_sorted (by rfl))) DAs.nil) G.n_tuple (by rfl))) (DKs.cons (do_val (de_var (i := 6))) (DKs.cons (do_val (de_ix ix_seq os_ixAll (do_plc (i := 5)) (do_own (de_un un_neg os_neg (do_own de_int))))) DKs.nil))) rfl (by decide)) ok.nd (ent_pins (by decide)))
      (db_one (ds_if (dt_cmp (op_neP ok) os_ne (do_own (de_callB (cr_reprD ok) os_repr (DAs.cons (do_plc (i := 8)) DAs.nil) G.n_repr (by rfl))) (do_own (de_callB (cr_reprD ok) os_repr (DAs.cons (do_plc (i := 7)) DAs.nil) G.n_repr (by rfl)))) (db_one (ds_ret de_bl)) db_nil))))))))))))))
      (db_cons (ds_set (i := 2) (de_callTy (cr_tupStr ok.calm) os_tupStr (DAs.cons (do_own (de_str (by decide))) DAs.nil) G.n_tuple (by rfl)) ok.nd (ent_pins (by decide)))
      (db_one (ds_ret (de_and (de_cmp (op_eqP ok) os_eq (do_own (de_call c_count_lists (hr.mono (by decide)) ok.grd (fun _ => passC0) (DAs.cons (do_val (de_var (i := 2))) (DAs.cons (do_val (de_str (by decide))) (DAs.cons (do_val de_int) DAs.nil))) rfl)) (do_own de_int)) (de_one (de_cmp (op_eqP ok) os_eq (do_own (de_call c_count_lists (hr.mono (by decide)) ok.grd (fun _ => passC0) (DAs.cons (do_val (de_tup (DAs.cons (do_val (de_str (by decide))) DAs.nil))) (DAs.cons (do_val (de_str (by decide))) (DAs.cons (do_val de_int) DAs.nil))) rfl)) (do_own de_int))))))))
theorem g_law (G : Glb mg) (c__law_satchel : CalD P w K mg base CX0 1 "_law_satchel" ["script", "k"] none f__law_satchel) (c__law_names : CalD P w K mg base CX0 2 "_law_names" ["satchel", "many"] (some 0) f__law_names) (c_count_lists : CalD P w K mg base CX0 6 "count_lists" ["folders", "name", "length"] none f_count_lists) (c__law_pluck : CalD P w K mg base CX0 1 "_law_pluck" ["satchel", "many"] (some 0) f__law_pluck) (c__law_due : CalD P w K mg base CX0 1 "_law_due" ["many", "size"] none f__law_due) (k_count_lists_folders_length_name : CalK P w K mg base CX0 6 "count_lists" ["folders", "name", "length"] ["folders", "length", "name"] [0, 2, 1] f_count_lists) (hs : ∃ o, base.get? sysModules = some o) {f : Addr} {kV doc pm cdv ct oc : Value} {an od : Option Addr} {osl : Array (Option Value)}
    (lk : K.lookup f = some ⟨oc, od, .func (PySem.W.fnOf "law" "law" (defArgs s_law) (defBody s_law) (defScope s_law) .none kV doc pm an cdv ct), osl⟩) (hcd : PySem.W.codeIn K cdv "law" = true) :
    FnG P w K mg base CX0 7 f (PySem.W.fnOf "law" "law" (defArgs s_law) (defBody s_law) (defScope s_law) .none kV doc pm an cdv ct) ["script"] (spD K mg 1 none f_law) :=
  cald0 (k := 6) lk hcd sc_law (by decide) fun A outer s H vs E F os fp hg hr _ _ _ _ => b_law G c__law_satchel c__law_names c_count_lists c__law_pluck c__law_due k_count_lists_folders_length_name hr (ok1_of sc_law.nd hg hr hs)
end
theorem all_mk {l : PySem.W.OpenLaw} {w : World} {K : PySem.W.Frag} {h : Heap} {mg : Str → Option Value} {fa f0 f1 f2 f3 f4 f5 f6 f7 f8 f9 f10 f11 f12 f13 f14 f15 : Addr} {t0 t1 t2 : Tok} (X : K.In h) (Gn : h.Ns mainGlobals mg) (hfa : mg "law" = some (.ref fa))
    {od0 an0 od1 an1 od2 an2 od3 an3 od4 an4 od5 an5 od6 an6 od7 an7 od8 an8 od9 an9 od10 an10 od11 an11 od12 an12 od13 an13 od14 an14 od15 an15 : Option Addr} {sl0 sl1 sl2 sl3 sl4 sl5 sl6 sl7 sl8 sl9 sl10 sl11 sl12 sl13 sl14 sl15 : Array (Option Value)} {oc0 kV0 dc0 pm0 cd0 ct0 oc1 kV1 dc1 pm1 cd1 ct1 oc2 kV2 dc2 pm2 cd2 ct2 oc3 kV3 dc3 pm3 cd3 ct3 oc4 kV4 dc4 pm4 cd4 ct4 oc5 kV5 dc5 pm5 cd5 ct5 oc6 kV6 dc6 pm6 cd6 ct6 oc7 kV7 dc7 pm7 cd7 ct7 oc8 kV8 dc8 pm8 cd8 ct8 oc9 kV9 dc9 pm9 cd9 ct9 oc10 kV10 dc10 pm10 cd10 ct10 oc11 kV11 dc11 pm11 cd11 ct11 oc12 kV12 dc12 pm12 cd12 ct12 oc13 kV13 dc13 pm13 cd13 ct13 oc14 kV14 dc14 pm14 cd14 ct14 oc15 kV15 dc15 pm15 cd15 ct15 : Value}
    (a0 : PySem.W.nsIn K mainGlobals "is_integer" = some (some (.ref f0))) (l0 : K.lookup f0 = some ⟨oc0, od0, .func (PySem.W.fnOf "is_integer" "is_integer" (defArgs s_is_integer) (defBody s_is_integer) (defScope s_is_integer) .none kV0 dc0 pm0 an0 cd0 ct0), sl0⟩) (c0 : PySem.W.codeIn K cd0 "is_integer" = true) (k0 : PySem.W.keepIn K (.ref f0) = true)
    (a1 : PySem.W.nsIn K mainGlobals "is_name" = some (some (.ref f1))) (l1 : K.lookup f1 = some ⟨oc1, od1, .func (PySem.W.fnOf "is_name" "is_name" (defArgs s_is_name) (defBody s_is_name) (defScope s_is_name) .none kV1 dc1 pm1 an1 cd1 ct1), sl1⟩) (c1 : PySem.W.codeIn K cd1 "is_name" = true) (k1 : PySem.W.keepIn K (.ref f1) = true)
    (a2 : PySem.W.nsIn K mainGlobals "are_different_names" = some (some (.ref f2))) (l2 : K.lookup f2 = some ⟨oc2, od2, .func (PySem.W.fnOf "are_different_names" "are_different_names" (defArgs s_are_different_names) (defBody s_are_different_names) (defScope s_are_different_names) .none kV2 dc2 pm2 an2 cd2 ct2), sl2⟩) (c2 : PySem.W.codeIn K cd2 "are_different_names" = true) (k2 : PySem.W.keepIn K (.ref f2) = true)
    (a3 : PySem.W.nsIn K mainGlobals "are_folders" = some (some (.ref f3))) (l3 : K.lookup f3 = some ⟨oc3, od3, .func (PySem.W.fnOf "are_folders" "are_folders" (defArgs s_are_folders) (defBody s_are_folders) (defScope s_are_folders) .none kV3 dc3 pm3 an3 cd3 ct3), sl3⟩) (c3 : PySem.W.codeIn K cd3 "are_folders" = true) (k3 : PySem.W.keepIn K (.ref f3) = true)
    (a4 : PySem.W.nsIn K mainGlobals "require_folders" = some (some (.ref f4))) (l4 : K.lookup f4 = some ⟨oc4, od4, .func (PySem.W.fnOf "require_folders" "require_folders" (defArgs s_require_folders) (defBody s_require_folders) (defScope s_require_folders) .none kV4 dc4 pm4 an4 cd4 ct4), sl4⟩) (c4 : PySem.W.codeIn K cd4 "require_folders" = true) (k4 : PySem.W.keepIn K (.ref f4) = true)
    (a5 : PySem.W.nsIn K mainGlobals "is_one_of" = some (some (.ref f5))) (l5 : K.lookup f5 = some ⟨oc5, od5, .func (PySem.W.fnOf "is_one_of" "is_one_of" (defArgs s_is_one_of) (defBody s_is_one_of) (defScope s_is_one_of) .none kV5 dc5 pm5 an5 cd5 ct5), sl5⟩) (c5 : PySem.W.codeIn K cd5 "is_one_of" = true) (k5 : PySem.W.keepIn K (.ref f5) = true)
    (a6 : PySem.W.nsIn K mainGlobals "require_name" = some (some (.ref f6))) (l6 : K.lookup f6 = some ⟨oc6, od6, .func (PySem.W.fnOf "require_name" "require_name" (defArgs s_require_name) (defBody s_require_name) (defScope s_require_name) .none kV6 dc6 pm6 an6 cd6 ct6), sl6⟩) (c6 : PySem.W.codeIn K cd6 "require_name" = true) (k6 : PySem.W.keepIn K (.ref f6) = true)
    (a7 : PySem.W.nsIn K mainGlobals "arrangements" = some (some (.ref f7))) (l7 : K.lookup f7 = some ⟨oc7, od7, .func (PySem.W.fnOf "arrangements" "arrangements" (defArgs s_arrangements) (defBody s_arrangements) (defScope s_arrangements) .none kV7 dc7 pm7 an7 cd7 ct7), sl7⟩) (c7 : PySem.W.codeIn K cd7 "arrangements" = true) (k7 : PySem.W.keepIn K (.ref f7) = true)
    (a8 : PySem.W.nsIn K mainGlobals "endings" = some (some (.ref f8))) (l8 : K.lookup f8 = some ⟨oc8, od8, .func (PySem.W.fnOf "endings" "endings" (defArgs s_endings) (defBody s_endings) (defScope s_endings) .none kV8 dc8 pm8 an8 cd8 ct8), sl8⟩) (c8 : PySem.W.codeIn K cd8 "endings" = true) (k8 : PySem.W.keepIn K (.ref f8) = true)
    (a9 : PySem.W.nsIn K mainGlobals "require_length" = some (some (.ref f9))) (l9 : K.lookup f9 = some ⟨oc9, od9, .func (PySem.W.fnOf "require_length" "require_length" (defArgs s_require_length) (defBody s_require_length) (defScope s_require_length) .none kV9 dc9 pm9 an9 cd9 ct9), sl9⟩) (c9 : PySem.W.codeIn K cd9 "require_length" = true) (k9 : PySem.W.keepIn K (.ref f9) = true)
    (a10 : PySem.W.nsIn K mainGlobals "count_lists" = some (some (.ref f10))) (l10 : K.lookup f10 = some ⟨oc10, od10, .func (PySem.W.fnOf "count_lists" "count_lists" (defArgs s_count_lists) (defBody s_count_lists) (defScope s_count_lists) .none kV10 dc10 pm10 an10 cd10 ct10), sl10⟩) (c10 : PySem.W.codeIn K cd10 "count_lists" = true) (k10 : PySem.W.keepIn K (.ref f10) = true)
    (a11 : PySem.W.nsIn K mainGlobals "_law_satchel" = some (some (.ref f11))) (l11 : K.lookup f11 = some ⟨oc11, od11, .func (PySem.W.fnOf "_law_satchel" "_law_satchel" (defArgs s__law_satchel) (defBody s__law_satchel) (defScope s__law_satchel) .none kV11 dc11 pm11 an11 cd11 ct11), sl11⟩) (c11 : PySem.W.codeIn K cd11 "_law_satchel" = true) (k11 : PySem.W.keepIn K (.ref f11) = true)
    (a12 : PySem.W.nsIn K mainGlobals "_law_pluck" = some (some (.ref f12))) (l12 : K.lookup f12 = some ⟨oc12, od12, .func (PySem.W.fnOf "_law_pluck" "_law_pluck" (defArgs s__law_pluck) (defBody s__law_pluck) (defScope s__law_pluck) .none kV12 dc12 pm12 an12 cd12 ct12), sl12⟩) (c12 : PySem.W.codeIn K cd12 "_law_pluck" = true) (k12 : PySem.W.keepIn K (.ref f12) = true)
    (a13 : PySem.W.nsIn K mainGlobals "_law_names" = some (some (.ref f13))) (l13 : K.lookup f13 = some ⟨oc13, od13, .func (PySem.W.fnOf "_law_names" "_law_names" (defArgs s__law_names) (defBody s__law_names) (defScope s__law_names) .none kV13 dc13 pm13 an13 cd13 ct13), sl13⟩) (c13 : PySem.W.codeIn K cd13 "_law_names" = true) (k13 : PySem.W.keepIn K (.ref f13) = true)
    (a14 : PySem.W.nsIn K mainGlobals "_law_due" = some (some (.ref f14))) (l14 : K.lookup f14 = some ⟨oc14, od14, .func (PySem.W.fnOf "_law_due" "_law_due" (defArgs s__law_due) (defBody s__law_due) (defScope s__law_due) .none kV14 dc14 pm14 an14 cd14 ct14), sl14⟩) (c14 : PySem.W.codeIn K cd14 "_law_due" = true) (k14 : PySem.W.keepIn K (.ref f14) = true)
    (a15 : PySem.W.nsIn K mainGlobals "law" = some (some (.ref f15))) (l15 : K.lookup f15 = some ⟨oc15, od15, .func (PySem.W.fnOf "law" "law" (defArgs s_law) (defBody s_law) (defScope s_law) .none kV15 dc15 pm15 an15 cd15 ct15), sl15⟩) (c15 : PySem.W.codeIn K cd15 "law" = true) (k15 : PySem.W.keepIn K (.ref f15) = true)
    (z0 : PySem.W.nsIn K mainGlobals "abs" = some none)
    (z1 : PySem.W.nsIn K mainGlobals "all" = some none)
    (z2 : PySem.W.nsIn K mainGlobals "bool" = some none)
    (z3 : PySem.W.nsIn K mainGlobals "int" = some none)
    (z4 : PySem.W.nsIn K mainGlobals "isinstance" = some none)
    (z5 : PySem.W.nsIn K mainGlobals "len" = some none)
    (z6 : PySem.W.nsIn K mainGlobals "max" = some none)
    (z7 : PySem.W.nsIn K mainGlobals "min" = some none)
    (z8 : PySem.W.nsIn K mainGlobals "range" = some none)
    (z9 : PySem.W.nsIn K mainGlobals "repr" = some none)
    (z10 : PySem.W.nsIn K mainGlobals "set" = some none)
    (z11 : PySem.W.nsIn K mainGlobals "sorted" = some none)
    (z12 : PySem.W.nsIn K mainGlobals "str" = some none)
    (z13 : PySem.W.nsIn K mainGlobals "tuple" = some none)
    (y0 : PySem.W.nsIn K mainGlobals "LETTERS" = some (some (.str "abcdefghijklmnopqrstuvwxyz" t0)))
    (y1 : PySem.W.nsIn K mainGlobals "MOST_FOLDERS" = some (some (.int 20 t1)))
    (y2 : PySem.W.nsIn K mainGlobals "MOST_LETTERS" = some (some (.int 8 t2))) :
    ∃ fd : FuncData, (∀ (s : Shared) (v : Value), BindsTo s fd ⟨[v], []⟩ [("script", v)]) ∧ ∀ base : Heap, K.In base → base.Ns mainGlobals mg → (∃ o, base.get? sysModules = some o) → FnG l.prog w K mg base CX0 7 fa fd ["script"] (spD K mg 1 none f_law) := by
  have e := hfa.symm.trans (PySem.W.mg_of X Gn a15)
  cases e
  have G : Glb mg := ⟨PySem.W.mg_none_of X Gn z0, PySem.W.mg_none_of X Gn z1, PySem.W.mg_none_of X Gn z2, PySem.W.mg_none_of X Gn z3, PySem.W.mg_none_of X Gn z4, PySem.W.mg_none_of X Gn z5, PySem.W.mg_none_of X Gn z6, PySem.W.mg_none_of X Gn z7, PySem.W.mg_none_of X Gn z8, PySem.W.mg_none_of X Gn z9, PySem.W.mg_none_of X Gn z10, PySem.W.mg_none_of X Gn z11, PySem.W.mg_none_of X Gn z12, PySem.W.mg_none_of X Gn z13, ⟨_, PySem.W.mg_of X Gn y0⟩, ⟨_, PySem.W.mg_of X Gn y1⟩, ⟨_, PySem.W.mg_of X Gn y2⟩⟩
  refine ⟨PySem.W.fnOf "law" "law" (defArgs s_law) (defBody s_law) (defScope s_law) .none kV15 dc15 pm15 an15 cd15 ct15, fun s v => .of_eq rfl, fun base hb hn hs => ?_⟩
  have F0 := g_is_integer (P := l.prog) (w := w) (base := base) G hs l0 c0
  have c_is_integer : CalD l.prog w K mg base CX0 1 "is_integer" ["value", "low", "high"] none f_is_integer := ⟨f0, _, F0, PySem.W.mg_of X Gn a0, k0, .all fun us hl => match us, hl with | [_, _, _], _ => rfl⟩
  have F1 := g_is_name (P := l.prog) (w := w) (base := base) G hs l1 c1
  have c_is_name : CalD l.prog w K mg base CX0 1 "is_name" ["value"] none f_is_name := ⟨f1, _, F1, PySem.W.mg_of X Gn a1, k1, .all fun us hl => match us, hl with | [_], _ => rfl⟩
  have F2 := g_are_different_names (P := l.prog) (w := w) (base := base) G c_is_name hs l2 c2
  have c_are_different_names : CalD l.prog w K mg base CX0 2 "are_different_names" ["value"] none f_are_different_names := ⟨f2, _, F2, PySem.W.mg_of X Gn a2, k2, .all fun us hl => match us, hl with | [_], _ => rfl⟩
  have F3 := g_are_folders (P := l.prog) (w := w) (base := base) G c_are_different_names hs l3 c3
  have c_are_folders : CalD l.prog w K mg base CX0 3 "are_folders" ["value"] none f_are_folders := ⟨f3, _, F3, PySem.W.mg_of X Gn a3, k3, .all fun us hl => match us, hl with | [_], _ => rfl⟩
  have F4 := g_require_folders (P := l.prog) (w := w) (base := base) G c_are_folders hs l4 c4
  have c_require_folders : CalD l.prog w K mg base CX0 4 "require_folders" ["value"] none f_require_folders := ⟨f4, _, F4, PySem.W.mg_of X Gn a4, k4, .all fun us hl => match us, hl with | [_], _ => rfl⟩
  have F5 := g_is_one_of (P := l.prog) (w := w) (base := base) G c_is_name hs l5 c5
  have c_is_one_of : CalD l.prog w K mg base CX0 2 "is_one_of" ["names", "value"] none f_is_one_of := ⟨f5, _, F5, PySem.W.mg_of X Gn a5, k5, .all fun us hl => match us, hl with | [_, _], _ => rfl⟩
  have F6 := g_require_name (P := l.prog) (w := w) (base := base) G c_is_one_of hs l6 c6
  have c_require_name : CalD l.prog w K mg base CX0 3 "require_name" ["names", "value"] none f_require_name := ⟨f6, _, F6, PySem.W.mg_of X Gn a6, k6, .all fun us hl => match us, hl with | [_, _], _ => rfl⟩
  have F7 := g_arrangements (P := l.prog) (w := w) (base := base) G hs l7 c7
  have c_arrangements : CalD l.prog w K mg base CX0 1 "arrangements" ["many", "places"] none f_arrangements := ⟨f7, _, F7, PySem.W.mg_of X Gn a7, k7, .all fun us hl => match us, hl with | [_, _], _ => rfl⟩
  have F8 := g_endings (P := l.prog) (w := w) (base := base) G c_arrangements hs l8 c8
  have c_endings : CalD l.prog w K mg base CX0 2 "endings" ["others", "places", "is_there"] none f_endings := ⟨f8, _, F8, PySem.W.mg_of X Gn a8, k8, .all fun us hl => match us, hl with | [_, _, _], _ => rfl⟩
  have F9 := g_require_length (P := l.prog) (w := w) (base := base) G c_require_folders c_require_name c_is_integer hs l9 c9
  have c_require_length : CalD l.prog w K mg base CX0 5 "require_length" ["folders", "name", "length"] none f_require_length := ⟨f9, _, F9, PySem.W.mg_of X Gn a9, k9, .all fun us hl => match us, hl with | [_, _, _], _ => rfl⟩
  have F10 := g_count_lists (P := l.prog) (w := w) (base := base) G c_require_length c_endings hs l10 c10
  have c_count_lists : CalD l.prog w K mg base CX0 6 "count_lists" ["folders", "name", "length"] none f_count_lists := ⟨f10, _, F10, PySem.W.mg_of X Gn a10, k10, .all fun us hl => match us, hl with | [_, _, _], _ => rfl⟩
  have k_count_lists_folders_length_name : CalK l.prog w K mg base CX0 6 "count_lists" ["folders", "name", "length"] ["folders", "length", "name"] [0, 2, 1] f_count_lists := ⟨f10, _, F10, PySem.W.mg_of X Gn a10, k10, fun s ws hl => .of_eq (match ws, hl with | [_, _, _], _ => rfl)⟩
  have F11 := g__law_satchel (P := l.prog) (w := w) (base := base) G hs l11 c11
  have c__law_satchel : CalD l.prog w K mg base CX0 1 "_law_satchel" ["script", "k"] none f__law_satchel := ⟨f11, _, F11, PySem.W.mg_of X Gn a11, k11, .all fun us hl => match us, hl with | [_, _], _ => rfl⟩
  have F12 := g__law_pluck (P := l.prog) (w := w) (base := base) G hs l12 c12
  have c__law_pluck : CalD l.prog w K mg base CX0 1 "_law_pluck" ["satchel", "many"] (some 0) f__law_pluck := ⟨f12, _, F12, PySem.W.mg_of X Gn a12, k12, .all fun us hl => match us, hl with | [_, _], _ => rfl⟩
  have F13 := g__law_names (P := l.prog) (w := w) (base := base) G c__law_pluck hs l13 c13
  have c__law_names : CalD l.prog w K mg base CX0 2 "_law_names" ["satchel", "many"] (some 0) f__law_names := ⟨f13, _, F13, PySem.W.mg_of X Gn a13, k13, .all fun us hl => match us, hl with | [_, _], _ => rfl⟩
  have F14 := g__law_due (P := l.prog) (w := w) (base := base) G hs l14 c14
  have c__law_due : CalD l.prog w K mg base CX0 1 "_law_due" ["many", "size"] none f__law_due := ⟨f14, _, F14, PySem.W.mg_of X Gn a14, k14, .all fun us hl => match us, hl with | [_, _], _ => rfl⟩
  have F15 := g_law (P := l.prog) (w := w) (base := base) G c__law_satchel c__law_names c_count_lists c__law_pluck c__law_due k_count_lists_folders_length_name hs l15 c15
  exact F15
end LW

set_option Elab.async false
set_option linter.all false
set_option autoImplicit false
set_option maxRecDepth 100000
set_option maxHeartbeats 1000000
namespace LW
open PySem PySem.Spec PyProof.Rows L2 DL
theorem fw_ok {a : OD} {l : List OD} {Q : OD → List OD → Prop} {Qx : Xn → List OD → Prop} : FWp (some (.ok a, l)) Q Qx ↔ Q a l := Iff.rfl

theorem v_is_integer (n lo hi : Int) : f_is_integer [.d (.int n), .d (.int lo), .d (.int hi)] = some (.ok (.d (.bool (decide (lo ≤ n) && decide (n ≤ hi)))), []) := by
  rw [← fw_eq]
  unfold f_is_integer
  rw [fw_sem]
  unfold m_is_integer
  simp only [w_bind, w_ret, w_ok, w_seq, w_if, w_ifE, w_test, w_and, w_or, w_not, w_andV, w_orV, w_notV, w_do, w_rt, w_asg, w_C, w_var, w_args0, w_args1, w_plc, w_own, w_val, w_prim, w_list, w_tup, w_call, w_callIo, w_callK, w_chain, w_for, w_items, w_rng, w_lc, w_meth1, w_setL2, w_stores, w_aug, mNx, mRetN, startE, rds, HE.rd, sh1, sh2, dp1, dp2, gAdd, DL.gSub, gLt, gLe, gGt, gGe, gOrd, gEq, gNe, gIsI, gLen, gIx, dat, gMax2, gMin2, gAbs, gNeg, gAddI, gTupOf, gListOf, gIsN, DL.is_int, DL.is_bool, DL.is_str, DL.is_tuple, DL.is_list, OD.erase, OD.noS, noSL, OD.shallow, OD.isD, OD.still, allStill, boolOf, aName, outs, wipeE, isL, DL.intAt, DL.putAll, allO, allD, itemsOf, rngA, rngB, List.getElem?_cons_zero, List.getElem?_cons_succ, List.set_cons_zero, List.set_cons_succ, List.length_cons, List.length_nil, List.map_cons, List.map_nil, List.cons_append, List.nil_append, List.replicate_succ, List.replicate_zero, List.all_cons, List.all_nil, List.eraseIdx_cons_zero, List.eraseIdx_cons_succ, List.drop_succ_cons, List.drop_zero, List.filterMap_cons, List.filterMap_nil, Option.some.injEq, exists_eq_left', exists_eq_left, Option.join_some, if_true, if_false, true_and, and_true, Bool.true_and, Bool.and_true, Bool.not_true, Bool.not_false, reduceCtorEq, false_and, exists_false, Bool.false_eq_true, OD.d.injEq, OD.l.injEq, HE.o.injEq, PyData.bool.injEq, PyData.int.injEq, PyData.str.injEq, ite_true, ite_false, Nat.reduceSub, Nat.reduceAdd, Nat.reduceLT, Bool.and_self, Bool.or_true, Bool.true_or, Bool.or_false, Bool.false_or, Bool.false_and, Bool.and_false]
  by_cases h : lo ≤ n <;> simp [h]
def prodI (m : Int) : Nat → Int
  | 0 => 1
  | p + 1 => prodI m p * (m - p)
theorem rng_at {lo hi : Int} {j : Nat} {d : PyData} (h : (rngOf lo hi)[j]? = some d) : (j : Int) < hi - lo ∧ d = .int (lo + j) := by
  obtain ⟨a, b⟩ := rng_int h
  exact ⟨by omega, b⟩
theorem rng_len {lo hi : Int} : (rngOf lo hi).length = (hi - lo).toNat := by simp [rngOf]
theorem gMulI_ok {x y : Int} (h : x.natAbs < 2 ^ 64 ∨ y.natAbs < 2 ^ 64) : gMulI (.int x) (.int y) = some (.d (.int (x * y))) := by simp only [gMulI, if_pos h]
theorem v_arrangements (m : Int) (p : Nat) (hm : m.natAbs < 10 ^ 9) (hp : p < 10 ^ 9) : f_arrangements [.d (.int m), .d (.int p)] = some (.ok (.d (.int (prodI m p))), []) := by
  rw [← fw_eq]
  unfold f_arrangements
  rw [fw_sem]
  unfold m_arrangements
  simp only [w_bind, w_ret, w_ok, w_seq, w_if, w_ifE, w_test, w_and, w_or, w_not, w_andV, w_orV, w_notV, w_do, w_rt, w_asg, w_C, w_var, w_args0, w_args1, w_plc, w_own, w_val, w_prim, w_list, w_tup, w_call, w_callIo, w_callK, w_chain, w_for, w_items, w_rng, w_lc, w_meth1, w_setL2, w_stores, w_aug, mNx, mRetN, startE, rds, HE.rd, sh1, sh2, dp1, dp2, gAdd, DL.gSub, gLt, gLe, gGt, gGe, gOrd, gEq, gNe, gIsI, gLen, gIx, dat, gMax2, gMin2, gAbs, gNeg, gAddI, gTupOf, gListOf, gIsN, DL.is_int, DL.is_bool, DL.is_str, DL.is_tuple, DL.is_list, OD.erase, OD.noS, noSL, OD.shallow, OD.isD, OD.still, allStill, boolOf, aName, outs, wipeE, isL, DL.intAt, DL.putAll, allO, allD, itemsOf, rngA, rngB, List.getElem?_cons_zero, List.getElem?_cons_succ, List.set_cons_zero, List.set_cons_succ, List.length_cons, List.length_nil, List.map_cons, List.map_nil, List.cons_append, List.nil_append, List.replicate_succ, List.replicate_zero, List.all_cons, List.all_nil, List.eraseIdx_cons_zero, List.eraseIdx_cons_succ, List.drop_succ_cons, List.drop_zero, List.filterMap_cons, List.filterMap_nil, Option.some.injEq, exists_eq_left', exists_eq_left, Option.join_some, if_true, if_false, true_and, and_true, Bool.true_and, Bool.and_true, Bool.not_true, Bool.not_false, reduceCtorEq, false_and, exists_false, Bool.false_eq_true, OD.d.injEq, OD.l.injEq, HE.o.injEq, PyData.bool.injEq, PyData.int.injEq, PyData.str.injEq, ite_true, ite_false, Nat.reduceSub, Nat.reduceAdd, Nat.reduceLT, Bool.and_self, Bool.or_true, Bool.true_or, Bool.or_false, Bool.false_or, Bool.false_and, Bool.and_false]
  refine ⟨rngOf 0 p, by simp [smallB]; omega, each_by (fun k e => ∃ x, e = [some (.d (.int m)), some (.d (.int p)), some (.d (.int (prodI m k))), x]) 0 ⟨_, rfl⟩ ?_ ?_⟩
  · rintro j d e hj ⟨x, rfl⟩
    obtain ⟨hj, rfl⟩ := rng_at hj
    have hz : (m - (0 + (j : Int))).natAbs < 2 ^ 64 := by omega
    simp only [w_bind, w_ret, w_ok, w_seq, w_if, w_ifE, w_test, w_and, w_or, w_not, w_andV, w_orV, w_notV, w_do, w_rt, w_asg, w_C, w_var, w_args0, w_args1, w_plc, w_own, w_val, w_prim, w_list, w_tup, w_call, w_callIo, w_callK, w_chain, w_for, w_items, w_rng, w_lc, w_meth1, w_setL2, w_stores, w_aug, mNx, mRetN, startE, rds, HE.rd, sh1, sh2, dp1, dp2, gAdd, DL.gSub, gLt, gLe, gGt, gGe, gOrd, gEq, gNe, gIsI, gLen, gIx, dat, gMax2, gMin2, gAbs, gNeg, gAddI, gTupOf, gListOf, gIsN, DL.is_int, DL.is_bool, DL.is_str, DL.is_tuple, DL.is_list, OD.erase, OD.noS, noSL, OD.shallow, OD.isD, OD.still, allStill, boolOf, aName, outs, wipeE, isL, DL.intAt, DL.putAll, allO, allD, itemsOf, rngA, rngB, List.getElem?_cons_zero, List.getElem?_cons_succ, List.set_cons_zero, List.set_cons_succ, List.length_cons, List.length_nil, List.map_cons, List.map_nil, List.cons_append, List.nil_append, List.replicate_succ, List.replicate_zero, List.all_cons, List.all_nil, List.eraseIdx_cons_zero, List.eraseIdx_cons_succ, List.drop_succ_cons, List.drop_zero, List.filterMap_cons, List.filterMap_nil, Option.some.injEq, exists_eq_left', exists_eq_left, Option.join_some, if_true, if_false, true_and, and_true, Bool.true_and, Bool.and_true, Bool.not_true, Bool.not_false, reduceCtorEq, false_and, exists_false, Bool.false_eq_true, OD.d.injEq, OD.l.injEq, HE.o.injEq, PyData.bool.injEq, PyData.int.injEq, PyData.str.injEq, ite_true, ite_false, Nat.reduceSub, Nat.reduceAdd, Nat.reduceLT, Bool.and_self, Bool.or_true, Bool.true_or, Bool.or_false, Bool.false_or, Bool.false_and, Bool.and_false, gMulI_ok (x := prodI m (0 + j)) (.inr hz)]
    refine ⟨some (.d (.int (0 + j))), ?_⟩
    rw [show 0 + j + 1 = j + 1 by omega, show 0 + j = j by omega]
    simp [prodI]
  · rintro e ⟨x, rfl⟩
    rw [rng_len]
    simp only [w_bind, w_ret, w_ok, w_seq, w_if, w_ifE, w_test, w_and, w_or, w_not, w_andV, w_orV, w_notV, w_do, w_rt, w_asg, w_C, w_var, w_args0, w_args1, w_plc, w_own, w_val, w_prim, w_list, w_tup, w_call, w_callIo, w_callK, w_chain, w_for, w_items, w_rng, w_lc, w_meth1, w_setL2, w_stores, w_aug, mNx, mRetN, startE, rds, HE.rd, sh1, sh2, dp1, dp2, gAdd, DL.gSub, gLt, gLe, gGt, gGe, gOrd, gEq, gNe, gIsI, gLen, gIx, dat, gMax2, gMin2, gAbs, gNeg, gAddI, gTupOf, gListOf, gIsN, DL.is_int, DL.is_bool, DL.is_str, DL.is_tuple, DL.is_list, OD.erase, OD.noS, noSL, OD.shallow, OD.isD, OD.still, allStill, boolOf, aName, outs, wipeE, isL, DL.intAt, DL.putAll, allO, allD, itemsOf, rngA, rngB, List.getElem?_cons_zero, List.getElem?_cons_succ, List.set_cons_zero, List.set_cons_succ, List.length_cons, List.length_nil, List.map_cons, List.map_nil, List.cons_append, List.nil_append, List.replicate_succ, List.replicate_zero, List.all_cons, List.all_nil, List.eraseIdx_cons_zero, List.eraseIdx_cons_succ, List.drop_succ_cons, List.drop_zero, List.filterMap_cons, List.filterMap_nil, Option.some.injEq, exists_eq_left', exists_eq_left, Option.join_some, if_true, if_false, true_and, and_true, Bool.true_and, Bool.and_true, Bool.not_true, Bool.not_false, reduceCtorEq, false_and, exists_false, Bool.false_eq_true, OD.d.injEq, OD.l.injEq, HE.o.injEq, PyData.bool.injEq, PyData.int.injEq, PyData.str.injEq, ite_true, ite_false, Nat.reduceSub, Nat.reduceAdd, Nat.reduceLT, Bool.and_self, Bool.or_true, Bool.true_or, Bool.or_false, Bool.false_or, Bool.false_and, Bool.and_false]
    simp
/-- the state of the draws -/
def Sat (M : Nat) (a b c : Int) : Prop := 0 ≤ a ∧ 0 ≤ b ∧ b < 2 ^ 200 ∧ 0 ≤ c ∧ c ≤ M
theorem gMod_pos {x n : Int} (h : 0 < n) : gMod (.int x) (.int n) = some (.d (.int (x % n))) := by simp [gMod, h]
theorem gFdiv_pos {x n : Int} (h : 0 < n) (h2 : n.natAbs < 2 ^ 250) : gFdiv (.int x) (.int n) = some (.d (.int (x / n))) := by
  unfold gFdiv
  have : n.natAbs.log2 < 9000 := by
    by_cases h0 : n.natAbs = 0
    · rw [h0]; decide
    · have := (Nat.log2_lt h0).mpr h2
      exact Nat.lt_trans this (by decide)
  simp [h, this]
theorem lt_big {n : Nat} (h : n < 2 ^ 250) : n < 2 ^ 1000 := Nat.lt_of_lt_of_le h (Nat.pow_le_pow_right (by decide) (by decide))
theorem gPow_3 {x : Int} (h : x.natAbs < 2 ^ 1000) : gPow (.int x) (.int 3) = some (.d (.int (x ^ 3))) := by
  show (if 0 ≤ (3 : Int) ∧ (3 : Int) ≤ 100 ∧ x.natAbs < 2 ^ 1000 then some (OD.d (.int (x ^ (3 : Int).toNat))) else none) = _
  rw [if_pos ⟨by decide, by decide, h⟩]
  rfl
theorem gMul_l {x y : Int} (h : x.natAbs < 2 ^ 64) : gMul (.int x) (.int y) = some (.d (.int (x * y))) := by
  unfold gMul mulOk
  simp [h]
theorem gMul_r {x y : Int} (h : y.natAbs < 2 ^ 64) : gMul (.int x) (.int y) = some (.d (.int (x * y))) := by
  unfold gMul mulOk
  simp [h]
def Plk (n b : Int) (M : Nat) (o : OD) (l : List OD) : Prop := ∃ r a' c' : Int, o = .d (.int r) ∧ l = [.l [.d (.int a'), .d (.int b), .d (.int c')]] ∧ 0 ≤ r ∧ r < n ∧ Sat (M + 1) a' b c'
theorem v_pluck (a b c n : Int) (M : Nat) (h : Sat M a b c) (hM : M ≤ 1000000) (hn : 0 < n) (hn2 : n ≤ 1000) : FWp (f__law_pluck [.l [.d (.int a), .d (.int b), .d (.int c)], .d (.int n)]) (Plk n b M) (fun _ _ => False) := by
  unfold f__law_pluck
  rw [fw_sem]
  unfold m__law_pluck
  have i0 : ∀ x y z : Int, atI [OD.d (.int x), OD.d (.int y), OD.d (.int z)] 0 = some (.d (.int x)) := fun _ _ _ => rfl
  have i1 : ∀ x y z : Int, atI [OD.d (.int x), OD.d (.int y), OD.d (.int z)] 1 = some (.d (.int y)) := fun _ _ _ => rfl
  have i2 : ∀ x y z : Int, atI [OD.d (.int x), OD.d (.int y), OD.d (.int z)] 2 = some (.d (.int z)) := fun _ _ _ => rfl
  have j0 : ixN 3 0 = some 0 := rfl
  have j2 : ixN 3 2 = some 2 := rfl
  obtain ⟨h1, h2, h3, h4, h5⟩ := h
  have e1 : (10 : Int) ^ 40 + 121 < 2 ^ 200 := by decide
  have g1 : ∀ x : Int, gMul (.int 295075147) (.int x) = some (.d (.int (295075147 * x))) := fun x => gMul_l (by decide)
  have g2 : ∀ x : Int, gMul (.int 198491317) (.int x) = some (.d (.int (198491317 * x))) := fun x => gMul_l (by decide)
  have f1 : ∀ x : Int, gFdiv (.int x) (.int n) = some (.d (.int (x / n))) := fun x => gFdiv_pos hn (Nat.lt_of_le_of_lt (show n.natAbs ≤ 1000 by omega) (by decide +kernel))
  have f2 : ∀ x : Int, gFdiv (.int x) (.int 77773) = some (.d (.int (x / 77773))) := fun x => gFdiv_pos (by decide) (by decide)
  have d1 : ∀ x : Int, gMod (.int x) (.int n) = some (.d (.int (x % n))) := fun x => gMod_pos hn
  have d2 : ∀ x : Int, gMod (.int x) (.int (10 ^ 40 + 121)) = some (.d (.int (x % (10 ^ 40 + 121)))) := fun x => gMod_pos (by decide)
  have d3 : ∀ x : Int, gMod (.int x) (.int (10 ^ 39 + 3)) = some (.d (.int (x % (10 ^ 39 + 3)))) := fun x => gMod_pos (by decide)
  have p1 : gPow (.int 10) (.int 40) = some (.d (.int (10 ^ 40))) := by rfl
  have p2 : gPow (.int 10) (.int 39) = some (.d (.int (10 ^ 39))) := by rfl
  have p3 : gPow (.int (b + 295075147 * (c + 1))) (.int 3) = some (.d (.int ((b + 295075147 * (c + 1)) ^ 3))) := gPow_3 (lt_big (by omega))
  have m0 : 0 ≤ (b + 295075147 * (c + 1)) ^ 3 % ((10 : Int) ^ 40 + 121) := Int.emod_nonneg _ (by decide)
  have m1 : (b + 295075147 * (c + 1)) ^ 3 % ((10 : Int) ^ 40 + 121) < 10 ^ 40 + 121 := Int.emod_lt_of_pos _ (by decide)
  have p4 : gPow (.int ((b + 295075147 * (c + 1)) ^ 3 % (10 ^ 40 + 121) + 198491317 * (c + 1))) (.int 3) = some (.d (.int (((b + 295075147 * (c + 1)) ^ 3 % (10 ^ 40 + 121) + 198491317 * (c + 1)) ^ 3))) := gPow_3 (lt_big <| by
    generalize (b + 295075147 * (c + 1)) ^ 3 % ((10 : Int) ^ 40 + 121) = z at m0 m1
    omega)
  simp (config := { maxSteps := 1000000 }) only [w_bind, w_ret, w_ok, w_seq, w_if, w_ifE, w_test, w_and, w_or, w_not, w_andV, w_orV, w_notV, w_do, w_rt, w_asg, w_C, w_var, w_args0, w_args1, w_plc, w_own, w_val, w_prim, w_list, w_tup, w_call, w_callIo, w_callK, w_chain, w_for, w_items, w_rng, w_lc, w_meth1, w_setL2, w_stores, w_aug, mNx, mRetN, startE, rds, HE.rd, sh1, sh2, dp1, dp2, gAdd, DL.gSub, gLt, gLe, gGt, gGe, gOrd, gEq, gNe, gIsI, gLen, gIx, dat, gMax2, gMin2, gAbs, gNeg, gAddI, gTupOf, gListOf, gIsN, DL.is_int, DL.is_bool, DL.is_str, DL.is_tuple, DL.is_list, OD.erase, OD.noS, noSL, OD.shallow, OD.isD, OD.still, allStill, boolOf, aName, outs, wipeE, isL, DL.intAt, DL.putAll, allO, allD, itemsOf, rngA, rngB, List.getElem?_cons_zero, List.getElem?_cons_succ, List.set_cons_zero, List.set_cons_succ, List.length_cons, List.length_nil, List.map_cons, List.map_nil, List.cons_append, List.nil_append, List.replicate_succ, List.replicate_zero, List.all_cons, List.all_nil, List.eraseIdx_cons_zero, List.eraseIdx_cons_succ, List.drop_succ_cons, List.drop_zero, List.filterMap_cons, List.filterMap_nil, Option.some.injEq, exists_eq_left', exists_eq_left, Option.join_some, if_true, if_false, true_and, and_true, Bool.true_and, Bool.and_true, Bool.not_true, Bool.not_false, reduceCtorEq, false_and, exists_false, Bool.false_eq_true, OD.d.injEq, OD.l.injEq, HE.o.injEq, PyData.bool.injEq, PyData.int.injEq, PyData.str.injEq, ite_true, ite_false, Nat.reduceSub, Nat.reduceAdd, Nat.reduceLT, Bool.and_self, Bool.or_true, Bool.true_or, Bool.or_false, Bool.false_or, Bool.false_and, Bool.and_false, i0, i1, i2, Option.bind_some, j0, j2, g1, g2, f1, f2, d1, d2, d3, p1, p2, p3, p4]
  by_cases ha : 0 < a
  · simp only [ha, decide_true, if_true]
    exact ⟨_, _, _, rfl, rfl, Int.emod_nonneg _ (by omega), Int.emod_lt_of_pos _ hn, Int.ediv_nonneg h1 (by omega), h2, h3, h4, by omega⟩
  · simp only [ha, decide_false, Bool.false_eq_true, if_false]
    exact ⟨_, _, _, rfl, rfl, Int.emod_nonneg _ (by omega), Int.emod_lt_of_pos _ hn, h1, h2, h3, by omega, by omega⟩
end LW

set_option Elab.async false
set_option linter.all false
set_option autoImplicit false
set_option maxRecDepth 100000
set_option maxHeartbeats 1000000
namespace LW
open PySem PySem.Spec PyProof.Rows L2 DL

/-- a valid name -/
def nameOk (x : Str) : Prop := 1 ≤ x.length ∧ x.length ≤ 8 ∧ ∀ c ∈ x.cps.toList, 97 ≤ c ∧ c < 97 + 26
theorem in_letters : ∀ k < 26, strIn ⟨#[97 + k]⟩ "abcdefghijklmnopqrstuvwxyz" = true := by decide +kernel
theorem letter_in {c : Nat} (h : 97 ≤ c ∧ c < 97 + 26) : strIn ⟨#[c]⟩ "abcdefghijklmnopqrstuvwxyz" = true := by
  have := in_letters (c - 97) (by omega)
  rw [show 97 + (c - 97) = c by omega] at this
  exact this
theorem bools_rep (n : Nat) : bools (List.replicate n (.bool true)) = some (List.replicate n true) := by
  induction n with
  | zero => rfl
  | succ n ih => simp [List.replicate_succ, bools, ih]
theorem isd_rep (n : Nat) : (List.replicate n (OD.d (.bool true))).all OD.isD = true := by
  induction n with
  | zero => rfl
  | succ n ih => simp [List.replicate_succ, ih, OD.isD]
theorem er_rep (n : Nat) : (List.replicate n (OD.d (.bool true))).map OD.erase = List.replicate n (.bool true) := by simp [OD.erase]
theorem v_is_name {x : Str} (h : nameOk x) : f_is_name [.d (.str x)] = some (.ok (.d (.bool true)), []) := by
  obtain ⟨h1, h2, h3⟩ := h
  rw [← fw_eq]
  unfold f_is_name
  rw [fw_sem]
  unfold m_is_name
  have a1 : decide ((1 : Int) ≤ (x.length : Int)) = true := by simp; omega
  have a2 : decide ((x.length : Int) ≤ (8 : Int)) = true := by simp; omega
  have hz : (chars x).length ≤ sizeLine := by
    have : (chars x).length = x.length := by simp [chars, Str.length]
    rw [this]
    exact Nat.le_trans h2 (by decide)
  simp only [w_bind, w_ret, w_ok, w_seq, w_if, w_ifE, w_test, w_and, w_or, w_not, w_andV, w_orV, w_notV, w_do, w_rt, w_asg, w_C, w_var, w_args0, w_args1, w_plc, w_own, w_val, w_prim, w_list, w_tup, w_call, w_callIo, w_callK, w_chain, w_for, w_items, w_rng, w_lc, w_meth1, w_setL2, w_stores, w_aug, mNx, mRetN, startE, rds, HE.rd, sh1, sh2, dp1, dp2, gAdd, DL.gSub, gLt, gLe, gGt, gGe, gOrd, gEq, gNe, gIsI, gLen, gIx, dat, gMax2, gMin2, gAbs, gNeg, gAddI, gTupOf, gListOf, gIsN, DL.is_int, DL.is_bool, DL.is_str, DL.is_tuple, DL.is_list, OD.erase, OD.noS, noSL, OD.shallow, OD.isD, OD.still, allStill, boolOf, aName, outs, wipeE, isL, DL.intAt, DL.putAll, allO, allD, itemsOf, rngA, rngB, List.getElem?_cons_zero, List.getElem?_cons_succ, List.set_cons_zero, List.set_cons_succ, List.length_cons, List.length_nil, List.map_cons, List.map_nil, List.cons_append, List.nil_append, List.replicate_succ, List.replicate_zero, List.all_cons, List.all_nil, List.eraseIdx_cons_zero, List.eraseIdx_cons_succ, List.drop_succ_cons, List.drop_zero, List.filterMap_cons, List.filterMap_nil, Option.some.injEq, exists_eq_left', exists_eq_left, exists_eq', exists_eq, Option.join_some, if_true, if_false, true_and, and_true, Bool.true_and, Bool.and_true, Bool.not_true, Bool.not_false, reduceCtorEq, false_and, exists_false, Bool.false_eq_true, OD.d.injEq, OD.l.injEq, HE.o.injEq, PyData.bool.injEq, PyData.int.injEq, PyData.str.injEq, ite_true, ite_false, Nat.reduceSub, Nat.reduceAdd, Nat.reduceLT, Bool.and_self, Bool.or_true, Bool.true_or, Bool.or_false, Bool.false_or, Bool.false_and, Bool.and_false, a1, a2, hz]
  refine map_by (fun k acc e => acc = List.replicate k (.d (.bool true)) ∧ ∃ y, e = [some (.d (.str x)), y]) 0 ⟨rfl, _, rfl⟩ ?_ ?_
  · rintro j d acc e hj ⟨rfl, y, rfl⟩
    obtain ⟨c, hc, rfl⟩ : ∃ c, x.cps.toList[j]? = some c ∧ d = .str ⟨#[c]⟩ := by
      simp only [chars, List.getElem?_map, Option.map_eq_some_iff] at hj
      obtain ⟨c, q, rfl⟩ := hj
      exact ⟨c, q, rfl⟩
    have hin := letter_in (h3 c (List.mem_of_getElem? hc))
    simp only [w_bind, w_ret, w_ok, w_seq, w_if, w_ifE, w_test, w_and, w_or, w_not, w_andV, w_orV, w_notV, w_do, w_rt, w_asg, w_C, w_var, w_args0, w_args1, w_plc, w_own, w_val, w_prim, w_list, w_tup, w_call, w_callIo, w_callK, w_chain, w_for, w_items, w_rng, w_lc, w_meth1, w_setL2, w_stores, w_aug, mNx, mRetN, startE, rds, HE.rd, sh1, sh2, dp1, dp2, gAdd, DL.gSub, gLt, gLe, gGt, gGe, gOrd, gEq, gNe, gIsI, gLen, gIx, dat, gMax2, gMin2, gAbs, gNeg, gAddI, gTupOf, gListOf, gIsN, DL.is_int, DL.is_bool, DL.is_str, DL.is_tuple, DL.is_list, OD.erase, OD.noS, noSL, OD.shallow, OD.isD, OD.still, allStill, boolOf, aName, outs, wipeE, isL, DL.intAt, DL.putAll, allO, allD, itemsOf, rngA, rngB, List.getElem?_cons_zero, List.getElem?_cons_succ, List.set_cons_zero, List.set_cons_succ, List.length_cons, List.length_nil, List.map_cons, List.map_nil, List.cons_append, List.nil_append, List.replicate_succ, List.replicate_zero, List.all_cons, List.all_nil, List.eraseIdx_cons_zero, List.eraseIdx_cons_succ, List.drop_succ_cons, List.drop_zero, List.filterMap_cons, List.filterMap_nil, Option.some.injEq, exists_eq_left', exists_eq_left, exists_eq', exists_eq, Option.join_some, if_true, if_false, true_and, and_true, Bool.true_and, Bool.and_true, Bool.not_true, Bool.not_false, reduceCtorEq, false_and, exists_false, Bool.false_eq_true, OD.d.injEq, OD.l.injEq, HE.o.injEq, PyData.bool.injEq, PyData.int.injEq, PyData.str.injEq, ite_true, ite_false, Nat.reduceSub, Nat.reduceAdd, Nat.reduceLT, Bool.and_self, Bool.or_true, Bool.true_or, Bool.or_false, Bool.false_or, Bool.false_and, Bool.and_false, gInB, hin]
    rw [← List.replicate_succ', List.replicate_succ]
    exact ⟨rfl, _, rfl⟩
  · rintro acc e ⟨rfl, y, rfl⟩
    simp only [w_bind, w_ret, w_ok, w_seq, w_if, w_ifE, w_test, w_and, w_or, w_not, w_andV, w_orV, w_notV, w_do, w_rt, w_asg, w_C, w_var, w_args0, w_args1, w_plc, w_own, w_val, w_prim, w_list, w_tup, w_call, w_callIo, w_callK, w_chain, w_for, w_items, w_rng, w_lc, w_meth1, w_setL2, w_stores, w_aug, mNx, mRetN, startE, rds, HE.rd, sh1, sh2, dp1, dp2, gAdd, DL.gSub, gLt, gLe, gGt, gGe, gOrd, gEq, gNe, gIsI, gLen, gIx, dat, gMax2, gMin2, gAbs, gNeg, gAddI, gTupOf, gListOf, gIsN, DL.is_int, DL.is_bool, DL.is_str, DL.is_tuple, DL.is_list, OD.erase, OD.noS, noSL, OD.shallow, OD.isD, OD.still, allStill, boolOf, aName, outs, wipeE, isL, DL.intAt, DL.putAll, allO, allD, itemsOf, rngA, rngB, List.getElem?_cons_zero, List.getElem?_cons_succ, List.set_cons_zero, List.set_cons_succ, List.length_cons, List.length_nil, List.map_cons, List.map_nil, List.cons_append, List.nil_append, List.replicate_succ, List.replicate_zero, List.all_cons, List.all_nil, List.eraseIdx_cons_zero, List.eraseIdx_cons_succ, List.drop_succ_cons, List.drop_zero, List.filterMap_cons, List.filterMap_nil, Option.some.injEq, exists_eq_left', exists_eq_left, exists_eq', exists_eq, Option.join_some, if_true, if_false, true_and, and_true, Bool.true_and, Bool.and_true, Bool.not_true, Bool.not_false, reduceCtorEq, false_and, exists_false, Bool.false_eq_true, OD.d.injEq, OD.l.injEq, HE.o.injEq, PyData.bool.injEq, PyData.int.injEq, PyData.str.injEq, ite_true, ite_false, Nat.reduceSub, Nat.reduceAdd, Nat.reduceLT, Bool.and_self, Bool.or_true, Bool.true_or, Bool.or_false, Bool.false_or, Bool.false_and, Bool.and_false, eraseL_map, isd_rep, er_rep, gBs, bools_rep, Option.map_some]
    simp
theorem nub_nodup : ∀ {xs : List Str}, xs.Nodup → nubN xs = xs.length := by
  intro xs h
  have go : ∀ i : Nat, i ≤ xs.length → nubN (xs.take i) = i := by
    intro i
    induction i with
    | zero => intro _; simp [nubN]
    | succ i ih =>
      intro hi
      have hlt : i < xs.length := by omega
      have hn : xs[i] ∉ xs.take i := by
        intro hm
        obtain ⟨j, hj, e⟩ := List.mem_iff_getElem.mp hm
        rw [List.length_take] at hj
        rw [List.getElem_take] at e
        have := (List.getElem_inj h).mp e
        omega
      rw [List.take_succ_eq_append_getElem hlt, nubN_snoc, ih (by omega)]
      simp [hn]
  have := go xs.length (Nat.le_refl _)
  rw [List.take_length] at this
  exact this
theorem strs_map (xs : List Str) : strsOf (xs.map PyData.str) = some xs := by
  induction xs with
  | nil => rfl
  | cons x xs ih => simp [strsOf, ih]
theorem v_different {xs : List Str} (h : ∀ x ∈ xs, nameOk x) (hn : xs.Nodup) (hl : xs.length ≤ 1000) : f_are_different_names [.d (.tuple (xs.map .str))] = some (.ok (.d (.bool true)), []) := by
  rw [← fw_eq]
  unfold f_are_different_names
  rw [fw_sem]
  unfold m_are_different_names
  have hz : (xs.map PyData.str).length ≤ sizeLine := by
    rw [List.length_map]
    exact Nat.le_trans hl (by decide)
  simp only [w_bind, w_ret, w_ok, w_seq, w_if, w_ifE, w_test, w_and, w_or, w_not, w_andV, w_orV, w_notV, w_do, w_rt, w_asg, w_C, w_var, w_args0, w_args1, w_plc, w_own, w_val, w_prim, w_list, w_tup, w_call, w_callIo, w_callK, w_chain, w_for, w_items, w_rng, w_lc, w_meth1, w_setL2, w_stores, w_aug, mNx, mRetN, startE, rds, HE.rd, sh1, sh2, dp1, dp2, gAdd, DL.gSub, gLt, gLe, gGt, gGe, gOrd, gEq, gNe, gIsI, gLen, gIx, dat, gMax2, gMin2, gAbs, gNeg, gAddI, gTupOf, gListOf, gIsN, DL.is_int, DL.is_bool, DL.is_str, DL.is_tuple, DL.is_list, OD.erase, OD.noS, noSL, OD.shallow, OD.isD, OD.still, allStill, boolOf, aName, outs, wipeE, isL, DL.intAt, DL.putAll, allO, allD, itemsOf, rngA, rngB, List.getElem?_cons_zero, List.getElem?_cons_succ, List.set_cons_zero, List.set_cons_succ, List.length_cons, List.length_nil, List.map_cons, List.map_nil, List.cons_append, List.nil_append, List.replicate_succ, List.replicate_zero, List.all_cons, List.all_nil, List.eraseIdx_cons_zero, List.eraseIdx_cons_succ, List.drop_succ_cons, List.drop_zero, List.filterMap_cons, List.filterMap_nil, Option.some.injEq, exists_eq_left', exists_eq_left, exists_eq', exists_eq, Option.join_some, if_true, if_false, true_and, and_true, Bool.true_and, Bool.and_true, Bool.not_true, Bool.not_false, reduceCtorEq, false_and, exists_false, Bool.false_eq_true, OD.d.injEq, OD.l.injEq, HE.o.injEq, PyData.bool.injEq, PyData.int.injEq, PyData.str.injEq, ite_true, ite_false, Nat.reduceSub, Nat.reduceAdd, Nat.reduceLT, Bool.and_self, Bool.or_true, Bool.true_or, Bool.or_false, Bool.false_or, Bool.false_and, Bool.and_false, hz]
  refine map_by (fun k acc e => acc = List.replicate k (.d (.bool true)) ∧ ∃ y, e = [some (.d (.tuple (xs.map .str))), y]) 0 ⟨rfl, _, rfl⟩ ?_ ?_
  · rintro j d acc e hj ⟨rfl, y, rfl⟩
    obtain ⟨x, hx, rfl⟩ : ∃ x, x ∈ xs ∧ d = .str x := by
      simp only [List.getElem?_map, Option.map_eq_some_iff] at hj
      obtain ⟨c, q, rfl⟩ := hj
      exact ⟨c, List.mem_of_getElem? q, rfl⟩
    simp only [w_bind, w_ret, w_ok, w_seq, w_if, w_ifE, w_test, w_and, w_or, w_not, w_andV, w_orV, w_notV, w_do, w_rt, w_asg, w_C, w_var, w_args0, w_args1, w_plc, w_own, w_val, w_prim, w_list, w_tup, w_call, w_callIo, w_callK, w_chain, w_for, w_items, w_rng, w_lc, w_meth1, w_setL2, w_stores, w_aug, mNx, mRetN, startE, rds, HE.rd, sh1, sh2, dp1, dp2, gAdd, DL.gSub, gLt, gLe, gGt, gGe, gOrd, gEq, gNe, gIsI, gLen, gIx, dat, gMax2, gMin2, gAbs, gNeg, gAddI, gTupOf, gListOf, gIsN, DL.is_int, DL.is_bool, DL.is_str, DL.is_tuple, DL.is_list, OD.erase, OD.noS, noSL, OD.shallow, OD.isD, OD.still, allStill, boolOf, aName, outs, wipeE, isL, DL.intAt, DL.putAll, allO, allD, itemsOf, rngA, rngB, List.getElem?_cons_zero, List.getElem?_cons_succ, List.set_cons_zero, List.set_cons_succ, List.length_cons, List.length_nil, List.map_cons, List.map_nil, List.cons_append, List.nil_append, List.replicate_succ, List.replicate_zero, List.all_cons, List.all_nil, List.eraseIdx_cons_zero, List.eraseIdx_cons_succ, List.drop_succ_cons, List.drop_zero, List.filterMap_cons, List.filterMap_nil, Option.some.injEq, exists_eq_left', exists_eq_left, exists_eq', exists_eq, Option.join_some, if_true, if_false, true_and, and_true, Bool.true_and, Bool.and_true, Bool.not_true, Bool.not_false, reduceCtorEq, false_and, exists_false, Bool.false_eq_true, OD.d.injEq, OD.l.injEq, HE.o.injEq, PyData.bool.injEq, PyData.int.injEq, PyData.str.injEq, ite_true, ite_false, Nat.reduceSub, Nat.reduceAdd, Nat.reduceLT, Bool.and_self, Bool.or_true, Bool.true_or, Bool.or_false, Bool.false_or, Bool.false_and, Bool.and_false, v_is_name (h x hx), fw_ok]
    rw [← List.replicate_succ', List.replicate_succ]
    exact ⟨rfl, _, rfl⟩
  · rintro acc e ⟨rfl, y, rfl⟩
    simp only [w_bind, w_ret, w_ok, w_seq, w_if, w_ifE, w_test, w_and, w_or, w_not, w_andV, w_orV, w_notV, w_do, w_rt, w_asg, w_C, w_var, w_args0, w_args1, w_plc, w_own, w_val, w_prim, w_list, w_tup, w_call, w_callIo, w_callK, w_chain, w_for, w_items, w_rng, w_lc, w_meth1, w_setL2, w_stores, w_aug, mNx, mRetN, startE, rds, HE.rd, sh1, sh2, dp1, dp2, gAdd, DL.gSub, gLt, gLe, gGt, gGe, gOrd, gEq, gNe, gIsI, gLen, gIx, dat, gMax2, gMin2, gAbs, gNeg, gAddI, gTupOf, gListOf, gIsN, DL.is_int, DL.is_bool, DL.is_str, DL.is_tuple, DL.is_list, OD.erase, OD.noS, noSL, OD.shallow, OD.isD, OD.still, allStill, boolOf, aName, outs, wipeE, isL, DL.intAt, DL.putAll, allO, allD, itemsOf, rngA, rngB, List.getElem?_cons_zero, List.getElem?_cons_succ, List.set_cons_zero, List.set_cons_succ, List.length_cons, List.length_nil, List.map_cons, List.map_nil, List.cons_append, List.nil_append, List.replicate_succ, List.replicate_zero, List.all_cons, List.all_nil, List.eraseIdx_cons_zero, List.eraseIdx_cons_succ, List.drop_succ_cons, List.drop_zero, List.filterMap_cons, List.filterMap_nil, Option.some.injEq, exists_eq_left', exists_eq_left, exists_eq', exists_eq, Option.join_some, if_true, if_false, true_and, and_true, Bool.true_and, Bool.and_true, Bool.not_true, Bool.not_false, reduceCtorEq, false_and, exists_false, Bool.false_eq_true, OD.d.injEq, OD.l.injEq, HE.o.injEq, PyData.bool.injEq, PyData.int.injEq, PyData.str.injEq, ite_true, ite_false, Nat.reduceSub, Nat.reduceAdd, Nat.reduceLT, Bool.and_self, Bool.or_true, Bool.true_or, Bool.or_false, Bool.false_or, Bool.false_and, Bool.and_false, eraseL_map, isd_rep, er_rep, gBs, bools_rep, Option.map_some, gLenSet, strs_map, Option.bind_some, hl, nub_nodup hn, List.length_map]
    simp [fewDeep, PyData.plain, PyData.depth, PyData.eqv]
theorem v_folders {xs : List Str} (h : ∀ x ∈ xs, nameOk x) (hn : xs.Nodup) (h1 : 1 ≤ xs.length) (h2 : xs.length ≤ 20) : f_are_folders [.d (.tuple (xs.map .str))] = some (.ok (.d (.bool true)), []) := by
  rw [← fw_eq]
  unfold f_are_folders
  rw [fw_sem]
  unfold m_are_folders
  have a1 : decide ((1 : Int) ≤ (xs.length : Int)) = true := by simp; omega
  have a2 : decide ((xs.length : Int) ≤ (20 : Int)) = true := by simp; omega
  simp only [w_bind, w_ret, w_ok, w_seq, w_if, w_ifE, w_test, w_and, w_or, w_not, w_andV, w_orV, w_notV, w_do, w_rt, w_asg, w_C, w_var, w_args0, w_args1, w_plc, w_own, w_val, w_prim, w_list, w_tup, w_call, w_callIo, w_callK, w_chain, w_for, w_items, w_rng, w_lc, w_meth1, w_setL2, w_stores, w_aug, mNx, mRetN, startE, rds, HE.rd, sh1, sh2, dp1, dp2, gAdd, DL.gSub, gLt, gLe, gGt, gGe, gOrd, gEq, gNe, gIsI, gLen, gIx, dat, gMax2, gMin2, gAbs, gNeg, gAddI, gTupOf, gListOf, gIsN, DL.is_int, DL.is_bool, DL.is_str, DL.is_tuple, DL.is_list, OD.erase, OD.noS, noSL, OD.shallow, OD.isD, OD.still, allStill, boolOf, aName, outs, wipeE, isL, DL.intAt, DL.putAll, allO, allD, itemsOf, rngA, rngB, List.getElem?_cons_zero, List.getElem?_cons_succ, List.set_cons_zero, List.set_cons_succ, List.length_cons, List.length_nil, List.map_cons, List.map_nil, List.cons_append, List.nil_append, List.replicate_succ, List.replicate_zero, List.all_cons, List.all_nil, List.eraseIdx_cons_zero, List.eraseIdx_cons_succ, List.drop_succ_cons, List.drop_zero, List.filterMap_cons, List.filterMap_nil, Option.some.injEq, exists_eq_left', exists_eq_left, exists_eq', exists_eq, Option.join_some, if_true, if_false, true_and, and_true, Bool.true_and, Bool.and_true, Bool.not_true, Bool.not_false, reduceCtorEq, false_and, exists_false, Bool.false_eq_true, OD.d.injEq, OD.l.injEq, HE.o.injEq, PyData.bool.injEq, PyData.int.injEq, PyData.str.injEq, ite_true, ite_false, Nat.reduceSub, Nat.reduceAdd, Nat.reduceLT, Bool.and_self, Bool.or_true, Bool.true_or, Bool.or_false, Bool.false_or, Bool.false_and, Bool.and_false, v_different h hn (by omega), fw_ok, List.length_map, a1, a2]
theorem v_require_folders {xs : List Str} (h : ∀ x ∈ xs, nameOk x) (hn : xs.Nodup) (h1 : 1 ≤ xs.length) (h2 : xs.length ≤ 20) : f_require_folders [.d (.tuple (xs.map .str))] = some (.ok (.d .none), []) := by
  rw [← fw_eq]
  unfold f_require_folders
  rw [fw_sem]
  unfold m_require_folders
  simp only [w_bind, w_ret, w_ok, w_seq, w_if, w_ifE, w_test, w_and, w_or, w_not, w_andV, w_orV, w_notV, w_do, w_rt, w_asg, w_C, w_var, w_args0, w_args1, w_plc, w_own, w_val, w_prim, w_list, w_tup, w_call, w_callIo, w_callK, w_chain, w_for, w_items, w_rng, w_lc, w_meth1, w_setL2, w_stores, w_aug, mNx, mRetN, startE, rds, HE.rd, sh1, sh2, dp1, dp2, gAdd, DL.gSub, gLt, gLe, gGt, gGe, gOrd, gEq, gNe, gIsI, gLen, gIx, dat, gMax2, gMin2, gAbs, gNeg, gAddI, gTupOf, gListOf, gIsN, DL.is_int, DL.is_bool, DL.is_str, DL.is_tuple, DL.is_list, OD.erase, OD.noS, noSL, OD.shallow, OD.isD, OD.still, allStill, boolOf, aName, outs, wipeE, isL, DL.intAt, DL.putAll, allO, allD, itemsOf, rngA, rngB, List.getElem?_cons_zero, List.getElem?_cons_succ, List.set_cons_zero, List.set_cons_succ, List.length_cons, List.length_nil, List.map_cons, List.map_nil, List.cons_append, List.nil_append, List.replicate_succ, List.replicate_zero, List.all_cons, List.all_nil, List.eraseIdx_cons_zero, List.eraseIdx_cons_succ, List.drop_succ_cons, List.drop_zero, List.filterMap_cons, List.filterMap_nil, Option.some.injEq, exists_eq_left', exists_eq_left, exists_eq', exists_eq, Option.join_some, if_true, if_false, true_and, and_true, Bool.true_and, Bool.and_true, Bool.not_true, Bool.not_false, reduceCtorEq, false_and, exists_false, Bool.false_eq_true, OD.d.injEq, OD.l.injEq, HE.o.injEq, PyData.bool.injEq, PyData.int.injEq, PyData.str.injEq, ite_true, ite_false, Nat.reduceSub, Nat.reduceAdd, Nat.reduceLT, Bool.and_self, Bool.or_true, Bool.true_or, Bool.or_false, Bool.false_or, Bool.false_and, Bool.and_false, v_folders h hn h1 h2, fw_ok]
theorem plain_strs (xs : List Str) : PyData.plainAll (xs.map .str) = true := by
  induction xs with
  | nil => rfl
  | cons x xs ih => simp [PyData.plainAll, PyData.plain, ih]
theorem any_strs {xs : List Str} {x : Str} (h : x ∈ xs) : ((xs.map PyData.str).any fun y => PyData.eqv y (.str x)) = true := by
  rw [List.any_map, List.any_eq_true]
  exact ⟨x, h, by simp [PyData.eqv]⟩
theorem v_is_one_of {xs : List Str} {x : Str} (h : nameOk x) (hx : x ∈ xs) : f_is_one_of [.d (.tuple (xs.map .str)), .d (.str x)] = some (.ok (.d (.bool true)), []) := by
  rw [← fw_eq]
  unfold f_is_one_of
  rw [fw_sem]
  unfold m_is_one_of
  have hp := plain_strs xs
  have hd : decide (min (PyData.depthAll (xs.map .str)) (PyData.depth (.str x)) ≤ 60) = true := by
    simp only [PyData.depth, Nat.min_zero, Nat.zero_le, decide_true]
  have hp2 : PyData.plain (.str x) = true := rfl
  simp only [w_bind, w_ret, w_ok, w_seq, w_if, w_ifE, w_test, w_and, w_or, w_not, w_andV, w_orV, w_notV, w_do, w_rt, w_asg, w_C, w_var, w_args0, w_args1, w_plc, w_own, w_val, w_prim, w_list, w_tup, w_call, w_callIo, w_callK, w_chain, w_for, w_items, w_rng, w_lc, w_meth1, w_setL2, w_stores, w_aug, mNx, mRetN, startE, rds, HE.rd, sh1, sh2, dp1, dp2, gAdd, DL.gSub, gLt, gLe, gGt, gGe, gOrd, gEq, gNe, gIsI, gLen, gIx, dat, gMax2, gMin2, gAbs, gNeg, gAddI, gTupOf, gListOf, gIsN, DL.is_int, DL.is_bool, DL.is_str, DL.is_tuple, DL.is_list, OD.erase, OD.noS, noSL, OD.shallow, OD.isD, OD.still, allStill, boolOf, aName, outs, wipeE, isL, DL.intAt, DL.putAll, allO, allD, itemsOf, rngA, rngB, List.getElem?_cons_zero, List.getElem?_cons_succ, List.set_cons_zero, List.set_cons_succ, List.length_cons, List.length_nil, List.map_cons, List.map_nil, List.cons_append, List.nil_append, List.replicate_succ, List.replicate_zero, List.all_cons, List.all_nil, List.eraseIdx_cons_zero, List.eraseIdx_cons_succ, List.drop_succ_cons, List.drop_zero, List.filterMap_cons, List.filterMap_nil, Option.some.injEq, exists_eq_left', exists_eq_left, exists_eq', exists_eq, Option.join_some, if_true, if_false, true_and, and_true, Bool.true_and, Bool.and_true, Bool.not_true, Bool.not_false, reduceCtorEq, false_and, exists_false, Bool.false_eq_true, OD.d.injEq, OD.l.injEq, HE.o.injEq, PyData.bool.injEq, PyData.int.injEq, PyData.str.injEq, ite_true, ite_false, Nat.reduceSub, Nat.reduceAdd, Nat.reduceLT, Bool.and_self, Bool.or_true, Bool.true_or, Bool.or_false, Bool.false_or, Bool.false_and, Bool.and_false, v_is_name h, fw_ok, gInB, hp, hp2, any_strs hx]
  exact ⟨_, if_pos hd, rfl⟩
theorem v_require_name {xs : List Str} {x : Str} (h : nameOk x) (hx : x ∈ xs) : f_require_name [.d (.tuple (xs.map .str)), .d (.str x)] = some (.ok (.d .none), []) := by
  rw [← fw_eq]
  unfold f_require_name
  rw [fw_sem]
  unfold m_require_name
  simp only [w_bind, w_ret, w_ok, w_seq, w_if, w_ifE, w_test, w_and, w_or, w_not, w_andV, w_orV, w_notV, w_do, w_rt, w_asg, w_C, w_var, w_args0, w_args1, w_plc, w_own, w_val, w_prim, w_list, w_tup, w_call, w_callIo, w_callK, w_chain, w_for, w_items, w_rng, w_lc, w_meth1, w_setL2, w_stores, w_aug, mNx, mRetN, startE, rds, HE.rd, sh1, sh2, dp1, dp2, gAdd, DL.gSub, gLt, gLe, gGt, gGe, gOrd, gEq, gNe, gIsI, gLen, gIx, dat, gMax2, gMin2, gAbs, gNeg, gAddI, gTupOf, gListOf, gIsN, DL.is_int, DL.is_bool, DL.is_str, DL.is_tuple, DL.is_list, OD.erase, OD.noS, noSL, OD.shallow, OD.isD, OD.still, allStill, boolOf, aName, outs, wipeE, isL, DL.intAt, DL.putAll, allO, allD, itemsOf, rngA, rngB, List.getElem?_cons_zero, List.getElem?_cons_succ, List.set_cons_zero, List.set_cons_succ, List.length_cons, List.length_nil, List.map_cons, List.map_nil, List.cons_append, List.nil_append, List.replicate_succ, List.replicate_zero, List.all_cons, List.all_nil, List.eraseIdx_cons_zero, List.eraseIdx_cons_succ, List.drop_succ_cons, List.drop_zero, List.filterMap_cons, List.filterMap_nil, Option.some.injEq, exists_eq_left', exists_eq_left, exists_eq', exists_eq, Option.join_some, if_true, if_false, true_and, and_true, Bool.true_and, Bool.and_true, Bool.not_true, Bool.not_false, reduceCtorEq, false_and, exists_false, Bool.false_eq_true, OD.d.injEq, OD.l.injEq, HE.o.injEq, PyData.bool.injEq, PyData.int.injEq, PyData.str.injEq, ite_true, ite_false, Nat.reduceSub, Nat.reduceAdd, Nat.reduceLT, Bool.and_self, Bool.or_true, Bool.true_or, Bool.or_false, Bool.false_or, Bool.false_and, Bool.and_false, v_is_one_of h hx, fw_ok]
theorem v_require_length {xs : List Str} {x : Str} {n : Int} (h : ∀ x ∈ xs, nameOk x) (hn : xs.Nodup) (h1 : 1 ≤ xs.length) (h2 : xs.length ≤ 20) (hx : x ∈ xs) (n1 : 1 ≤ n) (n2 : n ≤ xs.length) :
    f_require_length [.d (.tuple (xs.map .str)), .d (.str x), .d (.int n)] = some (.ok (.d .none), []) := by
  rw [← fw_eq]
  unfold f_require_length
  rw [fw_sem]
  unfold m_require_length
  have a1 : decide (1 ≤ n) = true := by simp [n1]
  have a2 : decide (n ≤ (xs.length : Int)) = true := by simp [n2]
  simp only [w_bind, w_ret, w_ok, w_seq, w_if, w_ifE, w_test, w_and, w_or, w_not, w_andV, w_orV, w_notV, w_do, w_rt, w_asg, w_C, w_var, w_args0, w_args1, w_plc, w_own, w_val, w_prim, w_list, w_tup, w_call, w_callIo, w_callK, w_chain, w_for, w_items, w_rng, w_lc, w_meth1, w_setL2, w_stores, w_aug, mNx, mRetN, startE, rds, HE.rd, sh1, sh2, dp1, dp2, gAdd, DL.gSub, gLt, gLe, gGt, gGe, gOrd, gEq, gNe, gIsI, gLen, gIx, dat, gMax2, gMin2, gAbs, gNeg, gAddI, gTupOf, gListOf, gIsN, DL.is_int, DL.is_bool, DL.is_str, DL.is_tuple, DL.is_list, OD.erase, OD.noS, noSL, OD.shallow, OD.isD, OD.still, allStill, boolOf, aName, outs, wipeE, isL, DL.intAt, DL.putAll, allO, allD, itemsOf, rngA, rngB, List.getElem?_cons_zero, List.getElem?_cons_succ, List.set_cons_zero, List.set_cons_succ, List.length_cons, List.length_nil, List.map_cons, List.map_nil, List.cons_append, List.nil_append, List.replicate_succ, List.replicate_zero, List.all_cons, List.all_nil, List.eraseIdx_cons_zero, List.eraseIdx_cons_succ, List.drop_succ_cons, List.drop_zero, List.filterMap_cons, List.filterMap_nil, Option.some.injEq, exists_eq_left', exists_eq_left, exists_eq', exists_eq, Option.join_some, if_true, if_false, true_and, and_true, Bool.true_and, Bool.and_true, Bool.not_true, Bool.not_false, reduceCtorEq, false_and, exists_false, Bool.false_eq_true, OD.d.injEq, OD.l.injEq, HE.o.injEq, PyData.bool.injEq, PyData.int.injEq, PyData.str.injEq, ite_true, ite_false, Nat.reduceSub, Nat.reduceAdd, Nat.reduceLT, Bool.and_self, Bool.or_true, Bool.true_or, Bool.or_false, Bool.false_or, Bool.false_and, Bool.and_false, v_require_folders h hn h1 h2, v_require_name (h x hx) hx, v_is_integer, List.length_map, a1, a2, fw_ok]
theorem v_endings {o p : Int} (hp : 0 < p) (ho : o.natAbs < 10 ^ 9) (hp2 : p < 10 ^ 9) : f_endings [.d (.int o), .d (.int p), .d (.bool false)] = some (.ok (.d (.int (p * prodI o (p - 1).toNat))), []) := by
  rw [← fw_eq]
  unfold f_endings
  rw [fw_sem]
  unfold m_endings
  have hr := v_arrangements o (p - 1).toNat ho (by omega)
  rw [show (((p - 1).toNat : Nat) : Int) = p - 1 by omega] at hr
  have hm : gMul (.int p) (.int (prodI o (p - 1).toNat)) = some (.d (.int (p * prodI o (p - 1).toNat))) := gMul_l (by omega)
  have a1 : decide (0 < p) = true := by simp [hp]
  simp only [w_bind, w_ret, w_ok, w_seq, w_if, w_ifE, w_test, w_and, w_or, w_not, w_andV, w_orV, w_notV, w_do, w_rt, w_asg, w_C, w_var, w_args0, w_args1, w_plc, w_own, w_val, w_prim, w_list, w_tup, w_call, w_callIo, w_callK, w_chain, w_for, w_items, w_rng, w_lc, w_meth1, w_setL2, w_stores, w_aug, mNx, mRetN, startE, rds, HE.rd, sh1, sh2, dp1, dp2, gAdd, DL.gSub, gLt, gLe, gGt, gGe, gOrd, gEq, gNe, gIsI, gLen, gIx, dat, gMax2, gMin2, gAbs, gNeg, gAddI, gTupOf, gListOf, gIsN, DL.is_int, DL.is_bool, DL.is_str, DL.is_tuple, DL.is_list, OD.erase, OD.noS, noSL, OD.shallow, OD.isD, OD.still, allStill, boolOf, aName, outs, wipeE, isL, DL.intAt, DL.putAll, allO, allD, itemsOf, rngA, rngB, List.getElem?_cons_zero, List.getElem?_cons_succ, List.set_cons_zero, List.set_cons_succ, List.length_cons, List.length_nil, List.map_cons, List.map_nil, List.cons_append, List.nil_append, List.replicate_succ, List.replicate_zero, List.all_cons, List.all_nil, List.eraseIdx_cons_zero, List.eraseIdx_cons_succ, List.drop_succ_cons, List.drop_zero, List.filterMap_cons, List.filterMap_nil, Option.some.injEq, exists_eq_left', exists_eq_left, exists_eq', exists_eq, Option.join_some, if_true, if_false, true_and, and_true, Bool.true_and, Bool.and_true, Bool.not_true, Bool.not_false, reduceCtorEq, false_and, exists_false, Bool.false_eq_true, OD.d.injEq, OD.l.injEq, HE.o.injEq, PyData.bool.injEq, PyData.int.injEq, PyData.str.injEq, ite_true, ite_false, Nat.reduceSub, Nat.reduceAdd, Nat.reduceLT, Bool.and_self, Bool.or_true, Bool.true_or, Bool.or_false, Bool.false_or, Bool.false_and, Bool.and_false, a1, hr, fw_ok, hm]
theorem v_count {xs : List Str} {x : Str} {n : Int} (h : ∀ x ∈ xs, nameOk x) (hn : xs.Nodup) (h1 : 1 ≤ xs.length) (h2 : xs.length ≤ 20) (hx : x ∈ xs) (n1 : 1 ≤ n) (n2 : n ≤ xs.length) :
    f_count_lists [.d (.tuple (xs.map .str)), .d (.str x), .d (.int n)] = some (.ok (.d (.int (n * prodI ((xs.length : Int) - 1) (n - 1).toNat))), []) := by
  rw [← fw_eq]
  unfold f_count_lists
  rw [fw_sem]
  unfold m_count_lists
  simp only [w_bind, w_ret, w_ok, w_seq, w_if, w_ifE, w_test, w_and, w_or, w_not, w_andV, w_orV, w_notV, w_do, w_rt, w_asg, w_C, w_var, w_args0, w_args1, w_plc, w_own, w_val, w_prim, w_list, w_tup, w_call, w_callIo, w_callK, w_chain, w_for, w_items, w_rng, w_lc, w_meth1, w_setL2, w_stores, w_aug, mNx, mRetN, startE, rds, HE.rd, sh1, sh2, dp1, dp2, gAdd, DL.gSub, gLt, gLe, gGt, gGe, gOrd, gEq, gNe, gIsI, gLen, gIx, dat, gMax2, gMin2, gAbs, gNeg, gAddI, gTupOf, gListOf, gIsN, DL.is_int, DL.is_bool, DL.is_str, DL.is_tuple, DL.is_list, OD.erase, OD.noS, noSL, OD.shallow, OD.isD, OD.still, allStill, boolOf, aName, outs, wipeE, isL, DL.intAt, DL.putAll, allO, allD, itemsOf, rngA, rngB, List.getElem?_cons_zero, List.getElem?_cons_succ, List.set_cons_zero, List.set_cons_succ, List.length_cons, List.length_nil, List.map_cons, List.map_nil, List.cons_append, List.nil_append, List.replicate_succ, List.replicate_zero, List.all_cons, List.all_nil, List.eraseIdx_cons_zero, List.eraseIdx_cons_succ, List.drop_succ_cons, List.drop_zero, List.filterMap_cons, List.filterMap_nil, Option.some.injEq, exists_eq_left', exists_eq_left, exists_eq', exists_eq, Option.join_some, if_true, if_false, true_and, and_true, Bool.true_and, Bool.and_true, Bool.not_true, Bool.not_false, reduceCtorEq, false_and, exists_false, Bool.false_eq_true, OD.d.injEq, OD.l.injEq, HE.o.injEq, PyData.bool.injEq, PyData.int.injEq, PyData.str.injEq, ite_true, ite_false, Nat.reduceSub, Nat.reduceAdd, Nat.reduceLT, Bool.and_self, Bool.or_true, Bool.true_or, Bool.or_false, Bool.false_or, Bool.false_and, Bool.and_false, v_require_length h hn h1 h2 hx n1 n2, List.length_map, v_endings (o := (xs.length : Int) - 1) (p := n) (by omega) (by omega) (by omega), fw_ok]
end LW

set_option Elab.async false
set_option linter.all false
set_option autoImplicit false
set_option maxRecDepth 100000
set_option maxHeartbeats 1000000
namespace LW
open PySem PySem.Spec PyProof.Rows L2 DL

theorem v_due (m s : Int) (h1 : 1 ≤ s) (h2 : s ≤ 20) (h3 : 1 ≤ m) (h4 : m ≤ 20) : f__law_due [.d (.int m), .d (.int s)] = some (.ok (.d (.int (s * prodI (m - 1) (s - 1).toNat))), []) := by
  rw [← fw_eq]
  unfold f__law_due
  rw [fw_sem]
  unfold m__law_due
  simp only [w_bind, w_ret, w_ok, w_seq, w_if, w_ifE, w_test, w_and, w_or, w_not, w_andV, w_orV, w_notV, w_do, w_rt, w_asg, w_C, w_var, w_args0, w_args1, w_plc, w_own, w_val, w_prim, w_list, w_tup, w_call, w_callIo, w_callK, w_chain, w_for, w_items, w_rng, w_lc, w_meth1, w_setL2, w_stores, w_aug, mNx, mRetN, startE, rds, HE.rd, sh1, sh2, dp1, dp2, gAdd, DL.gSub, gLt, gLe, gGt, gGe, gOrd, gEq, gNe, gIsI, gLen, gIx, dat, gMax2, gMin2, gAbs, gNeg, gAddI, gTupOf, gListOf, gIsN, DL.is_int, DL.is_bool, DL.is_str, DL.is_tuple, DL.is_list, OD.erase, OD.noS, noSL, OD.shallow, OD.isD, OD.still, allStill, boolOf, aName, outs, wipeE, isL, DL.intAt, DL.putAll, allO, allD, itemsOf, rngA, rngB, List.getElem?_cons_zero, List.getElem?_cons_succ, List.set_cons_zero, List.set_cons_succ, List.length_cons, List.length_nil, List.map_cons, List.map_nil, List.cons_append, List.nil_append, List.replicate_succ, List.replicate_zero, List.all_cons, List.all_nil, List.eraseIdx_cons_zero, List.eraseIdx_cons_succ, List.drop_succ_cons, List.drop_zero, List.filterMap_cons, List.filterMap_nil, Option.some.injEq, exists_eq_left', exists_eq_left, exists_eq', exists_eq, Option.join_some, Option.map_some, if_true, if_false, true_and, and_true, Bool.true_and, Bool.and_true, Bool.not_true, Bool.not_false, reduceCtorEq, false_and, exists_false, Bool.false_eq_true, OD.d.injEq, OD.l.injEq, HE.o.injEq, HE.al.injEq, List.cons.injEq, PyData.bool.injEq, PyData.int.injEq, PyData.str.injEq, ite_true, ite_false, Nat.reduceSub, Nat.reduceAdd, Nat.reduceLT, Bool.and_self, Bool.or_true, Bool.true_or, Bool.or_false, Bool.false_or, Bool.false_and, Bool.and_false]
  refine ⟨rngOf 0 (s - 1), by simp [smallB]; omega, each_by (fun k e => ∃ x, e = [some (.d (.int m)), some (.d (.int s)), some (.d (.int (s * prodI (m - 1) k))), x]) 0 ⟨none, by simp [prodI]⟩ ?_ ?_⟩
  · rintro j d e hj ⟨x, rfl⟩
    obtain ⟨hj, rfl⟩ := rng_at hj
    have hg := gMul_r (x := s * prodI (m - 1) (0 + j)) (y := m - 1 - (0 + (j : Int))) (by omega)
    simp only [w_bind, w_ret, w_ok, w_seq, w_if, w_ifE, w_test, w_and, w_or, w_not, w_andV, w_orV, w_notV, w_do, w_rt, w_asg, w_C, w_var, w_args0, w_args1, w_plc, w_own, w_val, w_prim, w_list, w_tup, w_call, w_callIo, w_callK, w_chain, w_for, w_items, w_rng, w_lc, w_meth1, w_setL2, w_stores, w_aug, mNx, mRetN, startE, rds, HE.rd, sh1, sh2, dp1, dp2, gAdd, DL.gSub, gLt, gLe, gGt, gGe, gOrd, gEq, gNe, gIsI, gLen, gIx, dat, gMax2, gMin2, gAbs, gNeg, gAddI, gTupOf, gListOf, gIsN, DL.is_int, DL.is_bool, DL.is_str, DL.is_tuple, DL.is_list, OD.erase, OD.noS, noSL, OD.shallow, OD.isD, OD.still, allStill, boolOf, aName, outs, wipeE, isL, DL.intAt, DL.putAll, allO, allD, itemsOf, rngA, rngB, List.getElem?_cons_zero, List.getElem?_cons_succ, List.set_cons_zero, List.set_cons_succ, List.length_cons, List.length_nil, List.map_cons, List.map_nil, List.cons_append, List.nil_append, List.replicate_succ, List.replicate_zero, List.all_cons, List.all_nil, List.eraseIdx_cons_zero, List.eraseIdx_cons_succ, List.drop_succ_cons, List.drop_zero, List.filterMap_cons, List.filterMap_nil, Option.some.injEq, exists_eq_left', exists_eq_left, exists_eq', exists_eq, Option.join_some, Option.map_some, if_true, if_false, true_and, and_true, Bool.true_and, Bool.and_true, Bool.not_true, Bool.not_false, reduceCtorEq, false_and, exists_false, Bool.false_eq_true, OD.d.injEq, OD.l.injEq, HE.o.injEq, HE.al.injEq, List.cons.injEq, PyData.bool.injEq, PyData.int.injEq, PyData.str.injEq, ite_true, ite_false, Nat.reduceSub, Nat.reduceAdd, Nat.reduceLT, Bool.and_self, Bool.or_true, Bool.true_or, Bool.or_false, Bool.false_or, Bool.false_and, Bool.and_false, hg]
    refine ⟨some (.d (.int (0 + j))), ?_⟩
    rw [show 0 + j + 1 = j + 1 by omega, show 0 + j = j by omega]
    simp [prodI, Int.mul_assoc]
  · rintro e ⟨x, rfl⟩
    rw [rng_len]
    simp only [w_bind, w_ret, w_ok, w_seq, w_if, w_ifE, w_test, w_and, w_or, w_not, w_andV, w_orV, w_notV, w_do, w_rt, w_asg, w_C, w_var, w_args0, w_args1, w_plc, w_own, w_val, w_prim, w_list, w_tup, w_call, w_callIo, w_callK, w_chain, w_for, w_items, w_rng, w_lc, w_meth1, w_setL2, w_stores, w_aug, mNx, mRetN, startE, rds, HE.rd, sh1, sh2, dp1, dp2, gAdd, DL.gSub, gLt, gLe, gGt, gGe, gOrd, gEq, gNe, gIsI, gLen, gIx, dat, gMax2, gMin2, gAbs, gNeg, gAddI, gTupOf, gListOf, gIsN, DL.is_int, DL.is_bool, DL.is_str, DL.is_tuple, DL.is_list, OD.erase, OD.noS, noSL, OD.shallow, OD.isD, OD.still, allStill, boolOf, aName, outs, wipeE, isL, DL.intAt, DL.putAll, allO, allD, itemsOf, rngA, rngB, List.getElem?_cons_zero, List.getElem?_cons_succ, List.set_cons_zero, List.set_cons_succ, List.length_cons, List.length_nil, List.map_cons, List.map_nil, List.cons_append, List.nil_append, List.replicate_succ, List.replicate_zero, List.all_cons, List.all_nil, List.eraseIdx_cons_zero, List.eraseIdx_cons_succ, List.drop_succ_cons, List.drop_zero, List.filterMap_cons, List.filterMap_nil, Option.some.injEq, exists_eq_left', exists_eq_left, exists_eq', exists_eq, Option.join_some, Option.map_some, if_true, if_false, true_and, and_true, Bool.true_and, Bool.and_true, Bool.not_true, Bool.not_false, reduceCtorEq, false_and, exists_false, Bool.false_eq_true, OD.d.injEq, OD.l.injEq, HE.o.injEq, HE.al.injEq, List.cons.injEq, PyData.bool.injEq, PyData.int.injEq, PyData.str.injEq, ite_true, ite_false, Nat.reduceSub, Nat.reduceAdd, Nat.reduceLT, Bool.and_self, Bool.or_true, Bool.true_or, Bool.or_false, Bool.false_or, Bool.false_and, Bool.and_false]
    simp
/-- what the satchel begins with -/
def Stl (o : OD) (l : List OD) : Prop := ∃ a b c : Int, o = .l [.d (.int a), .d (.int b), .d (.int c)] ∧ l = [] ∧ Sat 0 a b c
theorem v_satchel (ns : List Int) (k : Nat) (hk : k < 10) : FWp (f__law_satchel [.s ns, .d (.int k)]) Stl (fun _ _ => False) := by
  unfold f__law_satchel
  rw [fw_sem]
  unfold m__law_satchel
  have p1 : gPow (.int 10) (.int 18) = some (.d (.int (10 ^ 18))) := rfl
  have p2 : gPow (.int 10) (.int 38) = some (.d (.int (10 ^ 38))) := rfl
  have d1 : ∀ x : Int, gMod (.int x) (.int (10 ^ 38 + 133)) = some (.d (.int (x % (10 ^ 38 + 133)))) := fun x => gMod_pos (by decide)
  have g1 : ∀ x : Int, gMul (.int x) (.int 11) = some (.d (.int (x * 11))) := fun x => gMul_r (by decide)
  have g2 : ∀ x : Int, gMul (.int 7919) (.int x) = some (.d (.int (7919 * x))) := fun x => gMul_l (by decide)
  have sz : (3 : Nat) ≤ sizeLine := by decide
  have cell : ∀ z : Int, ∃ a b c : Int, OD.l [.d (.int (if (if z < 0 then -z else z) - 10 ^ 18 > 0 then (if z < 0 then -z else z) - 10 ^ 18 else 0)), .d (.int (z % (10 ^ 38 + 133) * 11 + 7919 * (k : Int) + 3)), .d (.int 0)] = OD.l [.d (.int a), .d (.int b), .d (.int c)] ∧ Sat 0 a b c := by
    intro z
    refine ⟨_, _, _, rfl, ?_, ?_, ?_, ?_, ?_⟩
    · split <;> omega
    · have := Int.emod_nonneg z (show (10 : Int) ^ 38 + 133 ≠ 0 by decide)
      omega
    · have := Int.emod_lt_of_pos z (show (0 : Int) < 10 ^ 38 + 133 by decide)
      have e1 : ((10 : Int) ^ 38 + 133) * 11 + 7919 * 10 + 3 < 2 ^ 200 := by decide
      omega
    · exact Int.le_refl 0
    · exact Int.le_refl 0
  by_cases hlt : (k : Int) < (ns.length : Int)
  · have hk2 : k < ns.length := by omega
    have at' : atI ns (k : Int) = some ns[k] := by
      have : ixN ns.length (k : Int) = some k := by
        unfold ixN
        rw [if_pos (by omega), if_pos (by omega)]
        simp
      simp [atI, this, hk2]
    simp (config := { maxSteps := 1000000 }) only [w_bind, w_ret, w_ok, w_seq, w_if, w_ifE, w_test, w_and, w_or, w_not, w_andV, w_orV, w_notV, w_do, w_rt, w_asg, w_C, w_var, w_args0, w_args1, w_plc, w_own, w_val, w_prim, w_list, w_tup, w_call, w_callIo, w_callK, w_chain, w_for, w_items, w_rng, w_lc, w_meth1, w_setL2, w_stores, w_aug, mNx, mRetN, startE, rds, HE.rd, sh1, sh2, dp1, dp2, gAdd, DL.gSub, gLt, gLe, gGt, gGe, gOrd, gEq, gNe, gIsI, gLen, gIx, dat, gMax2, gMin2, gAbs, gNeg, gAddI, gTupOf, gListOf, gIsN, DL.is_int, DL.is_bool, DL.is_str, DL.is_tuple, DL.is_list, OD.erase, OD.noS, noSL, OD.shallow, OD.isD, OD.still, allStill, boolOf, aName, outs, wipeE, isL, DL.intAt, DL.putAll, allO, allD, itemsOf, rngA, rngB, List.getElem?_cons_zero, List.getElem?_cons_succ, List.set_cons_zero, List.set_cons_succ, List.length_cons, List.length_nil, List.map_cons, List.map_nil, List.cons_append, List.nil_append, List.replicate_succ, List.replicate_zero, List.all_cons, List.all_nil, List.eraseIdx_cons_zero, List.eraseIdx_cons_succ, List.drop_succ_cons, List.drop_zero, List.filterMap_cons, List.filterMap_nil, Option.some.injEq, exists_eq_left', exists_eq_left, exists_eq', exists_eq, Option.join_some, Option.map_some, if_true, if_false, true_and, and_true, Bool.true_and, Bool.and_true, Bool.not_true, Bool.not_false, reduceCtorEq, false_and, exists_false, Bool.false_eq_true, OD.d.injEq, OD.l.injEq, HE.o.injEq, HE.al.injEq, List.cons.injEq, PyData.bool.injEq, PyData.int.injEq, PyData.str.injEq, ite_true, ite_false, Nat.reduceSub, Nat.reduceAdd, Nat.reduceLT, Bool.and_self, Bool.or_true, Bool.true_or, Bool.or_false, Bool.false_or, Bool.false_and, Bool.and_false, hlt, decide_true, at', Option.map_some, p1, p2, d1, g1, g2, sz]
    obtain ⟨a, b, c, e, h⟩ := cell ns[k]
    exact ⟨a, b, c, e, rfl, h⟩
  · simp (config := { maxSteps := 1000000 }) only [w_bind, w_ret, w_ok, w_seq, w_if, w_ifE, w_test, w_and, w_or, w_not, w_andV, w_orV, w_notV, w_do, w_rt, w_asg, w_C, w_var, w_args0, w_args1, w_plc, w_own, w_val, w_prim, w_list, w_tup, w_call, w_callIo, w_callK, w_chain, w_for, w_items, w_rng, w_lc, w_meth1, w_setL2, w_stores, w_aug, mNx, mRetN, startE, rds, HE.rd, sh1, sh2, dp1, dp2, gAdd, DL.gSub, gLt, gLe, gGt, gGe, gOrd, gEq, gNe, gIsI, gLen, gIx, dat, gMax2, gMin2, gAbs, gNeg, gAddI, gTupOf, gListOf, gIsN, DL.is_int, DL.is_bool, DL.is_str, DL.is_tuple, DL.is_list, OD.erase, OD.noS, noSL, OD.shallow, OD.isD, OD.still, allStill, boolOf, aName, outs, wipeE, isL, DL.intAt, DL.putAll, allO, allD, itemsOf, rngA, rngB, List.getElem?_cons_zero, List.getElem?_cons_succ, List.set_cons_zero, List.set_cons_succ, List.length_cons, List.length_nil, List.map_cons, List.map_nil, List.cons_append, List.nil_append, List.replicate_succ, List.replicate_zero, List.all_cons, List.all_nil, List.eraseIdx_cons_zero, List.eraseIdx_cons_succ, List.drop_succ_cons, List.drop_zero, List.filterMap_cons, List.filterMap_nil, Option.some.injEq, exists_eq_left', exists_eq_left, exists_eq', exists_eq, Option.join_some, Option.map_some, if_true, if_false, true_and, and_true, Bool.true_and, Bool.and_true, Bool.not_true, Bool.not_false, reduceCtorEq, false_and, exists_false, Bool.false_eq_true, OD.d.injEq, OD.l.injEq, HE.o.injEq, HE.al.injEq, List.cons.injEq, PyData.bool.injEq, PyData.int.injEq, PyData.str.injEq, ite_true, ite_false, Nat.reduceSub, Nat.reduceAdd, Nat.reduceLT, Bool.and_self, Bool.or_true, Bool.true_or, Bool.or_false, Bool.false_or, Bool.false_and, Bool.and_false, hlt, decide_false, p1, p2, d1, g1, g2, sz]
    obtain ⟨a, b, c, e, h⟩ := cell 0
    exact ⟨a, b, c, e, rfl, h⟩

/-! ### the names -/
def qx (i : Nat) : Nat := if i = 0 then 113 else if i = 1 then 117 else 120
def nm (st : Nat) (hd : Str) (i : Nat) : Str := if st = 0 then ⟨#[97 + i]⟩ else if st = 1 then hd ++ ⟨#[97 + i]⟩ else strRep ⟨#[qx (i / 8)]⟩ (1 + (i % 8 : Nat))
def hdOk (hd : Str) (k : Nat) : Prop := hd.length = k ∧ ∀ c ∈ hd.cps.toList, 97 ≤ c ∧ c < 97 + 26
instance (x : Str) : Decidable (nameOk x) := by unfold nameOk; infer_instance
theorem nm0 : ∀ i < 20, nameOk (nm 0 Str.empty i) := by decide +kernel
theorem nm2 : ∀ i < 20, nameOk (nm 2 Str.empty i) := by decide +kernel
theorem nd0 : ((List.range 20).map (nm 0 Str.empty)).Nodup := by decide +kernel
theorem nd2 : ((List.range 20).map (nm 2 Str.empty)).Nodup := by decide +kernel
theorem nm_hd0 (hd : Str) : nm 0 hd = nm 0 Str.empty := rfl
theorem nm_hd2 (hd : Str) : nm 2 hd = nm 2 Str.empty := rfl
theorem nm_ok {st : Nat} {hd : Str} {k : Nat} (h : hdOk hd k) (hk : k ≤ 6) (hst : st < 3) {i : Nat} (hi : i < 20) : nameOk (nm st hd i) := by
  match st, hst with
  | 0, _ => exact nm0 i hi
  | 2, _ => exact nm2 i hi
  | 1, _ =>
    have e : (nm 1 hd i).cps.toList = hd.cps.toList ++ [97 + i] := by
      show (hd.cps ++ #[97 + i]).toList = _
      simp
    have l : (nm 1 hd i).length = k + 1 := by
      show (hd ++ ⟨#[97 + i]⟩ : Str).length = _
      rw [str_app_len, h.1]
      rfl
    refine ⟨by omega, by omega, fun c hc => ?_⟩
    rw [e] at hc
    rcases List.mem_append.mp hc with z | z
    · exact h.2 c z
    · simp at z
      omega
theorem nm_nd {st : Nat} {hd : Str} (hst : st < 3) : ((List.range 20).map (nm st hd)).Nodup := by
  match st, hst with
  | 0, _ => exact nd0
  | 2, _ => exact nd2
  | 1, _ =>
    rw [List.nodup_iff_pairwise_ne, List.pairwise_map]
    refine List.Pairwise.imp ?_ List.pairwise_lt_range
    intro a b hab e
    have z : (hd.cps ++ #[97 + a]).toList = (hd.cps ++ #[97 + b]).toList := congrArg (fun x : Str => x.cps.toList) e
    simp at z
    omega
theorem at_az : ∀ k < 26, atI (("abcdefghijklmnopqrstuvwxyz" : Str).cps.toList) ((k : Nat) : Int) = some (97 + k) := by decide +kernel
theorem at_at : ∀ k < 20, atI (("abcdefghijklmnopqrst" : Str).cps.toList) ((k : Nat) : Int) = some (97 + k) := by decide +kernel
theorem at_qux : ∀ k < 3, atI (("qux" : Str).cps.toList) ((k : Nat) : Int) = some (qx k) := by decide +kernel
def nmL (xs : List Str) : List OD := xs.map fun x => .d (.str x)
theorem nmL_snoc (f : Nat → Str) (k : Nat) : nmL ((List.range (k + 1)).map f) = nmL ((List.range k).map f) ++ [.d (.str (f k))] := by simp [nmL, List.range_succ]
theorem nmL_len (xs : List Str) : (nmL xs).length = xs.length := by simp [nmL]
theorem at3_0 (x y z : OD) : atI [x, y, z] ((0 : Nat) : Int) = some x := rfl
theorem at3_1 (x y z : OD) : atI [x, y, z] ((1 : Nat) : Int) = some y := rfl
theorem at3_2 (x y z : OD) : atI [x, y, z] ((2 : Nat) : Int) = some z := rfl
theorem rep_ok : ∀ i < 20, (⟨#[qx (i / 8)]⟩ : Str).length * (1 + ((i % 8 : Nat) : Int)).toNat ≤ 1000000 ∧ (1 + ((i % 8 : Nat) : Int)) ≤ 1000000 ∧ -1000000 ≤ (1 + ((i % 8 : Nat) : Int)) ∧ (strRep ⟨#[qx (i / 8)]⟩ (1 + ((i % 8 : Nat) : Int))).length ≤ sizeLine := by decide +kernel
theorem gMul_rep {i : Nat} (h : i < 20) : gMul (.str ⟨#[qx (i / 8)]⟩) (.int (1 + ((i % 8 : Nat) : Int))) = some (.d (.str (strRep ⟨#[qx (i / 8)]⟩ (1 + ((i % 8 : Nat) : Int))))) := by
  unfold gMul
  exact if_pos (rep_ok i h)
theorem erase_map {α β : Type} (f : α → β) : ∀ (l : List α) (r : Nat), (l.map f).eraseIdx r = (l.eraseIdx r).map f
  | [], _ => rfl
  | a :: l, 0 => rfl
  | a :: l, r + 1 => by simp [erase_map f l r]
theorem get_perm : ∀ {l : List Str} {r : Nat} (h : r < l.length), (l[r] :: l.eraseIdx r).Perm l
  | [], r, h => by simp at h
  | a :: l, 0, h => by simp
  | a :: l, r + 1, h => by
    have := get_perm (l := l) (r := r) (by simpa using h)
    simp only [List.getElem_cons_succ, List.eraseIdx_cons_succ]
    exact (List.Perm.swap _ _ _).trans (this.cons a)
def Nms (many : Nat) (b : Int) (M : Nat) (o : OD) (l : List OD) : Prop := ∃ (xs : List Str) (a' c' : Int), o = .l (nmL xs) ∧ l = [.l [.d (.int a'), .d (.int b), .d (.int c')]] ∧ xs.length = many ∧ xs.Nodup ∧ (∀ x ∈ xs, nameOk x) ∧ Sat (M + 48) a' b c'
theorem Sat.mono {M M' : Nat} {a b c : Int} (h : Sat M a b c) (hm : M ≤ M') : Sat M' a b c := ⟨h.1, h.2.1, h.2.2.1, h.2.2.2.1, by have := h.2.2.2.2; omega⟩
theorem v_names (a b c : Int) (many M : Nat) (h : Sat M a b c) (hM : M ≤ 10000) (h1 : 1 ≤ many) (h2 : many ≤ 20) : FWp (f__law_names [.l [.d (.int a), .d (.int b), .d (.int c)], .d (.int many)]) (Nms many b M) (fun _ _ => False) := by
  unfold f__law_names
  rw [fw_sem]
  unfold m__law_names
  have sz0 : 0 ≤ sizeLine := Nat.zero_le _
  simp (config := { maxSteps := 1000000 }) only [w_bind, w_ret, w_ok, w_seq, w_if, w_ifE, w_test, w_and, w_or, w_not, w_andV, w_orV, w_notV, w_do, w_rt, w_asg, w_C, w_var, w_args0, w_args1, w_plc, w_own, w_val, w_prim, w_list, w_tup, w_call, w_callIo, w_callK, w_chain, w_for, w_items, w_rng, w_lc, w_meth1, w_setL2, w_stores, w_aug, mNx, mRetN, startE, rds, HE.rd, sh1, sh2, dp1, dp2, gAdd, DL.gSub, gLt, gLe, gGt, gGe, gOrd, gEq, gNe, gIsI, gLen, gIx, dat, gMax2, gMin2, gAbs, gNeg, gAddI, gTupOf, gListOf, gIsN, DL.is_int, DL.is_bool, DL.is_str, DL.is_tuple, DL.is_list, OD.erase, OD.noS, noSL, OD.shallow, OD.isD, OD.still, allStill, boolOf, aName, outs, wipeE, isL, DL.intAt, DL.putAll, allO, allD, itemsOf, rngA, rngB, List.getElem?_cons_zero, List.getElem?_cons_succ, List.set_cons_zero, List.set_cons_succ, List.length_cons, List.length_nil, List.map_cons, List.map_nil, List.cons_append, List.nil_append, List.replicate_succ, List.replicate_zero, List.all_cons, List.all_nil, List.eraseIdx_cons_zero, List.eraseIdx_cons_succ, List.drop_succ_cons, List.drop_zero, List.filterMap_cons, List.filterMap_nil, Option.some.injEq, exists_eq_left', exists_eq_left, exists_eq', exists_eq, Option.join_some, Option.map_some, if_true, if_false, true_and, and_true, Bool.true_and, Bool.and_true, Bool.not_true, Bool.not_false, reduceCtorEq, false_and, exists_false, Bool.false_eq_true, OD.d.injEq, OD.l.injEq, HE.o.injEq, HE.al.injEq, List.cons.injEq, PyData.bool.injEq, PyData.int.injEq, PyData.str.injEq, ite_true, ite_false, Nat.reduceSub, Nat.reduceAdd, Nat.reduceLT, Bool.and_self, Bool.or_true, Bool.true_or, Bool.or_false, Bool.false_or, Bool.false_and, Bool.and_false, sz0]
  refine (v_pluck a b c 3 M h (by omega) (by decide) (by decide)).imp ?_ (fun _ _ z => z.elim)
  rintro o l ⟨st, a1, c1, rfl, rfl, s0, s1, hS⟩
  obtain ⟨st, rfl⟩ : ∃ n : Nat, st = (n : Int) := ⟨st.toNat, by omega⟩
  have hst : st < 3 := by omega
  simp (config := { maxSteps := 1000000 }) only [w_bind, w_ret, w_ok, w_seq, w_if, w_ifE, w_test, w_and, w_or, w_not, w_andV, w_orV, w_notV, w_do, w_rt, w_asg, w_C, w_var, w_args0, w_args1, w_plc, w_own, w_val, w_prim, w_list, w_tup, w_call, w_callIo, w_callK, w_chain, w_for, w_items, w_rng, w_lc, w_meth1, w_setL2, w_stores, w_aug, mNx, mRetN, startE, rds, HE.rd, sh1, sh2, dp1, dp2, gAdd, DL.gSub, gLt, gLe, gGt, gGe, gOrd, gEq, gNe, gIsI, gLen, gIx, dat, gMax2, gMin2, gAbs, gNeg, gAddI, gTupOf, gListOf, gIsN, DL.is_int, DL.is_bool, DL.is_str, DL.is_tuple, DL.is_list, OD.erase, OD.noS, noSL, OD.shallow, OD.isD, OD.still, allStill, boolOf, aName, outs, wipeE, isL, DL.intAt, DL.putAll, allO, allD, itemsOf, rngA, rngB, List.getElem?_cons_zero, List.getElem?_cons_succ, List.set_cons_zero, List.set_cons_succ, List.length_cons, List.length_nil, List.map_cons, List.map_nil, List.cons_append, List.nil_append, List.replicate_succ, List.replicate_zero, List.all_cons, List.all_nil, List.eraseIdx_cons_zero, List.eraseIdx_cons_succ, List.drop_succ_cons, List.drop_zero, List.filterMap_cons, List.filterMap_nil, Option.some.injEq, exists_eq_left', exists_eq_left, exists_eq', exists_eq, Option.join_some, Option.map_some, if_true, if_false, true_and, and_true, Bool.true_and, Bool.and_true, Bool.not_true, Bool.not_false, reduceCtorEq, false_and, exists_false, Bool.false_eq_true, OD.d.injEq, OD.l.injEq, HE.o.injEq, HE.al.injEq, List.cons.injEq, PyData.bool.injEq, PyData.int.injEq, PyData.str.injEq, ite_true, ite_false, Nat.reduceSub, Nat.reduceAdd, Nat.reduceLT, Bool.and_self, Bool.or_true, Bool.true_or, Bool.or_false, Bool.false_or, Bool.false_and, Bool.and_false, sz0]
  refine (v_pluck a1 b c1 7 (M + 1) hS (by omega) (by decide) (by decide)).imp ?_ (fun _ _ z => z.elim)
  rintro o l ⟨tn, a2, c2, rfl, rfl, t0, t1, hS2⟩
  obtain ⟨tn, rfl⟩ : ∃ n : Nat, tn = (n : Int) := ⟨tn.toNat, by omega⟩
  simp (config := { maxSteps := 1000000 }) only [w_bind, w_ret, w_ok, w_seq, w_if, w_ifE, w_test, w_and, w_or, w_not, w_andV, w_orV, w_notV, w_do, w_rt, w_asg, w_C, w_var, w_args0, w_args1, w_plc, w_own, w_val, w_prim, w_list, w_tup, w_call, w_callIo, w_callK, w_chain, w_for, w_items, w_rng, w_lc, w_meth1, w_setL2, w_stores, w_aug, mNx, mRetN, startE, rds, HE.rd, sh1, sh2, dp1, dp2, gAdd, DL.gSub, gLt, gLe, gGt, gGe, gOrd, gEq, gNe, gIsI, gLen, gIx, dat, gMax2, gMin2, gAbs, gNeg, gAddI, gTupOf, gListOf, gIsN, DL.is_int, DL.is_bool, DL.is_str, DL.is_tuple, DL.is_list, OD.erase, OD.noS, noSL, OD.shallow, OD.isD, OD.still, allStill, boolOf, aName, outs, wipeE, isL, DL.intAt, DL.putAll, allO, allD, itemsOf, rngA, rngB, List.getElem?_cons_zero, List.getElem?_cons_succ, List.set_cons_zero, List.set_cons_succ, List.length_cons, List.length_nil, List.map_cons, List.map_nil, List.cons_append, List.nil_append, List.replicate_succ, List.replicate_zero, List.all_cons, List.all_nil, List.eraseIdx_cons_zero, List.eraseIdx_cons_succ, List.drop_succ_cons, List.drop_zero, List.filterMap_cons, List.filterMap_nil, Option.some.injEq, exists_eq_left', exists_eq_left, exists_eq', exists_eq, Option.join_some, Option.map_some, if_true, if_false, true_and, and_true, Bool.true_and, Bool.and_true, Bool.not_true, Bool.not_false, reduceCtorEq, false_and, exists_false, Bool.false_eq_true, OD.d.injEq, OD.l.injEq, HE.o.injEq, HE.al.injEq, List.cons.injEq, PyData.bool.injEq, PyData.int.injEq, PyData.str.injEq, ite_true, ite_false, Nat.reduceSub, Nat.reduceAdd, Nat.reduceLT, Bool.and_self, Bool.or_true, Bool.true_or, Bool.or_false, Bool.false_or, Bool.false_and, Bool.and_false, sz0]
  refine ⟨rngOf 0 tn, by simp [smallB]; omega, each_by (fun k e => ∃ hd a c x, hdOk hd k ∧ Sat (M + 2 + k) a b c ∧ e = [some (.l [.d (.int a), .d (.int b), .d (.int c)]), some (.d (.int many)), some (.d (.str hd)), some (.d (.int st)), some (.l []), x, none, none]) 0 ⟨Str.empty, a2, c2, none, ⟨rfl, by intro c hc; simp [Str.empty] at hc⟩, hS2, rfl⟩ ?_ ?_⟩
  · rintro j d e hj ⟨hd, a, c, x, hh, hS3, rfl⟩
    obtain ⟨hj, rfl⟩ := rng_at hj
    simp (config := { maxSteps := 1000000 }) only [w_bind, w_ret, w_ok, w_seq, w_if, w_ifE, w_test, w_and, w_or, w_not, w_andV, w_orV, w_notV, w_do, w_rt, w_asg, w_C, w_var, w_args0, w_args1, w_plc, w_own, w_val, w_prim, w_list, w_tup, w_call, w_callIo, w_callK, w_chain, w_for, w_items, w_rng, w_lc, w_meth1, w_setL2, w_stores, w_aug, mNx, mRetN, startE, rds, HE.rd, sh1, sh2, dp1, dp2, gAdd, DL.gSub, gLt, gLe, gGt, gGe, gOrd, gEq, gNe, gIsI, gLen, gIx, dat, gMax2, gMin2, gAbs, gNeg, gAddI, gTupOf, gListOf, gIsN, DL.is_int, DL.is_bool, DL.is_str, DL.is_tuple, DL.is_list, OD.erase, OD.noS, noSL, OD.shallow, OD.isD, OD.still, allStill, boolOf, aName, outs, wipeE, isL, DL.intAt, DL.putAll, allO, allD, itemsOf, rngA, rngB, List.getElem?_cons_zero, List.getElem?_cons_succ, List.set_cons_zero, List.set_cons_succ, List.length_cons, List.length_nil, List.map_cons, List.map_nil, List.cons_append, List.nil_append, List.replicate_succ, List.replicate_zero, List.all_cons, List.all_nil, List.eraseIdx_cons_zero, List.eraseIdx_cons_succ, List.drop_succ_cons, List.drop_zero, List.filterMap_cons, List.filterMap_nil, Option.some.injEq, exists_eq_left', exists_eq_left, exists_eq', exists_eq, Option.join_some, Option.map_some, if_true, if_false, true_and, and_true, Bool.true_and, Bool.and_true, Bool.not_true, Bool.not_false, reduceCtorEq, false_and, exists_false, Bool.false_eq_true, OD.d.injEq, OD.l.injEq, HE.o.injEq, HE.al.injEq, List.cons.injEq, PyData.bool.injEq, PyData.int.injEq, PyData.str.injEq, ite_true, ite_false, Nat.reduceSub, Nat.reduceAdd, Nat.reduceLT, Bool.and_self, Bool.or_true, Bool.true_or, Bool.or_false, Bool.false_or, Bool.false_and, Bool.and_false]
    refine (v_pluck a b c 26 (M + 2 + (0 + j)) hS3 (by omega) (by decide) (by decide)).imp ?_ (fun _ _ z => z.elim)
    rintro o l ⟨r, a3, c3, rfl, rfl, r0, r1, hS4⟩
    obtain ⟨r, rfl⟩ : ∃ n : Nat, r = (n : Int) := ⟨r.toNat, by omega⟩
    have hl : hd.length + 1 ≤ sizeLine := by
      rw [hh.1]
      exact Nat.le_trans (show 0 + j + 1 ≤ 100 by omega) (by decide)
    have hl1 : ∀ c : Nat, (⟨#[c]⟩ : Str).length = 1 := fun _ => rfl
    simp (config := { maxSteps := 1000000 }) only [w_bind, w_ret, w_ok, w_seq, w_if, w_ifE, w_test, w_and, w_or, w_not, w_andV, w_orV, w_notV, w_do, w_rt, w_asg, w_C, w_var, w_args0, w_args1, w_plc, w_own, w_val, w_prim, w_list, w_tup, w_call, w_callIo, w_callK, w_chain, w_for, w_items, w_rng, w_lc, w_meth1, w_setL2, w_stores, w_aug, mNx, mRetN, startE, rds, HE.rd, sh1, sh2, dp1, dp2, gAdd, DL.gSub, gLt, gLe, gGt, gGe, gOrd, gEq, gNe, gIsI, gLen, gIx, dat, gMax2, gMin2, gAbs, gNeg, gAddI, gTupOf, gListOf, gIsN, DL.is_int, DL.is_bool, DL.is_str, DL.is_tuple, DL.is_list, OD.erase, OD.noS, noSL, OD.shallow, OD.isD, OD.still, allStill, boolOf, aName, outs, wipeE, isL, DL.intAt, DL.putAll, allO, allD, itemsOf, rngA, rngB, List.getElem?_cons_zero, List.getElem?_cons_succ, List.set_cons_zero, List.set_cons_succ, List.length_cons, List.length_nil, List.map_cons, List.map_nil, List.cons_append, List.nil_append, List.replicate_succ, List.replicate_zero, List.all_cons, List.all_nil, List.eraseIdx_cons_zero, List.eraseIdx_cons_succ, List.drop_succ_cons, List.drop_zero, List.filterMap_cons, List.filterMap_nil, Option.some.injEq, exists_eq_left', exists_eq_left, exists_eq', exists_eq, Option.join_some, Option.map_some, if_true, if_false, true_and, and_true, Bool.true_and, Bool.and_true, Bool.not_true, Bool.not_false, reduceCtorEq, false_and, exists_false, Bool.false_eq_true, OD.d.injEq, OD.l.injEq, HE.o.injEq, HE.al.injEq, List.cons.injEq, PyData.bool.injEq, PyData.int.injEq, PyData.str.injEq, ite_true, ite_false, Nat.reduceSub, Nat.reduceAdd, Nat.reduceLT, Bool.and_self, Bool.or_true, Bool.true_or, Bool.or_false, Bool.false_or, Bool.false_and, Bool.and_false, at_az r (by omega), Option.map_some, hl1, hl]
    refine ⟨hd ++ ⟨#[97 + r]⟩, a3, c3, some (.d (.int (0 + (j : Int)))), ⟨?_, ?_⟩, hS4.mono (by omega), ⟨rfl, rfl⟩, rfl, rfl⟩
    · rw [str_app_len, hh.1]
      rfl
    · intro c hc
      have e : (hd ++ ⟨#[97 + r]⟩ : Str).cps.toList = hd.cps.toList ++ [97 + r] := by
        show (hd.cps ++ #[97 + r]).toList = _
        simp
      rw [e] at hc
      rcases List.mem_append.mp hc with z | z
      · exact hh.2 c z
      · simp at z
        omega
  · rintro e ⟨hd, a, c, x, hh, hS3, rfl⟩
    rw [rng_len] at hh hS3
    have hk6 : 0 + (((tn : Nat) : Int) - 0).toNat ≤ 6 := by omega
    generalize 0 + (((tn : Nat) : Int) - 0).toNat = kk at hh hS3 hk6
    have hS5 : Sat (M + 8) a b c := hS3.mono (by omega)
    simp (config := { maxSteps := 1000000 }) only [w_bind, w_ret, w_ok, w_seq, w_if, w_ifE, w_test, w_and, w_or, w_not, w_andV, w_orV, w_notV, w_do, w_rt, w_asg, w_C, w_var, w_args0, w_args1, w_plc, w_own, w_val, w_prim, w_list, w_tup, w_call, w_callIo, w_callK, w_chain, w_for, w_items, w_rng, w_lc, w_meth1, w_setL2, w_stores, w_aug, mNx, mRetN, startE, rds, HE.rd, sh1, sh2, dp1, dp2, gAdd, DL.gSub, gLt, gLe, gGt, gGe, gOrd, gEq, gNe, gIsI, gLen, gIx, dat, gMax2, gMin2, gAbs, gNeg, gAddI, gTupOf, gListOf, gIsN, DL.is_int, DL.is_bool, DL.is_str, DL.is_tuple, DL.is_list, OD.erase, OD.noS, noSL, OD.shallow, OD.isD, OD.still, allStill, boolOf, aName, outs, wipeE, isL, DL.intAt, DL.putAll, allO, allD, itemsOf, rngA, rngB, List.getElem?_cons_zero, List.getElem?_cons_succ, List.set_cons_zero, List.set_cons_succ, List.length_cons, List.length_nil, List.map_cons, List.map_nil, List.cons_append, List.nil_append, List.replicate_succ, List.replicate_zero, List.all_cons, List.all_nil, List.eraseIdx_cons_zero, List.eraseIdx_cons_succ, List.drop_succ_cons, List.drop_zero, List.filterMap_cons, List.filterMap_nil, Option.some.injEq, exists_eq_left', exists_eq_left, exists_eq', exists_eq, Option.join_some, Option.map_some, if_true, if_false, true_and, and_true, Bool.true_and, Bool.and_true, Bool.not_true, Bool.not_false, reduceCtorEq, false_and, exists_false, Bool.false_eq_true, OD.d.injEq, OD.l.injEq, HE.o.injEq, HE.al.injEq, List.cons.injEq, PyData.bool.injEq, PyData.int.injEq, PyData.str.injEq, ite_true, ite_false, Nat.reduceSub, Nat.reduceAdd, Nat.reduceLT, Bool.and_self, Bool.or_true, Bool.true_or, Bool.or_false, Bool.false_or, Bool.false_and, Bool.and_false]
    refine ⟨rngOf 0 20, rfl, each_by (fun k e => ∃ x y z, e = [some (.l [.d (.int a), .d (.int b), .d (.int c)]), some (.d (.int many)), some (.d (.str hd)), some (.d (.int st)), some (.l (nmL ((List.range k).map (nm st hd)))), x, y, z]) 0 ⟨x, none, none, rfl⟩ ?_ ?_⟩
    · rintro j d e hj ⟨x, y, z, rfl⟩
      obtain ⟨hj, rfl⟩ := rng_at hj
      have hj : j < 20 := by omega
      have q1 : ((j : Nat) : Int) / 8 = ((j / 8 : Nat) : Int) := by omega
      have q2 : ((j : Nat) : Int) % 8 = ((j % 8 : Nat) : Int) := by omega
      have d1 : ∀ x : Int, gMod (.int x) (.int 8) = some (.d (.int (x % 8))) := fun x => gMod_pos (by decide)
      have d2 : ∀ x : Int, gFdiv (.int x) (.int 8) = some (.d (.int (x / 8))) := fun x => gFdiv_pos (by decide) (by decide)
      have hl : hd.length + 1 ≤ sizeLine := by
        rw [hh.1]
        exact Nat.le_trans (show kk + 1 ≤ 100 by omega) (by decide)
      have hl1 : ∀ c : Nat, (⟨#[c]⟩ : Str).length = 1 := fun _ => rfl
      have hl3 : (3 : Nat) ≤ sizeLine := by decide
      have hl4 : (nmL ((List.range j).map (nm st hd))).length < sizeLine := by
        rw [nmL_len, List.length_map, List.length_range]
        exact Nat.lt_of_lt_of_le (show j < 100 by omega) (by decide)
      match st, hst with
      | 0, _ =>
        simp (config := { maxSteps := 1000000 }) only [w_bind, w_ret, w_ok, w_seq, w_if, w_ifE, w_test, w_and, w_or, w_not, w_andV, w_orV, w_notV, w_do, w_rt, w_asg, w_C, w_var, w_args0, w_args1, w_plc, w_own, w_val, w_prim, w_list, w_tup, w_call, w_callIo, w_callK, w_chain, w_for, w_items, w_rng, w_lc, w_meth1, w_setL2, w_stores, w_aug, mNx, mRetN, startE, rds, HE.rd, sh1, sh2, dp1, dp2, gAdd, DL.gSub, gLt, gLe, gGt, gGe, gOrd, gEq, gNe, gIsI, gLen, gIx, dat, gMax2, gMin2, gAbs, gNeg, gAddI, gTupOf, gListOf, gIsN, DL.is_int, DL.is_bool, DL.is_str, DL.is_tuple, DL.is_list, OD.erase, OD.noS, noSL, OD.shallow, OD.isD, OD.still, allStill, boolOf, aName, outs, wipeE, isL, DL.intAt, DL.putAll, allO, allD, itemsOf, rngA, rngB, List.getElem?_cons_zero, List.getElem?_cons_succ, List.set_cons_zero, List.set_cons_succ, List.length_cons, List.length_nil, List.map_cons, List.map_nil, List.cons_append, List.nil_append, List.replicate_succ, List.replicate_zero, List.all_cons, List.all_nil, List.eraseIdx_cons_zero, List.eraseIdx_cons_succ, List.drop_succ_cons, List.drop_zero, List.filterMap_cons, List.filterMap_nil, Option.some.injEq, exists_eq_left', exists_eq_left, exists_eq', exists_eq, Option.join_some, Option.map_some, if_true, if_false, true_and, and_true, Bool.true_and, Bool.and_true, Bool.not_true, Bool.not_false, reduceCtorEq, false_and, exists_false, Bool.false_eq_true, OD.d.injEq, OD.l.injEq, HE.o.injEq, HE.al.injEq, List.cons.injEq, PyData.bool.injEq, PyData.int.injEq, PyData.str.injEq, ite_true, ite_false, Nat.reduceSub, Nat.reduceAdd, Nat.reduceLT, Bool.and_self, Bool.or_true, Bool.true_or, Bool.or_false, Bool.false_or, Bool.false_and, Bool.and_false, Int.zero_add, Nat.zero_add, at_at j hj, at_qux (j / 8) (by omega), Option.map_some, Option.bind_some, hl1, hl, hl3, hl4, d1, d2, q1, q2, gMul_rep hj, at3_0, fApp]
        exact ⟨_, _, rfl, x, _, _, by rw [nmL_snoc]; rfl, rfl, rfl, rfl⟩
      | 1, _ =>
        simp (config := { maxSteps := 1000000 }) only [w_bind, w_ret, w_ok, w_seq, w_if, w_ifE, w_test, w_and, w_or, w_not, w_andV, w_orV, w_notV, w_do, w_rt, w_asg, w_C, w_var, w_args0, w_args1, w_plc, w_own, w_val, w_prim, w_list, w_tup, w_call, w_callIo, w_callK, w_chain, w_for, w_items, w_rng, w_lc, w_meth1, w_setL2, w_stores, w_aug, mNx, mRetN, startE, rds, HE.rd, sh1, sh2, dp1, dp2, gAdd, DL.gSub, gLt, gLe, gGt, gGe, gOrd, gEq, gNe, gIsI, gLen, gIx, dat, gMax2, gMin2, gAbs, gNeg, gAddI, gTupOf, gListOf, gIsN, DL.is_int, DL.is_bool, DL.is_str, DL.is_tuple, DL.is_list, OD.erase, OD.noS, noSL, OD.shallow, OD.isD, OD.still, allStill, boolOf, aName, outs, wipeE, isL, DL.intAt, DL.putAll, allO, allD, itemsOf, rngA, rngB, List.getElem?_cons_zero, List.getElem?_cons_succ, List.set_cons_zero, List.set_cons_succ, List.length_cons, List.length_nil, List.map_cons, List.map_nil, List.cons_append, List.nil_append, List.replicate_succ, List.replicate_zero, List.all_cons, List.all_nil, List.eraseIdx_cons_zero, List.eraseIdx_cons_succ, List.drop_succ_cons, List.drop_zero, List.filterMap_cons, List.filterMap_nil, Option.some.injEq, exists_eq_left', exists_eq_left, exists_eq', exists_eq, Option.join_some, Option.map_some, if_true, if_false, true_and, and_true, Bool.true_and, Bool.and_true, Bool.not_true, Bool.not_false, reduceCtorEq, false_and, exists_false, Bool.false_eq_true, OD.d.injEq, OD.l.injEq, HE.o.injEq, HE.al.injEq, List.cons.injEq, PyData.bool.injEq, PyData.int.injEq, PyData.str.injEq, ite_true, ite_false, Nat.reduceSub, Nat.reduceAdd, Nat.reduceLT, Bool.and_self, Bool.or_true, Bool.true_or, Bool.or_false, Bool.false_or, Bool.false_and, Bool.and_false, Int.zero_add, Nat.zero_add, at_at j hj, at_qux (j / 8) (by omega), Option.map_some, Option.bind_some, hl1, hl, hl3, hl4, d1, d2, q1, q2, gMul_rep hj, at3_1, fApp]
        exact ⟨_, _, rfl, x, _, _, by rw [nmL_snoc]; rfl, rfl, rfl, rfl⟩
      | 2, _ =>
        simp (config := { maxSteps := 1000000 }) only [w_bind, w_ret, w_ok, w_seq, w_if, w_ifE, w_test, w_and, w_or, w_not, w_andV, w_orV, w_notV, w_do, w_rt, w_asg, w_C, w_var, w_args0, w_args1, w_plc, w_own, w_val, w_prim, w_list, w_tup, w_call, w_callIo, w_callK, w_chain, w_for, w_items, w_rng, w_lc, w_meth1, w_setL2, w_stores, w_aug, mNx, mRetN, startE, rds, HE.rd, sh1, sh2, dp1, dp2, gAdd, DL.gSub, gLt, gLe, gGt, gGe, gOrd, gEq, gNe, gIsI, gLen, gIx, dat, gMax2, gMin2, gAbs, gNeg, gAddI, gTupOf, gListOf, gIsN, DL.is_int, DL.is_bool, DL.is_str, DL.is_tuple, DL.is_list, OD.erase, OD.noS, noSL, OD.shallow, OD.isD, OD.still, allStill, boolOf, aName, outs, wipeE, isL, DL.intAt, DL.putAll, allO, allD, itemsOf, rngA, rngB, List.getElem?_cons_zero, List.getElem?_cons_succ, List.set_cons_zero, List.set_cons_succ, List.length_cons, List.length_nil, List.map_cons, List.map_nil, List.cons_append, List.nil_append, List.replicate_succ, List.replicate_zero, List.all_cons, List.all_nil, List.eraseIdx_cons_zero, List.eraseIdx_cons_succ, List.drop_succ_cons, List.drop_zero, List.filterMap_cons, List.filterMap_nil, Option.some.injEq, exists_eq_left', exists_eq_left, exists_eq', exists_eq, Option.join_some, Option.map_some, if_true, if_false, true_and, and_true, Bool.true_and, Bool.and_true, Bool.not_true, Bool.not_false, reduceCtorEq, false_and, exists_false, Bool.false_eq_true, OD.d.injEq, OD.l.injEq, HE.o.injEq, HE.al.injEq, List.cons.injEq, PyData.bool.injEq, PyData.int.injEq, PyData.str.injEq, ite_true, ite_false, Nat.reduceSub, Nat.reduceAdd, Nat.reduceLT, Bool.and_self, Bool.or_true, Bool.true_or, Bool.or_false, Bool.false_or, Bool.false_and, Bool.and_false, Int.zero_add, Nat.zero_add, at_at j hj, at_qux (j / 8) (by omega), Option.map_some, Option.bind_some, hl1, hl, hl3, hl4, d1, d2, q1, q2, gMul_rep hj, at3_2, fApp]
        exact ⟨_, _, rfl, x, _, _, by rw [nmL_snoc]; rfl, rfl, rfl, rfl⟩
    · rintro e ⟨x, y, z, rfl⟩
      have hz : (rngOf 0 (many : Int)).length ≤ sizeLine := by
        rw [rng_len]
        exact Nat.le_trans (show ((many : Int) - 0).toNat ≤ 100 by omega) (by decide)
      have sm : smallB (many : Int) = true := by simp [smallB]; omega
      have e20 : 0 + (rngOf 0 20).length = 20 := rfl
      rw [e20]
      simp (config := { maxSteps := 1000000 }) only [w_bind, w_ret, w_ok, w_seq, w_if, w_ifE, w_test, w_and, w_or, w_not, w_andV, w_orV, w_notV, w_do, w_rt, w_asg, w_C, w_var, w_args0, w_args1, w_plc, w_own, w_val, w_prim, w_list, w_tup, w_call, w_callIo, w_callK, w_chain, w_for, w_items, w_rng, w_lc, w_meth1, w_setL2, w_stores, w_aug, mNx, mRetN, startE, rds, HE.rd, sh1, sh2, dp1, dp2, gAdd, DL.gSub, gLt, gLe, gGt, gGe, gOrd, gEq, gNe, gIsI, gLen, gIx, dat, gMax2, gMin2, gAbs, gNeg, gAddI, gTupOf, gListOf, gIsN, DL.is_int, DL.is_bool, DL.is_str, DL.is_tuple, DL.is_list, OD.erase, OD.noS, noSL, OD.shallow, OD.isD, OD.still, allStill, boolOf, aName, outs, wipeE, isL, DL.intAt, DL.putAll, allO, allD, itemsOf, rngA, rngB, List.getElem?_cons_zero, List.getElem?_cons_succ, List.set_cons_zero, List.set_cons_succ, List.length_cons, List.length_nil, List.map_cons, List.map_nil, List.cons_append, List.nil_append, List.replicate_succ, List.replicate_zero, List.all_cons, List.all_nil, List.eraseIdx_cons_zero, List.eraseIdx_cons_succ, List.drop_succ_cons, List.drop_zero, List.filterMap_cons, List.filterMap_nil, Option.some.injEq, exists_eq_left', exists_eq_left, exists_eq', exists_eq, Option.join_some, Option.map_some, if_true, if_false, true_and, and_true, Bool.true_and, Bool.and_true, Bool.not_true, Bool.not_false, reduceCtorEq, false_and, exists_false, Bool.false_eq_true, OD.d.injEq, OD.l.injEq, HE.o.injEq, HE.al.injEq, List.cons.injEq, PyData.bool.injEq, PyData.int.injEq, PyData.str.injEq, ite_true, ite_false, Nat.reduceSub, Nat.reduceAdd, Nat.reduceLT, Bool.and_self, Bool.or_true, Bool.true_or, Bool.or_false, Bool.false_or, Bool.false_and, Bool.and_false, sm, hz]
      refine map_by (fun k acc e => ∃ ys zs a c x, acc = nmL ys ∧ ys.length = k ∧ (ys ++ zs).Perm ((List.range 20).map (nm st hd)) ∧ Sat (M + 8 + k) a b c ∧
        e = [some (.l [.d (.int a), .d (.int b), .d (.int c)]), some (.d (.int many)), some (.d (.str hd)), some (.d (.int st)), some (.l (nmL zs)), x, y, z]) 0 ⟨[], _, a, c, x, rfl, rfl, List.Perm.refl _, hS5, rfl⟩ ?_ ?_
      · rintro j d acc e hj ⟨ys, zs, a, c, x, rfl, hy, hp, hS6, rfl⟩
        obtain ⟨hj, rfl⟩ := rng_at hj
        have hzl : ys.length + zs.length = 20 := by
          have := hp.length_eq
          simpa using this
        have hz1 : 1 ≤ zs.length := by omega
        simp (config := { maxSteps := 1000000 }) only [w_bind, w_ret, w_ok, w_seq, w_if, w_ifE, w_test, w_and, w_or, w_not, w_andV, w_orV, w_notV, w_do, w_rt, w_asg, w_C, w_var, w_args0, w_args1, w_plc, w_own, w_val, w_prim, w_list, w_tup, w_call, w_callIo, w_callK, w_chain, w_for, w_items, w_rng, w_lc, w_meth1, w_setL2, w_stores, w_aug, mNx, mRetN, startE, rds, HE.rd, sh1, sh2, dp1, dp2, gAdd, DL.gSub, gLt, gLe, gGt, gGe, gOrd, gEq, gNe, gIsI, gLen, gIx, dat, gMax2, gMin2, gAbs, gNeg, gAddI, gTupOf, gListOf, gIsN, DL.is_int, DL.is_bool, DL.is_str, DL.is_tuple, DL.is_list, OD.erase, OD.noS, noSL, OD.shallow, OD.isD, OD.still, allStill, boolOf, aName, outs, wipeE, isL, DL.intAt, DL.putAll, allO, allD, itemsOf, rngA, rngB, List.getElem?_cons_zero, List.getElem?_cons_succ, List.set_cons_zero, List.set_cons_succ, List.length_cons, List.length_nil, List.map_cons, List.map_nil, List.cons_append, List.nil_append, List.replicate_succ, List.replicate_zero, List.all_cons, List.all_nil, List.eraseIdx_cons_zero, List.eraseIdx_cons_succ, List.drop_succ_cons, List.drop_zero, List.filterMap_cons, List.filterMap_nil, Option.some.injEq, exists_eq_left', exists_eq_left, exists_eq', exists_eq, Option.join_some, Option.map_some, if_true, if_false, true_and, and_true, Bool.true_and, Bool.and_true, Bool.not_true, Bool.not_false, reduceCtorEq, false_and, exists_false, Bool.false_eq_true, OD.d.injEq, OD.l.injEq, HE.o.injEq, HE.al.injEq, List.cons.injEq, PyData.bool.injEq, PyData.int.injEq, PyData.str.injEq, ite_true, ite_false, Nat.reduceSub, Nat.reduceAdd, Nat.reduceLT, Bool.and_self, Bool.or_true, Bool.true_or, Bool.or_false, Bool.false_or, Bool.false_and, Bool.and_false, nmL_len]
        refine (v_pluck a b c zs.length (M + 8 + (0 + j)) hS6 (by omega) (by omega) (by omega)).imp ?_ (fun _ _ z => z.elim)
        rintro o l ⟨r, a3, c3, rfl, rfl, r0, r1, hS7⟩
        obtain ⟨r, rfl⟩ : ∃ n : Nat, r = (n : Int) := ⟨r.toNat, by omega⟩
        have hr : r < zs.length := by omega
        have bd : (-(2 ^ 63) ≤ (r : Int) ∧ (r : Int) < 2 ^ 63) := by omega
        have si : seqIndex? (r : Int) zs.length = some r := by
          rw [seqIndex_of (by omega) (by omega)]
          simp
        have gt : (nmL zs)[r]? = some (.d (.str zs[r])) := by simp [nmL, hr]
        have er : (nmL zs).eraseIdx r = nmL (zs.eraseIdx r) := by unfold nmL; exact erase_map _ _ _
        simp (config := { maxSteps := 1000000 }) only [w_bind, w_ret, w_ok, w_seq, w_if, w_ifE, w_test, w_and, w_or, w_not, w_andV, w_orV, w_notV, w_do, w_rt, w_asg, w_C, w_var, w_args0, w_args1, w_plc, w_own, w_val, w_prim, w_list, w_tup, w_call, w_callIo, w_callK, w_chain, w_for, w_items, w_rng, w_lc, w_meth1, w_setL2, w_stores, w_aug, mNx, mRetN, startE, rds, HE.rd, sh1, sh2, dp1, dp2, gAdd, DL.gSub, gLt, gLe, gGt, gGe, gOrd, gEq, gNe, gIsI, gLen, gIx, dat, gMax2, gMin2, gAbs, gNeg, gAddI, gTupOf, gListOf, gIsN, DL.is_int, DL.is_bool, DL.is_str, DL.is_tuple, DL.is_list, OD.erase, OD.noS, noSL, OD.shallow, OD.isD, OD.still, allStill, boolOf, aName, outs, wipeE, isL, DL.intAt, DL.putAll, allO, allD, itemsOf, rngA, rngB, List.getElem?_cons_zero, List.getElem?_cons_succ, List.set_cons_zero, List.set_cons_succ, List.length_cons, List.length_nil, List.map_cons, List.map_nil, List.cons_append, List.nil_append, List.replicate_succ, List.replicate_zero, List.all_cons, List.all_nil, List.eraseIdx_cons_zero, List.eraseIdx_cons_succ, List.drop_succ_cons, List.drop_zero, List.filterMap_cons, List.filterMap_nil, Option.some.injEq, exists_eq_left', exists_eq_left, exists_eq', exists_eq, Option.join_some, Option.map_some, if_true, if_false, true_and, and_true, Bool.true_and, Bool.and_true, Bool.not_true, Bool.not_false, reduceCtorEq, false_and, exists_false, Bool.false_eq_true, OD.d.injEq, OD.l.injEq, HE.o.injEq, HE.al.injEq, List.cons.injEq, PyData.bool.injEq, PyData.int.injEq, PyData.str.injEq, ite_true, ite_false, Nat.reduceSub, Nat.reduceAdd, Nat.reduceLT, Bool.and_self, Bool.or_true, Bool.true_or, Bool.or_false, Bool.false_or, Bool.false_and, Bool.and_false, fPopAt, bd, si, gt, er, nmL_len]
        refine ⟨_, _, rfl, ys ++ [zs[r]], zs.eraseIdx r, a3, c3, some (.d (.int (0 + (j : Int)))), by simp [nmL], by simp [hy], ?_, hS7.mono (by omega), ?_⟩
        · rw [List.append_assoc]
          exact ((get_perm hr).append_left ys).trans hp
        · simp
      · rintro acc e ⟨ys, zs, a, c, x, rfl, hy, hp, hS6, rfl⟩
        rw [rng_len] at hy hS6
        simp (config := { maxSteps := 1000000 }) only [w_bind, w_ret, w_ok, w_seq, w_if, w_ifE, w_test, w_and, w_or, w_not, w_andV, w_orV, w_notV, w_do, w_rt, w_asg, w_C, w_var, w_args0, w_args1, w_plc, w_own, w_val, w_prim, w_list, w_tup, w_call, w_callIo, w_callK, w_chain, w_for, w_items, w_rng, w_lc, w_meth1, w_setL2, w_stores, w_aug, mNx, mRetN, startE, rds, HE.rd, sh1, sh2, dp1, dp2, gAdd, DL.gSub, gLt, gLe, gGt, gGe, gOrd, gEq, gNe, gIsI, gLen, gIx, dat, gMax2, gMin2, gAbs, gNeg, gAddI, gTupOf, gListOf, gIsN, DL.is_int, DL.is_bool, DL.is_str, DL.is_tuple, DL.is_list, OD.erase, OD.noS, noSL, OD.shallow, OD.isD, OD.still, allStill, boolOf, aName, outs, wipeE, isL, DL.intAt, DL.putAll, allO, allD, itemsOf, rngA, rngB, List.getElem?_cons_zero, List.getElem?_cons_succ, List.set_cons_zero, List.set_cons_succ, List.length_cons, List.length_nil, List.map_cons, List.map_nil, List.cons_append, List.nil_append, List.replicate_succ, List.replicate_zero, List.all_cons, List.all_nil, List.eraseIdx_cons_zero, List.eraseIdx_cons_succ, List.drop_succ_cons, List.drop_zero, List.filterMap_cons, List.filterMap_nil, Option.some.injEq, exists_eq_left', exists_eq_left, exists_eq', exists_eq, Option.join_some, Option.map_some, if_true, if_false, true_and, and_true, Bool.true_and, Bool.and_true, Bool.not_true, Bool.not_false, reduceCtorEq, false_and, exists_false, Bool.false_eq_true, OD.d.injEq, OD.l.injEq, HE.o.injEq, HE.al.injEq, List.cons.injEq, PyData.bool.injEq, PyData.int.injEq, PyData.str.injEq, ite_true, ite_false, Nat.reduceSub, Nat.reduceAdd, Nat.reduceLT, Bool.and_self, Bool.or_true, Bool.true_or, Bool.or_false, Bool.false_or, Bool.false_and, Bool.and_false]
        have nd : (ys ++ zs).Nodup := hp.nodup_iff.mpr (nm_nd hst)
        refine ⟨ys, a, c, rfl, rfl, by omega, (List.nodup_append.mp nd).1, fun u hu => ?_, hS6.mono (by omega)⟩
        obtain ⟨i, hi, rfl⟩ := List.mem_map.mp (hp.mem_iff.mp (List.mem_append_left _ hu))
        exact nm_ok hh hk6 hst (by simpa using hi)
end LW

set_option Elab.async false
set_option linter.all false
set_option autoImplicit false
set_option maxRecDepth 100000
set_option maxHeartbeats 4000000
namespace LW
open PySem PySem.Spec PyProof.Rows L2 DL

def Dv (m s : Int) : Int := s * prodI (m - 1) (s - 1).toNat
def repOk (d : PyData) : Bool := d.showable && decide (d.depth ≤ 60) && decide (d.shown.length ≤ sizeLine)
theorem reps_all : ∀ m < 21, ∀ s < 21, s ≤ m → (repOk (.list [.int (Dv (m : Nat) (s : Nat)), .int (Dv (m : Nat) (s : Nat))]) && repOk (.int (Dv (m : Nat) (s : Nat)))) = true := by decide +kernel
theorem gRepr_ok {d : PyData} (h : repOk d = true) : gRepr d = some (.d (.str d.shown)) := if_pos h
theorem gNe_same (x : Str) : gNe (.str x) (.str x) = some (.d (.bool false)) := by
  simp [gNe, fewDeep, PyData.plain, PyData.depth, PyData.eqv]
theorem nmL_isd (xs : List Str) : (nmL xs).all OD.isD = true := by
  unfold nmL
  rw [List.all_map]
  exact List.all_eq_true.mpr fun _ _ => rfl
theorem nmL_er (xs : List Str) : (nmL xs).map OD.erase = xs.map PyData.str := by
  unfold nmL
  rw [List.map_map]
  exact List.map_congr_left fun _ _ => by simp [OD.erase]
theorem w_yes {e : DEnv} {Q : Bool → DEnv → Prop} {Qx : Xn → DEnv → Prop} : Mwp (mYes e) Q Qx ↔ Q true e := Iff.rfl
def txt : PyData → Str
  | .str x => x
  | _ => Str.empty
theorem perm_strs {l : List PyData} {xs : List Str} (h : l.Perm (xs.map .str)) : ∃ ys : List Str, l = ys.map .str ∧ ys.Perm xs := by
  refine ⟨l.map txt, ?_, ?_⟩
  · rw [List.map_map]
    refine (List.map_id l).symm.trans (List.map_congr_left fun d hd => ?_)
    obtain ⟨x, _, rfl⟩ := List.mem_map.mp (h.mem_iff.mp hd)
    rfl
  · have := h.map txt
    rw [List.map_map] at this
    refine this.trans (List.Perm.of_eq ((List.map_congr_left fun x _ => ?_).trans (List.map_id xs)))
    rfl
theorem sortB_strs (xs : List Str) : sortB (xs.map .str) = true := by
  unfold sortB
  simp [List.all_map, Function.comp_def, PySem.W.alike, PyData.depth]
theorem sorted_strs (xs : List Str) : ∃ ys : List Str, sortD (xs.map .str) = ys.map .str ∧ ys.Perm xs := perm_strs (List.mergeSort_perm _ _)
theorem at_last {xs : List Str} (h : 1 ≤ xs.length) : ∃ x ∈ xs, atI (nmL xs) (-1) = some (.d (.str x)) := by
  refine ⟨xs[xs.length - 1], List.getElem_mem _, ?_⟩
  have : ixN (nmL xs).length (-1) = some (xs.length - 1) := by
    rw [nmL_len]
    unfold ixN
    rw [if_neg (by decide), if_pos (by omega)]
    congr 1
    omega
  unfold atI
  rw [this]
  show (nmL xs)[xs.length - 1]? = _
  unfold nmL
  rw [List.getElem?_map, List.getElem?_eq_getElem (by omega)]
  rfl
theorem at_nm {xs : List Str} {r : Nat} (h : r < xs.length) : atI (nmL xs) ((r : Nat) : Int) = some (.d (.str xs[r])) := by
  have : ixN (nmL xs).length (r : Int) = some r := by
    rw [nmL_len]
    unfold ixN
    rw [if_pos (by omega), if_pos (by omega)]
    simp
  unfold atI
  rw [this]
  show (nmL xs)[r]? = _
  unfold nmL
  rw [List.getElem?_map, List.getElem?_eq_getElem h]
  rfl
theorem v_count' {xs : List Str} {x : Str} {n : Int} {m : Nat} (hm : xs.length = m) (h : ∀ x ∈ xs, nameOk x) (hn : xs.Nodup) (h1 : 1 ≤ m) (h2 : m ≤ 20) (hx : x ∈ xs) (n1 : 1 ≤ n) (n2 : n ≤ m) :
    f_count_lists [.d (.tuple (xs.map .str)), .d (.str x), .d (.int n)] = some (.ok (.d (.int (Dv m n))), []) := by
  subst hm
  exact v_count h hn h1 h2 hx n1 n2
theorem er_d (xs : List PyData) : (xs.map OD.d).map OD.erase = xs := erase_ds xs
theorem isd_d (xs : List PyData) : (xs.map OD.d).all OD.isD = true := all_isD xs
def k20 : List Str := (List.range 20).map fun i => ⟨#[97 + i]⟩
theorem k20_chars : chars "abcdefghijklmnopqrst" = k20.map .str := rfl
theorem k20_ok : ∀ x ∈ k20, nameOk x := by decide +kernel
theorem k20_nd : k20.Nodup := by decide +kernel
theorem k20_k : ("k" : Str) ∈ k20 := by decide +kernel
theorem a1_ok : ∀ x ∈ [("a" : Str)], nameOk x := by decide +kernel
theorem last_k : f_count_lists [.d (.tuple (k20.map .str)), .d (.str "k"), .d (.int 20)] = some (.ok (.d (.int 2432902008176640000)), []) := v_count' (m := 20) rfl k20_ok k20_nd (by decide) (by decide) k20_k (by decide) (by decide)
theorem last_a : f_count_lists [.d (.tuple [.str "a"]), .d (.str "a"), .d (.int 1)] = some (.ok (.d (.int 1)), []) := v_count' (xs := [("a" : Str)]) (m := 1) rfl a1_ok (by decide) (by decide) (by decide) (by simp) (by decide) (by decide)
theorem eq_ok (i : Int) : gEq (.int i) (.int i) = some (.d (.bool true)) := by simp [gEq, fewDeep, PyData.plain, PyData.depth, PyData.eqv]
def Env (ns : List Int) (e : DEnv) : Prop := ∃ x1 x2 x3 x4 x5 x6 x7 x8 x9, e = [some (.s ns), x1, x2, x3, x4, x5, x6, x7, x8, x9]
theorem law_end (ns : List Int) : ∀ e, Env ns e → Mwp ((mSeq (mAsg (prim (sh1 gTupStr) [.own (mC (.str "abcdefghijklmnopqrst"))]) (aName 2))
    (mRet (mAndV (prim (dp2 gEq) [.own (mCall f_count_lists [.val (mVar 2), .val (mC (.str "k")), .val (mC (.int 20))]), .own (mC (.int 2432902008176640000))]) (prim (dp2 gEq) [.own (mCall f_count_lists [.val (mTup [.val (mC (.str "a"))]), .val (mC (.str "a")), .val (mC (.int 1))]), .own (mC (.int 1))])))) e)
    (fun fl e => fl = .rt (.d (.bool true))) (fun _ _ => False) := by
  rintro e ⟨x1, x2, x3, x4, x5, x6, x7, x8, x9, rfl⟩
  have sz : (1 : Nat) ≤ sizeLine := by decide
  have q1 : gEq (.int 2432902008176640000) (.int 2432902008176640000) = some (.d (.bool true)) := eq_ok _
  have q2 : gEq (.int 1) (.int 1) = some (.d (.bool true)) := eq_ok _
  simp (config := { maxSteps := 1000000 }) only [w_bind, w_ret, w_ok, w_seq, w_andV, w_rt, w_asg, w_C, w_var, w_args0, w_args1, w_plc, w_own, w_val, w_prim, w_tup, w_call, startE, rds, HE.rd, sh1, sh2, dp1, dp2, gAdd, DL.gSub, gLt, gLe, gGt, gGe, gOrd, gIsI, gLen, gIx, dat, gMax2, gMin2, gAbs, gNeg, gAddI, gTupOf, gListOf, gIsN, DL.is_int, DL.is_bool, DL.is_str, DL.is_tuple, DL.is_list, OD.erase, OD.noS, noSL, OD.shallow, OD.isD, OD.still, allStill, boolOf, aName, outs, wipeE, isL, DL.intAt, DL.putAll, allO, allD, itemsOf, rngA, rngB, List.getElem?_cons_zero, List.getElem?_cons_succ, List.set_cons_zero, List.set_cons_succ, List.length_cons, List.length_nil, List.map_cons, List.map_nil, List.cons_append, List.nil_append, List.replicate_succ, List.replicate_zero, List.all_cons, List.all_nil, List.eraseIdx_cons_zero, List.eraseIdx_cons_succ, List.drop_succ_cons, List.drop_zero, List.filterMap_cons, List.filterMap_nil, Option.some.injEq, exists_eq_left', exists_eq_left, exists_eq', exists_eq, Option.join_some, Option.map_some, if_true, if_false, true_and, and_true, Bool.true_and, Bool.and_true, Bool.not_true, Bool.not_false, reduceCtorEq, false_and, exists_false, Bool.false_eq_true, OD.d.injEq, OD.l.injEq, HE.o.injEq, HE.al.injEq, List.cons.injEq, PyData.bool.injEq, PyData.int.injEq, PyData.str.injEq, ite_true, ite_false, Nat.reduceSub, Nat.reduceAdd, Nat.reduceLT, Bool.and_self, Bool.or_true, Bool.true_or, Bool.or_false, Bool.false_or, Bool.false_and, Bool.and_false, gTupStr, k20_chars, last_k, last_a, fw_ok, sz, q1, q2]
theorem reps_of {m : Nat} {s : Int} (h1 : 1 ≤ s) (h2 : s ≤ m) (hm : m ≤ 20) : repOk (.list [.int (Dv m s), .int (Dv m s)]) = true ∧ repOk (.int (Dv m s)) = true := by
  obtain ⟨s, rfl⟩ : ∃ n : Nat, s = (n : Int) := ⟨s.toNat, by omega⟩
  have := reps_all m (by omega) s (by omega) (by omega)
  rw [Bool.and_eq_true] at this
  exact this
/-- one length -/
theorem size_turn (ns : List Int) (m M : Nat) (b : Int) (xs : List Str) (hm : xs.length = m) (hok : ∀ x ∈ xs, nameOk x) (hnd : xs.Nodup) (m1 : 1 ≤ m) (m2 : m ≤ 20) (hM : M ≤ 9000) (j : Nat) (hj : j < m) (x1 x2 x7 x8 x9 : Option OD) (a c : Int) (hS : Sat (M + j) a b c) :
    Mwp ((mSeq (mAsg (mCall f__law_due [.val (mVar 4), .val (mVar 6)]) (aName 7))
    (mSeq (mAsg (mList [.own (prim gIx [.plc 5, .own (mC (.int 0))]), .own (prim gIx [.plc 5, .own (mCallIo 0 f__law_pluck [.plc 3, .val (mVar 4)])])]) (aName 2))
    (mSeq (mAsg (mLc (mItems (.val (mVar 2))) (aName 9) mYes (mCall f_count_lists [.val (prim (sh1 gTupOf) [.plc 5]), .val (mVar 9), .val (mVar 6)]) [9]) (aName 8))
    (mSeq (mIf (mTest (prim (dp2 gNe) [.own (prim (dp1 gRepr) [.plc 8]), .own (prim (dp1 gRepr) [.own (mList [.own (mVar 7), .own (mVar 7)])])])) (mRet (mC (.bool false))) (mNx))
    (mSeq (mAsg (mCallK [0, 2, 1] f_count_lists [.val (prim (sh1 gTupOf) [.own (prim (sh1 gSorted) [.plc 5])]), .val (mVar 6), .val (prim gIx [.plc 5, .own (prim (sh1 gNeg) [.own (mC (.int 1))])])]) (aName 8))
    (mIf (mTest (prim (dp2 gNe) [.own (prim (dp1 gRepr) [.plc 8]), .own (prim (dp1 gRepr) [.plc 7])])) (mRet (mC (.bool false))) (mNx)))))))
    [some (.s ns), x1, x2, some (.l [.d (.int a), .d (.int b), .d (.int c)]), some (.d (.int m)), some (.l (nmL xs)), some (.d (.int (1 + (j : Int)))), x7, x8, x9])
    (fun fl e => fl = .nx ∧ ∃ x2 x7 x8 x9 a c, Sat (M + j + 1) a b c ∧ e = [some (.s ns), x1, x2, some (.l [.d (.int a), .d (.int b), .d (.int c)]), some (.d (.int m)), some (.l (nmL xs)), some (.d (.int (1 + (j : Int)))), x7, x8, x9]) (fun _ _ => False) := by
  have s1 : 1 ≤ 1 + (j : Int) := by omega
  have s2 : 1 + (j : Int) ≤ (m : Int) := by omega
  have hdue := v_due m (1 + j) s1 (by omega) (by omega) (by omega)
  obtain ⟨r1, r2⟩ := reps_of s1 s2 m2
  have t1 := gRepr_ok r1
  have t2 := gRepr_ok r2
  have a0 : atI (nmL xs) 0 = some (.d (.str xs[0])) := at_nm (r := 0) (by omega)
  obtain ⟨xl, hxl, al⟩ := at_last (xs := xs) (by omega)
  obtain ⟨ys, hys, hyp⟩ := sorted_strs xs
  have c0 := v_count' (n := 1 + j) hm hok hnd m1 m2 (List.getElem_mem (show 0 < xs.length by omega)) s1 s2
  have cl := v_count' (xs := ys) (n := 1 + j) (m := m) (by rw [hyp.length_eq]; exact hm) (fun x hx => hok x (hyp.mem_iff.mp hx)) (hyp.nodup_iff.mpr hnd) m1 m2 (hyp.mem_iff.mpr hxl) s1 s2
  have sz2 : (2 : Nat) ≤ sizeLine := by decide
  simp (config := { maxSteps := 2000000 }) only [w_bind, w_ret, w_ok, w_seq, w_if, w_test, w_rt, w_asg, w_C, w_var, w_args0, w_args1, w_plc, w_own, w_val, w_prim, w_list, w_call, w_callIo, w_callK, w_items, w_lc, mNx, startE, rds, HE.rd, sh1, sh2, dp1, dp2, gAdd, DL.gSub, gLt, gLe, gGt, gGe, gOrd, gIsI, gLen, gIx, dat, gMax2, gMin2, gAbs, gNeg, gAddI, gTupOf, gListOf, gIsN, DL.is_int, DL.is_bool, DL.is_str, DL.is_tuple, DL.is_list, OD.erase, OD.noS, noSL, OD.shallow, OD.isD, OD.still, allStill, boolOf, aName, outs, wipeE, isL, DL.intAt, DL.putAll, allO, allD, itemsOf, rngA, rngB, List.getElem?_cons_zero, List.getElem?_cons_succ, List.set_cons_zero, List.set_cons_succ, List.length_cons, List.length_nil, List.map_cons, List.map_nil, List.cons_append, List.nil_append, List.replicate_succ, List.replicate_zero, List.all_cons, List.all_nil, List.eraseIdx_cons_zero, List.eraseIdx_cons_succ, List.drop_succ_cons, List.drop_zero, List.filterMap_cons, List.filterMap_nil, Option.some.injEq, exists_eq_left', exists_eq_left, exists_eq', exists_eq, Option.join_some, Option.map_some, if_true, if_false, true_and, and_true, Bool.true_and, Bool.and_true, Bool.not_true, Bool.not_false, reduceCtorEq, false_and, exists_false, Bool.false_eq_true, OD.d.injEq, OD.l.injEq, HE.o.injEq, HE.al.injEq, List.cons.injEq, PyData.bool.injEq, PyData.int.injEq, PyData.str.injEq, ite_true, ite_false, Nat.reduceSub, Nat.reduceAdd, Nat.reduceLT, Bool.and_self, Bool.or_true, Bool.true_or, Bool.or_false, Bool.false_or, Bool.false_and, Bool.and_false, hdue, fw_ok, a0, Option.bind_some]
  refine (v_pluck a b c m (M + j) hS (by omega) (by omega) (by omega)).imp ?_ (fun _ _ z => z.elim)
  rintro o l ⟨r, a3, c3, rfl, rfl, r0, r3, hS2⟩
  obtain ⟨r, rfl⟩ : ∃ n : Nat, r = (n : Int) := ⟨r.toNat, by omega⟩
  have hr : r < xs.length := by omega
  have ar := at_nm hr
  have cr := v_count' (n := 1 + j) hm hok hnd m1 m2 (List.getElem_mem hr) s1 s2
  have D0 : (1 + (j : Int)) * prodI ((m : Int) - 1) (1 + (j : Int) - 1).toNat = Dv m (1 + j) := rfl
  simp (config := { maxSteps := 2000000 }) only [w_bind, w_ret, w_ok, w_seq, w_if, w_test, w_rt, w_asg, w_C, w_var, w_args0, w_args1, w_plc, w_own, w_val, w_prim, w_list, w_call, w_callIo, w_callK, w_items, w_lc, w_map1, w_map0, w_yes, mNx, startE, rds, HE.rd, sh1, sh2, dp1, dp2, gAdd, DL.gSub, gLt, gLe, gGt, gGe, gOrd, gIsI, gLen, gIx, dat, gMax2, gMin2, gAbs, gNeg, gAddI, gTupOf, gListOf, gIsN, DL.is_int, DL.is_bool, DL.is_str, DL.is_tuple, DL.is_list, OD.erase, OD.noS, noSL, OD.shallow, OD.isD, OD.still, allStill, boolOf, aName, outs, wipeE, isL, DL.intAt, DL.putAll, allO, allD, itemsOf, rngA, rngB, List.getElem?_cons_zero, List.getElem?_cons_succ, List.set_cons_zero, List.set_cons_succ, List.length_cons, List.length_nil, List.map_cons, List.map_nil, List.cons_append, List.nil_append, List.replicate_succ, List.replicate_zero, List.all_cons, List.all_nil, List.eraseIdx_cons_zero, List.eraseIdx_cons_succ, List.drop_succ_cons, List.drop_zero, List.filterMap_cons, List.filterMap_nil, Option.some.injEq, exists_eq_left', exists_eq_left, exists_eq', exists_eq, Option.join_some, Option.map_some, if_true, if_false, true_and, and_true, Bool.true_and, Bool.and_true, Bool.not_true, Bool.not_false, reduceCtorEq, false_and, exists_false, Bool.false_eq_true, OD.d.injEq, OD.l.injEq, HE.o.injEq, HE.al.injEq, List.cons.injEq, PyData.bool.injEq, PyData.int.injEq, PyData.str.injEq, ite_true, ite_false, Nat.reduceSub, Nat.reduceAdd, Nat.reduceLT, Bool.and_self, Bool.or_true, Bool.true_or, Bool.or_false, Bool.false_or, Bool.false_and, Bool.and_false, fw_ok, ar, Option.bind_some, sz2, eraseL_map, nmL_isd, nmL_er, er_d, isd_d, c0, cr, cl, D0, t1, t2, gNe_same, gSorted, sortB_strs, hys, al]
  exact ⟨_, _, _, _, a3, c3, hS2, rfl, ⟨rfl, rfl⟩, rfl, rfl, rfl⟩
theorem law_run (ns : List Int) : Mwp (m_law (startE 10 [.s ns])) (fun fl e => fl = .rt (.d (.bool true))) (fun _ _ => False) := by
  unfold m_law
  rw [w_seq, w_for]
  have hr : Mwp (mRng rngA [.own (prim (gMax2) [.own (mC (.int 1)), .own (prim (gMin2) [.own (mC (.int 6)), .own (prim (gLen) [.plc 0])])])] (startE 10 [.s ns])) (fun ds e => ∃ T : Nat, T ≤ 6 ∧ ds = rngOf 0 T ∧ Env ns e) (fun _ _ => False) := by
    have hT : ∃ T : Nat, T ≤ 6 ∧ (if (if (ns.length : Int) < 6 then (ns.length : Int) else 6) > 1 then (if (ns.length : Int) < 6 then (ns.length : Int) else 6) else 1) = (T : Int) := by
      by_cases h1 : (ns.length : Int) < 6
      · by_cases h2 : (ns.length : Int) > 1
        · exact ⟨ns.length, by omega, by rw [if_pos h1, if_pos h2]⟩
        · exact ⟨1, by omega, by rw [if_pos h1, if_neg h2]; rfl⟩
      · exact ⟨6, by omega, by rw [if_neg h1, if_pos (by decide)]; rfl⟩
    obtain ⟨T, hT, eT⟩ := hT
    have sm : smallB (T : Int) = true := by simp [smallB]; omega
    simp only [w_rng, w_args0, w_args1, w_own, w_prim, w_plc, w_C, startE, rds, HE.rd, sh1, sh2, dp1, dp2, gAdd, DL.gSub, gLt, gLe, gGt, gGe, gOrd, gIsI, gLen, gIx, dat, gMax2, gMin2, gAbs, gNeg, gAddI, gTupOf, gListOf, gIsN, DL.is_int, DL.is_bool, DL.is_str, DL.is_tuple, DL.is_list, OD.erase, OD.noS, noSL, OD.shallow, OD.isD, OD.still, allStill, boolOf, aName, outs, wipeE, isL, DL.intAt, DL.putAll, allO, allD, itemsOf, rngA, rngB, List.getElem?_cons_zero, List.getElem?_cons_succ, List.set_cons_zero, List.set_cons_succ, List.length_cons, List.length_nil, List.map_cons, List.map_nil, List.cons_append, List.nil_append, List.replicate_succ, List.replicate_zero, List.all_cons, List.all_nil, List.eraseIdx_cons_zero, List.eraseIdx_cons_succ, List.drop_succ_cons, List.drop_zero, List.filterMap_cons, List.filterMap_nil, Option.some.injEq, exists_eq_left', exists_eq_left, exists_eq', exists_eq, Option.join_some, Option.map_some, if_true, if_false, true_and, and_true, Bool.true_and, Bool.and_true, Bool.not_true, Bool.not_false, reduceCtorEq, false_and, exists_false, Bool.false_eq_true, OD.d.injEq, OD.l.injEq, HE.o.injEq, HE.al.injEq, List.cons.injEq, PyData.bool.injEq, PyData.int.injEq, PyData.str.injEq, ite_true, ite_false, Nat.reduceSub, Nat.reduceAdd, Nat.reduceLT, Bool.and_self, Bool.or_true, Bool.true_or, Bool.or_false, Bool.false_or, Bool.false_and, Bool.and_false, eT, sm]
    exact ⟨T, hT, rfl, _, _, _, _, _, _, _, _, _, rfl⟩
  refine hr.imp (fun ds e _ h => ?_) (fun _ _ _ z => z)
  obtain ⟨T, hT, rfl, he⟩ := h
  refine each_by (fun k e => Env ns e) 0 he ?_ (law_end ns)
  rintro j d e hj ⟨x1, x2, x3, x4, x5, x6, x7, x8, x9, rfl⟩
  obtain ⟨hj, rfl⟩ := rng_at hj
  refine ⟨_, rfl, ?_⟩
  have sz2 : (2 : Nat) ≤ sizeLine := by decide
  simp (config := { maxSteps := 2000000 }) only [w_bind, w_ret, w_ok, w_seq, w_asg, w_C, w_var, w_args0, w_args1, w_plc, w_own, w_val, w_prim, w_list, w_call, w_callIo, w_for, w_items, mNx, startE, rds, HE.rd, sh1, sh2, dp1, dp2, gAdd, DL.gSub, gLt, gLe, gGt, gGe, gOrd, gIsI, gLen, gIx, dat, gMax2, gMin2, gAbs, gNeg, gAddI, gTupOf, gListOf, gIsN, DL.is_int, DL.is_bool, DL.is_str, DL.is_tuple, DL.is_list, OD.erase, OD.noS, noSL, OD.shallow, OD.isD, OD.still, allStill, boolOf, aName, outs, wipeE, isL, DL.intAt, DL.putAll, allO, allD, itemsOf, rngA, rngB, List.getElem?_cons_zero, List.getElem?_cons_succ, List.set_cons_zero, List.set_cons_succ, List.length_cons, List.length_nil, List.map_cons, List.map_nil, List.cons_append, List.nil_append, List.replicate_succ, List.replicate_zero, List.all_cons, List.all_nil, List.eraseIdx_cons_zero, List.eraseIdx_cons_succ, List.drop_succ_cons, List.drop_zero, List.filterMap_cons, List.filterMap_nil, Option.some.injEq, exists_eq_left', exists_eq_left, exists_eq', exists_eq, Option.join_some, Option.map_some, if_true, if_false, true_and, and_true, Bool.true_and, Bool.and_true, Bool.not_true, Bool.not_false, reduceCtorEq, false_and, exists_false, Bool.false_eq_true, OD.d.injEq, OD.l.injEq, HE.o.injEq, HE.al.injEq, List.cons.injEq, PyData.bool.injEq, PyData.int.injEq, PyData.str.injEq, ite_true, ite_false, Nat.reduceSub, Nat.reduceAdd, Nat.reduceLT, Bool.and_self, Bool.or_true, Bool.true_or, Bool.or_false, Bool.false_or, Bool.false_and, Bool.and_false, Int.zero_add]
  refine (v_satchel ns j (by omega)).imp ?_ (fun _ _ z => z.elim)
  rintro o l ⟨a, b, c, rfl, rfl, hS⟩
  simp (config := { maxSteps := 2000000 }) only [w_bind, w_ret, w_ok, w_seq, w_asg, w_C, w_var, w_args0, w_args1, w_plc, w_own, w_val, w_prim, w_list, w_call, w_callIo, w_for, w_items, mNx, startE, rds, HE.rd, sh1, sh2, dp1, dp2, gAdd, DL.gSub, gLt, gLe, gGt, gGe, gOrd, gIsI, gLen, gIx, dat, gMax2, gMin2, gAbs, gNeg, gAddI, gTupOf, gListOf, gIsN, DL.is_int, DL.is_bool, DL.is_str, DL.is_tuple, DL.is_list, OD.erase, OD.noS, noSL, OD.shallow, OD.isD, OD.still, allStill, boolOf, aName, outs, wipeE, isL, DL.intAt, DL.putAll, allO, allD, itemsOf, rngA, rngB, List.getElem?_cons_zero, List.getElem?_cons_succ, List.set_cons_zero, List.set_cons_succ, List.length_cons, List.length_nil, List.map_cons, List.map_nil, List.cons_append, List.nil_append, List.replicate_succ, List.replicate_zero, List.all_cons, List.all_nil, List.eraseIdx_cons_zero, List.eraseIdx_cons_succ, List.drop_succ_cons, List.drop_zero, List.filterMap_cons, List.filterMap_nil, Option.some.injEq, exists_eq_left', exists_eq_left, exists_eq', exists_eq, Option.join_some, Option.map_some, if_true, if_false, true_and, and_true, Bool.true_and, Bool.and_true, Bool.not_true, Bool.not_false, reduceCtorEq, false_and, exists_false, Bool.false_eq_true, OD.d.injEq, OD.l.injEq, HE.o.injEq, HE.al.injEq, List.cons.injEq, PyData.bool.injEq, PyData.int.injEq, PyData.str.injEq, ite_true, ite_false, Nat.reduceSub, Nat.reduceAdd, Nat.reduceLT, Bool.and_self, Bool.or_true, Bool.true_or, Bool.or_false, Bool.false_or, Bool.false_and, Bool.and_false, Int.zero_add]
  refine (v_pluck a b c 20 0 hS (by omega) (by decide) (by decide)).imp ?_ (fun _ _ z => z.elim)
  rintro o l ⟨r, a3, c3, rfl, rfl, r0, r3, hS2⟩
  obtain ⟨r, rfl⟩ : ∃ n : Nat, r = (n : Int) := ⟨r.toNat, by omega⟩
  simp (config := { maxSteps := 2000000 }) only [w_bind, w_ret, w_ok, w_seq, w_asg, w_C, w_var, w_args0, w_args1, w_plc, w_own, w_val, w_prim, w_list, w_call, w_callIo, w_for, w_items, mNx, startE, rds, HE.rd, sh1, sh2, dp1, dp2, gAdd, DL.gSub, gLt, gLe, gGt, gGe, gOrd, gIsI, gLen, gIx, dat, gMax2, gMin2, gAbs, gNeg, gAddI, gTupOf, gListOf, gIsN, DL.is_int, DL.is_bool, DL.is_str, DL.is_tuple, DL.is_list, OD.erase, OD.noS, noSL, OD.shallow, OD.isD, OD.still, allStill, boolOf, aName, outs, wipeE, isL, DL.intAt, DL.putAll, allO, allD, itemsOf, rngA, rngB, List.getElem?_cons_zero, List.getElem?_cons_succ, List.set_cons_zero, List.set_cons_succ, List.length_cons, List.length_nil, List.map_cons, List.map_nil, List.cons_append, List.nil_append, List.replicate_succ, List.replicate_zero, List.all_cons, List.all_nil, List.eraseIdx_cons_zero, List.eraseIdx_cons_succ, List.drop_succ_cons, List.drop_zero, List.filterMap_cons, List.filterMap_nil, Option.some.injEq, exists_eq_left', exists_eq_left, exists_eq', exists_eq, Option.join_some, Option.map_some, if_true, if_false, true_and, and_true, Bool.true_and, Bool.and_true, Bool.not_true, Bool.not_false, reduceCtorEq, false_and, exists_false, Bool.false_eq_true, OD.d.injEq, OD.l.injEq, HE.o.injEq, HE.al.injEq, List.cons.injEq, PyData.bool.injEq, PyData.int.injEq, PyData.str.injEq, ite_true, ite_false, Nat.reduceSub, Nat.reduceAdd, Nat.reduceLT, Bool.and_self, Bool.or_true, Bool.true_or, Bool.or_false, Bool.false_or, Bool.false_and, Bool.and_false, Int.zero_add, sz2, eraseL_map]
  refine each_by (fun k e => ∃ x2 x4 x5 x6 x7 x8 x9 a c, Sat (1 + 1000 * k) a b c ∧ e = [some (.s ns), some (.d (.int j)), x2, some (.l [.d (.int a), .d (.int b), .d (.int c)]), x4, x5, x6, x7, x8, x9]) 0 ⟨x2, x4, x5, x6, x7, x8, x9, a3, c3, hS2, rfl⟩ ?_ ?_
  · rintro k d e hk ⟨y2, y4, y5, y6, y7, y8, y9, a, c, hS3, rfl⟩
    obtain ⟨m, rfl, m1, m2, hk2⟩ : ∃ m : Nat, d = .int (m : Int) ∧ 1 ≤ m ∧ m ≤ 20 ∧ k < 2 := by
      match k, hk with
      | 0, hk =>
        simp at hk
        subst hk
        exact ⟨1 + r, by simp, by omega, by omega, by omega⟩
      | 1, hk =>
        simp at hk
        subst hk
        exact ⟨20, rfl, by omega, by omega, by omega⟩
      | k + 2, hk => simp at hk
    refine ⟨_, rfl, ?_⟩
    have sm1 : smallB 1 = true := rfl
    have sm2 : smallB ((m : Int) + 1) = true := by simp [smallB]; omega
    simp (config := { maxSteps := 2000000 }) only [w_bind, w_ret, w_ok, w_seq, w_asg, w_C, w_var, w_args0, w_args1, w_plc, w_own, w_val, w_prim, w_list, w_call, w_callIo, w_for, w_rng, mNx, startE, rds, HE.rd, sh1, sh2, dp1, dp2, gAdd, DL.gSub, gLt, gLe, gGt, gGe, gOrd, gIsI, gLen, gIx, dat, gMax2, gMin2, gAbs, gNeg, gAddI, gTupOf, gListOf, gIsN, DL.is_int, DL.is_bool, DL.is_str, DL.is_tuple, DL.is_list, OD.erase, OD.noS, noSL, OD.shallow, OD.isD, OD.still, allStill, boolOf, aName, outs, wipeE, isL, DL.intAt, DL.putAll, allO, allD, itemsOf, rngA, rngB, List.getElem?_cons_zero, List.getElem?_cons_succ, List.set_cons_zero, List.set_cons_succ, List.length_cons, List.length_nil, List.map_cons, List.map_nil, List.cons_append, List.nil_append, List.replicate_succ, List.replicate_zero, List.all_cons, List.all_nil, List.eraseIdx_cons_zero, List.eraseIdx_cons_succ, List.drop_succ_cons, List.drop_zero, List.filterMap_cons, List.filterMap_nil, Option.some.injEq, exists_eq_left', exists_eq_left, exists_eq', exists_eq, Option.join_some, Option.map_some, if_true, if_false, true_and, and_true, Bool.true_and, Bool.and_true, Bool.not_true, Bool.not_false, reduceCtorEq, false_and, exists_false, Bool.false_eq_true, OD.d.injEq, OD.l.injEq, HE.o.injEq, HE.al.injEq, List.cons.injEq, PyData.bool.injEq, PyData.int.injEq, PyData.str.injEq, ite_true, ite_false, Nat.reduceSub, Nat.reduceAdd, Nat.reduceLT, Bool.and_self, Bool.or_true, Bool.true_or, Bool.or_false, Bool.false_or, Bool.false_and, Bool.and_false]
    refine (v_names a b c m (1 + 1000 * (0 + k)) hS3 (by omega) m1 m2).imp ?_ (fun _ _ z => z.elim)
    rintro o l ⟨xs, a4, c4, rfl, rfl, hlen, hnd, hok, hS4⟩
    simp (config := { maxSteps := 2000000 }) only [w_bind, w_ret, w_ok, w_seq, w_asg, w_C, w_var, w_args0, w_args1, w_plc, w_own, w_val, w_prim, w_list, w_call, w_callIo, w_for, w_rng, mNx, startE, rds, HE.rd, sh1, sh2, dp1, dp2, gAdd, DL.gSub, gLt, gLe, gGt, gGe, gOrd, gIsI, gLen, gIx, dat, gMax2, gMin2, gAbs, gNeg, gAddI, gTupOf, gListOf, gIsN, DL.is_int, DL.is_bool, DL.is_str, DL.is_tuple, DL.is_list, OD.erase, OD.noS, noSL, OD.shallow, OD.isD, OD.still, allStill, boolOf, aName, outs, wipeE, isL, DL.intAt, DL.putAll, allO, allD, itemsOf, rngA, rngB, List.getElem?_cons_zero, List.getElem?_cons_succ, List.set_cons_zero, List.set_cons_succ, List.length_cons, List.length_nil, List.map_cons, List.map_nil, List.cons_append, List.nil_append, List.replicate_succ, List.replicate_zero, List.all_cons, List.all_nil, List.eraseIdx_cons_zero, List.eraseIdx_cons_succ, List.drop_succ_cons, List.drop_zero, List.filterMap_cons, List.filterMap_nil, Option.some.injEq, exists_eq_left', exists_eq_left, exists_eq', exists_eq, Option.join_some, Option.map_some, if_true, if_false, true_and, and_true, Bool.true_and, Bool.and_true, Bool.not_true, Bool.not_false, reduceCtorEq, false_and, exists_false, Bool.false_eq_true, OD.d.injEq, OD.l.injEq, HE.o.injEq, HE.al.injEq, List.cons.injEq, PyData.bool.injEq, PyData.int.injEq, PyData.str.injEq, ite_true, ite_false, Nat.reduceSub, Nat.reduceAdd, Nat.reduceLT, Bool.and_self, Bool.or_true, Bool.true_or, Bool.or_false, Bool.false_or, Bool.false_and, Bool.and_false, sm1, sm2]
    refine each_by (fun i e => ∃ x2 x6 x7 x8 x9 a c, Sat (1 + 1000 * (0 + k) + 48 + i) a b c ∧ e = [some (.s ns), some (.d (.int j)), x2, some (.l [.d (.int a), .d (.int b), .d (.int c)]), some (.d (.int m)), some (.l (nmL xs)), x6, x7, x8, x9]) 0 ⟨y2, y6, y7, y8, y9, a4, c4, hS4, rfl⟩ ?_ ?_
    · rintro i d e hi ⟨z2, z6, z7, z8, z9, a, c, hS5, rfl⟩
      obtain ⟨hi, rfl⟩ := rng_at hi
      refine ⟨_, rfl, ?_⟩
      have hS6 : Sat (1 + 1000 * (0 + k) + 48 + i) a b c := hS5.mono (by omega)
      refine (size_turn ns m (1 + 1000 * (0 + k) + 48) b xs hlen hok hnd m1 m2 (by omega) i (by omega) (some (.d (.int j))) z2 z7 z8 z9 a c hS6).imp (fun fl e _ q => ?_) (fun _ _ _ z => z)
      obtain ⟨rfl, w2, w7, w8, w9, a', c', hS7, rfl⟩ := q
      exact ⟨w2, _, w7, w8, w9, a', c', hS7.mono (by omega), rfl⟩
    · rintro e ⟨z2, z6, z7, z8, z9, a, c, hS5, rfl⟩
      rw [rng_len] at hS5
      exact ⟨z2, _, _, z6, z7, z8, z9, a, c, hS5.mono (by omega), rfl⟩
  · rintro e ⟨y2, y4, y5, y6, y7, y8, y9, a, c, hS3, rfl⟩
    exact ⟨_, _, _, _, _, _, _, _, _, rfl⟩
theorem law_true : ∀ ns : List Int, ns.length ≤ 63 → f_law [.s ns] = some (.ok (.d (.bool true)), []) := by
  intro ns _
  rw [← fw_eq]
  unfold f_law
  rw [fw_sem]
  refine (law_run ns).imp (fun fl e _ h => ?_) (fun _ _ _ z => z.elim)
  subst h
  exact ⟨[], rfl, rfl, rfl⟩
end LW

open PySem PySem.W PyProof.Rows
set_option maxRecDepth 100000 in
set_option maxHeartbeats 0 in
theorem PySem.Challenge.cw_copyover_k32_lists_counted_for_many_fold_holds : PySem.Challenge.rw_copyover_k32_lists_counted_for_many_fold.Holds := by
  w_on; o_law; k_head; (case hw => w_witness2)
  k_fill
  refine DL.walk_g (l := PySem.Challenge.rw_copyover_k32_lists_counted_for_many_fold) (n := 63) (k := 7) (x := "script") (fs := LW.f_law) rfl (by decide) rfl ?imp ⟨rfl, by decide, by decide⟩ (fun w h Y => PySem.W.kIn_of Y) ?F LW.law_true
  case imp => first | rfl | decide +kernel
  case F =>
    intro w mg fa h KX G hmg
    refine' LW.all_mk KX G hmg ?a0 ?l0 ?c0 ?k0 ?a1 ?l1 ?c1 ?k1 ?a2 ?l2 ?c2 ?k2 ?a3 ?l3 ?c3 ?k3 ?a4 ?l4 ?c4 ?k4 ?a5 ?l5 ?c5 ?k5 ?a6 ?l6 ?c6 ?k6 ?a7 ?l7 ?c7 ?k7 ?a8 ?l8 ?c8 ?k8 ?a9 ?l9 ?c9 ?k9 ?a10 ?l10 ?c10 ?k10 ?a11 ?l11 ?c11 ?k11 ?a12 ?l12 ?c12 ?k12 ?a13 ?l13 ?c13 ?k13 ?a14 ?l14 ?c14 ?k14 ?a15 ?l15 ?c15 ?k15 ?z0 ?z1 ?z2 ?z3 ?z4 ?z5 ?z6 ?z7 ?z8 ?z9 ?z10 ?z11 ?z12 ?z13 ?y0 ?y1 ?y2
    (case a0 => k_is); (case l0 => k_is); (case c0 => k_is); (case k0 => k_is); (case a1 => k_is); (case l1 => k_is); (case c1 => k_is); (case k1 => k_is); (case a2 => k_is); (case l2 => k_is); (case c2 => k_is); (case k2 => k_is); (case a3 => k_is); (case l3 => k_is); (case c3 => k_is); (case k3 => k_is); (case a4 => k_is); (case l4 => k_is); (case c4 => k_is); (case k4 => k_is); (case a5 => k_is); (case l5 => k_is); (case c5 => k_is); (case k5 => k_is); (case a6 => k_is); (case l6 => k_is); (case c6 => k_is); (case k6 => k_is); (case a7 => k_is); (case l7 => k_is); (case c7 => k_is); (case k7 => k_is); (case a8 => k_is); (case l8 => k_is); (case c8 => k_is); (case k8 => k_is); (case a9 => k_is); (case l9 => k_is); (case c9 => k_is); (case k9 => k_is); (case a10 => k_is); (case l10 => k_is); (case c10 => k_is); (case k10 => k_is); (case a11 => k_is); (case l11 => k_is); (case c11 => k_is); (case k11 => k_is); (case a12 => k_is); (case l12 => k_is); (case c12 => k_is); (case k12 => k_is); (case a13 => k_is); (case l13 => k_is); (case c13 => k_is); (case k13 => k_is); (case a14 => k_is); (case l14 => k_is); (case c14 => k_is); (case k14 => k_is); (case a15 => k_is); (case l15 => k_is); (case c15 => k_is); (case k15 => k_is); (case z0 => k_is); (case z1 => k_is); (case z2 => k_is); (case z3 => k_is); (case z4 => k_is); (case z5 => k_is); (case z6 => k_is); (case z7 => k_is); (case z8 => k_is); (case z9 => k_is); (case z10 => k_is); (case z11 => k_is); (case z12 => k_is); (case z13 => k_is); (case y0 => k_is); (case y1 => k_is); (case y2 => k_is)

