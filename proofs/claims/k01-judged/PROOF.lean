import PyProof.Rows.All
import Wide.All
import OpenK.AllK
import Wide.FinOn
import HandS.ForMost
import HandS.ForExc
import HandS.TupAny
import HandS.TupMul
import HandS.Wide
import KE.DataEq
import KE.DataIsa
import KE.SortData
import PyProof.ReprRoads
import HandS.IsInst
import HandS.Codes
import HandS.More
import HandS.Strs
import PyProof.CollectStr
import PyProof.ListStr
import PyProof.TupleOfGen
import PyProof.Rows.ListStrD
import HandS.Zip
import HandS.Star
import HandS.Style
import PyProof.ReprLen
import PySem.Challenge.RW_copyover_k01_copies_and_scripts_judged
import HandS.WideMore
set_option Elab.async false
set_option linter.all false
set_option autoImplicit false
set_option maxRecDepth 100000
/-! The data layer: values as data (frozen part F of the heap), owned trees, the relation between data slots and the heap. -/
namespace DL
open PySem PySem.Spec PyProof.Rows L2

def keyD : Key → PyData
  | .inl i => .int i
  | .inr x => .str x

theorem Same.rd {H H' : Hp} {a : Addr} {u : HO} (e : Same H H') (h : Rd H a u) : Rd H' a u := by
  rcases h with h | ⟨o, h⟩
  · exact .inl (e _ _ h)
  · exact .inr ⟨o, e _ _ h⟩
theorem Same.sqt {K : PySem.W.Frag} {H H' : Hp} {a : Addr} {xs : List V} (e : Same H H') (h : SqT K H a xs) : SqT K H' a xs := by
  rcases h with h | h
  · exact .inl (DL.Same.rd e h)
  · exact .inr h

/-- values that stand for data, all of whose objects stand in F -/
inductive Reps (K : PySem.W.Frag) (F : Hp) : List V → List PyData → Prop
  | nil : Reps K F [] []
  | non {vs ds} : Reps K F vs ds → Reps K F (.non :: vs) (.none :: ds)
  | bl (b) {vs ds} : Reps K F vs ds → Reps K F (.bl b :: vs) (.bool b :: ds)
  | int (i) {vs ds} : Reps K F vs ds → Reps K F (.int i :: vs) (.int i :: ds)
  | str (x : Str) {vs ds} : x.length ≤ sizeLine → Reps K F vs ds → Reps K F (.str x :: vs) (.str x :: ds)
  | lst {a : Addr} {ws : List V} {xs vs ds} : F a = some (.lst ws) → Reps K F ws xs → Reps K F vs ds → Reps K F (.ref a :: vs) (.list xs :: ds)
  | tup {a ws xs vs ds} : SqT K F a ws → Reps K F ws xs → Reps K F vs ds → Reps K F (.ref a :: vs) (.tuple xs :: ds)
  | dic {a : Addr} {kvs : List (Key × V)} {ks : List Key} {xs : List PyData} {vs ds} : Rd F a (.dK kvs) → kvs.map (·.1) = ks → Reps K F (kvs.map (·.2)) xs → Reps K F vs ds →
      Reps K F (.ref a :: vs) (.dict ((ks.map keyD).zip xs) :: ds)
abbrev Rp (K : PySem.W.Frag) (F : Hp) (v : V) (d : PyData) : Prop := Reps K F [v] [d]

section
variable {K : PySem.W.Frag} {F F' H H' : Hp}
theorem Reps.mono (e : Same F F') : ∀ {vs ds}, Reps K F vs ds → Reps K F' vs ds := by
  intro vs ds h
  induction h with
  | nil => exact .nil
  | non _ ih => exact .non ih
  | bl b _ ih => exact .bl b ih
  | int i _ ih => exact .int i ih
  | str x hx _ ih => exact .str x hx ih
  | lst h1 _ _ ih1 ih2 => exact .lst (e _ _ h1) ih1 ih2
  | tup h1 _ _ ih1 ih2 => exact .tup (DL.Same.sqt e h1) ih1 ih2
  | dic h1 h2 _ _ ih1 ih2 => exact .dic (DL.Same.rd e h1) h2 ih1 ih2
theorem Reps.len {vs ds} (h : Reps K F vs ds) : vs.length = ds.length := by
  induction h with
  | nil => rfl
  | non _ ih => simp [ih]
  | bl b _ ih => simp [ih]
  | int i _ ih => simp [ih]
  | str x hx _ ih => simp [ih]
  | lst h1 _ _ ih1 ih2 => simp [ih2]
  | tup h1 _ _ ih1 ih2 => simp [ih2]
  | dic h1 h2 _ _ ih1 ih2 => simp [ih2]
theorem Reps.inv {v vs d ds} (h : Reps K F (v :: vs) (d :: ds)) : Rp K F v d ∧ Reps K F vs ds := by
  cases h with
  | non t => exact ⟨.non .nil, t⟩
  | bl b t => exact ⟨.bl b .nil, t⟩
  | int i t => exact ⟨.int i .nil, t⟩
  | str x hx t => exact ⟨.str x hx .nil, t⟩
  | lst h1 h2 t => exact ⟨.lst h1 h2 .nil, t⟩
  | tup h1 h2 t => exact ⟨.tup h1 h2 .nil, t⟩
  | dic h1 h2 h3 t => exact ⟨.dic h1 h2 h3 .nil, t⟩
theorem Reps.cons {v vs d ds} (h : Rp K F v d) (t : Reps K F vs ds) : Reps K F (v :: vs) (d :: ds) := by
  cases h with
  | non _ => exact .non t
  | bl b _ => exact .bl b t
  | int i _ => exact .int i t
  | str x hx _ => exact .str x hx t
  | lst h1 h2 _ => exact .lst h1 h2 t
  | tup h1 h2 _ => exact .tup h1 h2 t
  | dic h1 h2 h3 _ => exact .dic h1 h2 h3 t
theorem Reps.get : ∀ {vs ds} {i : Nat} {v d}, Reps K F vs ds → vs[i]? = some v → ds[i]? = some d → Rp K F v d
  | [], _, i, _, _, _, h, _ => by simp at h
  | _ :: _, [], i, _, _, _, _, h => by simp at h
  | a :: vs, b :: ds, 0, v, d, r, h, h' => by
    simp at h h'
    subst h h'
    exact r.inv.1
  | a :: vs, b :: ds, i + 1, v, d, r, h, h' => by
    simp at h h'
    exact Reps.get r.inv.2 h h'
theorem Reps.of : ∀ {vs : List V} {ds : List PyData}, vs.length = ds.length → (∀ (i : Nat) v d, vs[i]? = some v → ds[i]? = some d → Rp K F v d) → Reps K F vs ds
  | [], [], _, _ => .nil
  | [], _ :: _, h, _ => by simp at h
  | _ :: _, [], h, _ => by simp at h
  | v :: vs, d :: ds, h, f => .cons (f 0 v d rfl rfl) (Reps.of (by simpa using h) fun i x y h1 h2 => f (i + 1) x y (by simpa using h1) (by simpa using h2))
theorem Reps.getD {vs ds} {i : Nat} {d} (r : Reps K F vs ds) (h : ds[i]? = some d) : ∃ v, vs[i]? = some v ∧ Rp K F v d := by
  have hl := r.len
  have hi : i < vs.length := by rw [hl]; exact (List.getElem?_eq_some_iff.mp h).1
  exact ⟨vs[i], by simp [hi], r.get (by simp [hi]) h⟩
theorem Reps.append {vs ws ds es} (a : Reps K F vs ds) (b : Reps K F ws es) : Reps K F (vs ++ ws) (ds ++ es) := by
  have ha := a.len
  have hb := b.len
  refine .of (by simp [ha, hb]) fun i v d h1 h2 => ?_
  rw [List.getElem?_append] at h1 h2
  rw [← ha] at h2
  by_cases hi : i < vs.length
  · rw [if_pos hi] at h1 h2
    exact a.get h1 h2
  · rw [if_neg hi] at h1 h2
    exact b.get h1 h2
theorem Reps.drop {vs ds} (a : Reps K F vs ds) (n : Nat) : Reps K F (vs.drop n) (ds.drop n) := by
  have ha := a.len
  refine .of (by simp [ha]) fun i v d h1 h2 => ?_
  rw [List.getElem?_drop] at h1 h2
  exact a.get h1 h2
theorem Reps.take {vs ds} (a : Reps K F vs ds) (n : Nat) : Reps K F (vs.take n) (ds.take n) := by
  have ha := a.len
  refine .of (by simp [ha]) fun i v d h1 h2 => ?_
  rw [List.getElem?_take] at h1 h2
  split at h1
  · rename_i hi
    rw [if_pos hi] at h2
    exact a.get h1 h2
  · cases h1
theorem Reps.reverse {vs ds} (a : Reps K F vs ds) : Reps K F vs.reverse ds.reverse := by
  have ha := a.len
  refine .of (by simp [ha]) fun i v d h1 h2 => ?_
  have hi : i < vs.length := by
    have := (List.getElem?_eq_some_iff.mp h1).1
    simpa using this
  rw [List.getElem?_reverse hi] at h1
  rw [List.getElem?_reverse (by omega), ← ha] at h2
  exact a.get h1 h2
theorem Reps.eraseIdx {vs ds} (a : Reps K F vs ds) (n : Nat) : Reps K F (vs.eraseIdx n) (ds.eraseIdx n) := by
  have ha := a.len
  refine .of (by simp [List.length_eraseIdx, ha]) fun i v d h1 h2 => ?_
  rw [List.getElem?_eraseIdx] at h1 h2
  by_cases hi : i < n
  · rw [if_pos hi] at h1 h2
    exact a.get h1 h2
  · rw [if_neg hi] at h1 h2
    exact a.get h1 h2
theorem Rp.dict_inv {v kds} (h : Rp K F v (.dict kds)) : ∃ a kvs xs, v = .ref a ∧ Rd F a (.dK kvs) ∧ kds = ((kvs.map (·.1)).map keyD).zip xs ∧ Reps K F (kvs.map (·.2)) xs := by
  cases h with
  | dic h1 h2 h3 _ => subst h2; exact ⟨_, _, _, rfl, h1, rfl, h3⟩
theorem Rp.int_inv {v i} (h : Rp K F v (.int i)) : v = .int i := by cases h; rfl
theorem Rp.str_inv {v x} (h : Rp K F v (.str x)) : v = .str x ∧ x.length ≤ sizeLine := by cases h; exact ⟨rfl, by assumption⟩
theorem Rp.bool_inv {v b} (h : Rp K F v (.bool b)) : v = .bl b := by cases h; rfl
theorem Rp.none_inv {v} (h : Rp K F v .none) : v = .non := by cases h; rfl
theorem Rp.list_inv {v xs} (h : Rp K F v (.list xs)) : ∃ a ws, v = .ref a ∧ F a = some (.lst ws) ∧ Reps K F ws xs := by
  cases h with
  | lst h1 h2 _ => exact ⟨_, _, rfl, h1, h2⟩
theorem Rp.tuple_inv {v xs} (h : Rp K F v (.tuple xs)) : ∃ a ws, v = .ref a ∧ SqT K F a ws ∧ Reps K F ws xs := by
  cases h with
  | tup h1 h2 _ => exact ⟨_, _, rfl, h1, h2⟩
end

/-! ### owned trees -/
inductive OD where
  | d (x : PyData)
  | l (os : List OD)
  | m (ks : List Key) (os : List OD)
  /-- the law's own argument: read where it stands -/
  | s (ns : List Int)

mutual
def OD.erase : OD → PyData
  | .d x => x
  | .l os => .list (eraseL os)
  | .m ks os => .dict ((ks.map keyD).zip (eraseL os))
  | .s ns => .list (ns.map .int)
def eraseL : List OD → List PyData
  | [] => []
  | o :: os => o.erase :: eraseL os
end
theorem eraseL_map : ∀ os : List OD, eraseL os = os.map OD.erase
  | [] => rfl
  | o :: os => by rw [eraseL, eraseL_map os]; rfl
mutual
def OD.noS : OD → Bool
  | .d _ => true
  | .l os => noSL os
  | .m _ os => noSL os
  | .s _ => false
def noSL : List OD → Bool
  | [] => true
  | o :: os => o.noS && noSL os
end
theorem noSL_d : ∀ ds : List PyData, noSL (ds.map .d) = true
  | [] => rfl
  | d :: ds => by simp [noSL, OD.noS, noSL_d ds]
/-- the data within are all frozen -/
def OD.isD : OD → Bool
  | .d _ => true
  | _ => false
def OD.shallow : OD → Bool
  | .d _ => true
  | .l os => os.all OD.isD
  | .m _ os => os.all OD.isD
  | .s _ => false

inductive OReps (K : PySem.W.Frag) (F H : Hp) : List V → List OD → List Addr → Prop
  | nil : OReps K F H [] [] []
  | d {v x vs os fp} : Rp K F v x → OReps K F H vs os fp → OReps K F H (v :: vs) (.d x :: os) fp
  | l {a ws ps fp1 vs os fp} : F a = none → H a = some (.lst ws) → OReps K F H ws ps fp1 → OReps K F H vs os fp → OReps K F H (.ref a :: vs) (.l ps :: os) (a :: (fp1 ++ fp))
  | m {a kvs ks ps fp1 vs os fp} : F a = none → H a = some (.dK kvs) → kvs.map (·.1) = ks → OReps K F H (kvs.map (·.2)) ps fp1 → OReps K F H vs os fp →
      OReps K F H (.ref a :: vs) (.m ks ps :: os) (a :: (fp1 ++ fp))
  | s {a ns vs os fp} : SqL K F a (ns.map V.int) → OReps K F H vs os fp → OReps K F H (.ref a :: vs) (.s ns :: os) fp
abbrev ORp (K : PySem.W.Frag) (F H : Hp) (v : V) (o : OD) (fp : List Addr) : Prop := OReps K F H [v] [o] fp

section
variable {K : PySem.W.Frag} {F F' H H' : Hp}
theorem OReps.len {vs os fp} (h : OReps K F H vs os fp) : vs.length = os.length := by
  induction h with
  | nil => rfl
  | d _ _ ih => simp [ih]
  | l _ _ _ _ _ ih => simp [ih]
  | m _ _ _ _ _ _ ih => simp [ih]
  | s _ _ ih => simp [ih]
theorem OReps.cons : ∀ {v o fp1 vs os fp2}, ORp K F H v o fp1 → OReps K F H vs os fp2 → OReps K F H (v :: vs) (o :: os) (fp1 ++ fp2) := by
  intro v o fp1 vs os fp2 h t
  cases h with
  | d h1 h2 => cases h2; exact .d h1 t
  | l h1 h2 h3 h4 =>
    cases h4
    have := OReps.l h1 h2 h3 t
    simpa using this
  | m h1 h2 h3 h4 h5 =>
    cases h5
    have := OReps.m h1 h2 h3 h4 t
    simpa using this
  | s h1 h2 => cases h2; exact .s h1 t
theorem OReps.inv {v o vs os fp} (h : OReps K F H (v :: vs) (o :: os) fp) : ∃ fp1 fp2, ORp K F H v o fp1 ∧ OReps K F H vs os fp2 ∧ fp = fp1 ++ fp2 := by
  cases h with
  | d h1 h2 => exact ⟨[], _, .d h1 .nil, h2, rfl⟩
  | l h1 h2 h3 h4 => exact ⟨_ :: _, _, by simpa using OReps.l h1 h2 h3 .nil, h4, by simp⟩
  | m h1 h2 h3 h4 h5 => exact ⟨_ :: _, _, by simpa using OReps.m h1 h2 h3 h4 .nil, h5, by simp⟩
  | s h1 h2 => exact ⟨[], _, .s h1 .nil, h2, rfl⟩
theorem OReps.app : ∀ {vs os fp1 ws ps fp2}, OReps K F H vs os fp1 → OReps K F H ws ps fp2 → OReps K F H (vs ++ ws) (os ++ ps) (fp1 ++ fp2)
  | [], [], _, _, _, _, h, t => by cases h; exact t
  | [], _ :: _, _, _, _, _, h, t => nomatch h
  | _ :: _, [], _, _, _, _, h, t => nomatch h
  | v :: vs, o :: os, _, _, _, _, h, t => by
    obtain ⟨f1, f2, a, b, rfl⟩ := h.inv
    have := a.cons (OReps.app b t)
    simpa using this
theorem OReps.split : ∀ {vs : List V} {os : List OD} {ws ps fp}, vs.length = os.length → OReps K F H (vs ++ ws) (os ++ ps) fp → ∃ fp1 fp2, OReps K F H vs os fp1 ∧ OReps K F H ws ps fp2 ∧ fp = fp1 ++ fp2
  | [], [], _, _, _, _, h => ⟨[], _, .nil, h, rfl⟩
  | [], _ :: _, _, _, _, e, h => by simp at e
  | _ :: _, [], _, _, _, e, h => by simp at e
  | v :: vs, o :: os, _, _, _, e, h => by
    obtain ⟨f1, f2, a, b, rfl⟩ := OReps.inv (by simpa using h)
    obtain ⟨g1, g2, c, d, rfl⟩ := OReps.split (by simpa using e) b
    exact ⟨f1 ++ g1, g2, a.cons c, d, by simp⟩
theorem ORp.d_inv {v x fp} (h : ORp K F H v (.d x) fp) : fp = [] ∧ Rp K F v x := by
  cases h with
  | d h1 h2 => cases h2; exact ⟨rfl, h1⟩
theorem ORp.l_inv {v ps fp} (h : ORp K F H v (.l ps) fp) : ∃ a ws fp1, v = .ref a ∧ F a = none ∧ H a = some (.lst ws) ∧ OReps K F H ws ps fp1 ∧ fp = a :: fp1 := by
  cases h with
  | l h1 h2 h3 h4 => cases h4; exact ⟨_, _, _, rfl, h1, h2, h3, by simp⟩
theorem ORp.m_inv {v ks ps fp} (h : ORp K F H v (.m ks ps) fp) : ∃ a kvs fp1, v = .ref a ∧ F a = none ∧ H a = some (.dK kvs) ∧ kvs.map (·.1) = ks ∧ OReps K F H (kvs.map (·.2)) ps fp1 ∧ fp = a :: fp1 := by
  cases h with
  | m h1 h2 h3 h4 h5 => cases h5; exact ⟨_, _, _, rfl, h1, h2, h3, h4, by simp⟩
theorem ORp.s_inv {v ns fp} (h : ORp K F H v (.s ns) fp) : ∃ a, v = .ref a ∧ SqL K F a (ns.map V.int) := by
  cases h with
  | s h1 h2 => exact ⟨_, rfl, h1⟩
theorem ORp.mkd {v x} (h : Rp K F v x) : ORp K F H v (.d x) [] := .d h .nil
theorem ORp.mkl {a ws ps fp} (h1 : F a = none) (h2 : H a = some (.lst ws)) (h3 : OReps K F H ws ps fp) : ORp K F H (.ref a) (.l ps) (a :: fp) := by simpa using OReps.l h1 h2 h3 .nil
theorem ORp.mkm {a kvs ks ps fp} (h1 : F a = none) (h2 : H a = some (.dK kvs)) (h3 : kvs.map (·.1) = ks) (h4 : OReps K F H (kvs.map (·.2)) ps fp) : ORp K F H (.ref a) (.m ks ps) (a :: fp) := by simpa using OReps.m h1 h2 h3 h4 .nil
/-- frozen things only -/
theorem OReps.ofReps : ∀ {vs ds}, Reps K F vs ds → OReps K F H vs (ds.map .d) []
  | [], [], h => .nil
  | [], _ :: _, h => nomatch h
  | _ :: _, [], h => nomatch h
  | v :: vs, y :: ds, h => .d h.inv.1 (OReps.ofReps h.inv.2)
theorem OReps.toReps : ∀ {vs os fp}, OReps K F H vs os fp → os.all OD.isD = true → fp = [] ∧ Reps K F vs (os.map OD.erase)
  | [], [], _, h, _ => by cases h; exact ⟨rfl, .nil⟩
  | [], _ :: _, _, h, _ => nomatch h
  | _ :: _, [], _, h, _ => nomatch h
  | v :: vs, (OD.d x) :: os, _, h, e => by
    cases h with
    | d h1 h2 =>
      obtain ⟨a, b⟩ := OReps.toReps h2 (by simpa [OD.isD] using e)
      exact ⟨a, .cons (by simpa [OD.erase] using h1) b⟩
  | v :: vs, (OD.l x) :: os, _, h, e => by simp [OD.isD] at e
  | v :: vs, (OD.m x y) :: os, _, h, e => by simp [OD.isD] at e
theorem OReps.change {vs os fp} (h : OReps K F H vs os fp) (e : Same F F') (k : ∀ a ∈ fp, F' a = none ∧ H' a = H a) : OReps K F' H' vs os fp := by
  induction h with
  | nil => exact .nil
  | d h1 _ ih => exact .d (h1.mono e) (ih k)
  | l h1 h2 _ _ ih1 ih2 =>
    obtain ⟨k1, k2⟩ := k _ List.mem_cons_self
    exact .l k1 (k2.trans h2) (ih1 fun b hb => k b (List.mem_cons_of_mem _ (List.mem_append_left _ hb))) (ih2 fun b hb => k b (List.mem_cons_of_mem _ (List.mem_append_right _ hb)))
  | m h1 h2 h3 _ _ ih1 ih2 =>
    obtain ⟨k1, k2⟩ := k _ List.mem_cons_self
    exact .m k1 (k2.trans h2) h3 (ih1 fun b hb => k b (List.mem_cons_of_mem _ (List.mem_append_left _ hb))) (ih2 fun b hb => k b (List.mem_cons_of_mem _ (List.mem_append_right _ hb)))
  | s h1 _ ih => exact .s (e.seq h1) (ih k)
theorem OReps.fnone {vs os fp} (h : OReps K F H vs os fp) : ∀ a ∈ fp, F a = none ∧ ∃ o, H a = some o := by
  induction h with
  | nil => intro a h; simp at h
  | d h1 _ ih => exact ih
  | l h1 h2 _ _ ih1 ih2 =>
    intro b hb
    rcases List.mem_cons.mp hb with rfl | hb
    · exact ⟨h1, _, h2⟩
    · exact (List.mem_append.mp hb).elim (ih1 b) (ih2 b)
  | m h1 h2 h3 _ _ ih1 ih2 =>
    intro b hb
    rcases List.mem_cons.mp hb with rfl | hb
    · exact ⟨h1, _, h2⟩
    · exact (List.mem_append.mp hb).elim (ih1 b) (ih2 b)
  | s h1 _ ih => exact ih
/-- read through, where it stands -/
theorem OReps.peek {vs os fp} (h : OReps K F H vs os fp) (e : Same F F') (k : ∀ a ∈ fp, F' a = H a) (hs : noSL os = true) : Reps K F' vs (os.map OD.erase) := by
  induction h with
  | nil => exact .nil
  | d h1 _ ih => exact .cons (by simpa [OD.erase] using h1.mono e) (ih k (by simpa [noSL, OD.noS] using hs))
  | s _ _ _ => simp [noSL, OD.noS] at hs
  | l h1 h2 _ _ ih1 ih2 =>
    simp only [noSL, OD.noS, Bool.and_eq_true] at hs
    refine .cons (v := .ref _) ?_ (ih2 (fun b hb => k b (List.mem_cons_of_mem _ (List.mem_append_right _ hb))) hs.2)
    have q := ih1 (fun b hb => k b (List.mem_cons_of_mem _ (List.mem_append_left _ hb))) hs.1
    rw [OD.erase, eraseL_map]
    exact .lst ((k _ List.mem_cons_self).trans h2) q .nil
  | m h1 h2 h3 _ _ ih1 ih2 =>
    simp only [noSL, OD.noS, Bool.and_eq_true] at hs
    refine .cons (v := .ref _) ?_ (ih2 (fun b hb => k b (List.mem_cons_of_mem _ (List.mem_append_right _ hb))) hs.2)
    have q := ih1 (fun b hb => k b (List.mem_cons_of_mem _ (List.mem_append_left _ hb))) hs.1
    rw [OD.erase, eraseL_map]
    exact .dic (Rd.of ((k _ List.mem_cons_self).trans h2)) h3 q .nil
/-- freezing: the objects at fp go over to the frozen part -/
def frz (F H : Hp) (fp : List Addr) : Hp := fun a => if a ∈ fp then H a else F a
theorem frz_same {fp : List Addr} (hn : ∀ a ∈ fp, F a = none) : Same F (frz F H fp) := fun a o h => by
  unfold frz
  by_cases ha : a ∈ fp
  · rw [hn a ha] at h; cases h
  · rw [if_neg ha]; exact h
theorem frz_sub {fp : List Addr} (e : Same F H) : Same (frz F H fp) H := fun a o h => by
  unfold frz at h
  by_cases ha : a ∈ fp
  · rw [if_pos ha] at h; exact h
  · rw [if_neg ha] at h; exact e a o h
theorem frz_none {fp : List Addr} {a : Addr} (ha : a ∉ fp) (h : F a = none) : frz F H fp a = none := by unfold frz; rw [if_neg ha]; exact h
end

/-! ### slots -/
abbrev DEnv := List (Option OD)
inductive ERep (K : PySem.W.Frag) (F H : Hp) : L2.St → DEnv → List Addr → Prop
  | nil : ERep K F H [] [] []
  | un {x σ env fp} : ERep K F H σ env fp → ERep K F H (x :: σ) (none :: env) fp
  | so {v o fp1 σ env fp} : ORp K F H v o fp1 → ERep K F H σ env fp → ERep K F H (some v :: σ) (some o :: env) (fp1 ++ fp)
section
variable {K : PySem.W.Frag} {F F' H H' : Hp}
theorem ERep.len {σ env fp} (h : ERep K F H σ env fp) : σ.length = env.length := by
  induction h with
  | nil => rfl
  | un _ ih => simp [ih]
  | so _ _ ih => simp [ih]
theorem ERep.change {σ env fp} (h : ERep K F H σ env fp) (e : Same F F') (k : ∀ a ∈ fp, F' a = none ∧ H' a = H a) : ERep K F' H' σ env fp := by
  induction h with
  | nil => exact .nil
  | un _ ih => exact .un (ih k)
  | so h1 _ ih => exact .so (h1.change e fun a ha => k a (List.mem_append_left _ ha)) (ih fun a ha => k a (List.mem_append_right _ ha))
theorem ERep.fnone {σ env fp} (h : ERep K F H σ env fp) : ∀ a ∈ fp, F a = none ∧ ∃ o, H a = some o := by
  induction h with
  | nil => intro a h; simp at h
  | un _ ih => exact ih
  | so h1 _ ih => exact fun a ha => (List.mem_append.mp ha).elim (h1.fnone a) (ih a)
/-- a slot taken out, and another thing put in -/
theorem ERep.at : ∀ {σ env fp} {i : Nat} {o : OD}, ERep K F H σ env fp → env[i]? = some (some o) → ∃ v fpi rest, σ[i]? = some (some v) ∧ ORp K F H v o fpi ∧ fp.Perm (fpi ++ rest) ∧
    ∀ (F' H' : Hp) (v' : V) (o' : OD) (fpi' : List Addr), Same F F' → (∀ a ∈ rest, F' a = none ∧ H' a = H a) → ORp K F' H' v' o' fpi' → ∃ fp', ERep K F' H' (σ.set i (some v')) (env.set i (some o')) fp' ∧ fp'.Perm (fpi' ++ rest)
  | [], [], _, i, o, h, e => by simp at e
  | _ :: _, [], _, i, o, h, e => nomatch h
  | [], _ :: _, _, i, o, h, e => nomatch h
  | x :: σ, y :: env, fp, 0, o, h, e => by
    simp at e
    subst e
    cases h with
    | so h1 h2 =>
      refine ⟨_, _, _, rfl, h1, List.Perm.refl _, fun F' H' v' o' fpi' s k r => ⟨_, .so r (h2.change s k), List.Perm.refl _⟩⟩
  | x :: σ, y :: env, fp, i + 1, o, h, e => by
    have e' : env[i]? = some (some o) := by simpa using e
    cases h with
    | un h2 =>
      obtain ⟨v, fpi, rest, a, b, c, d⟩ := ERep.at h2 e'
      refine ⟨v, fpi, rest, by simpa using a, b, c, fun F' H' v' o' fpi' s k r => ?_⟩
      obtain ⟨fp', p, q⟩ := d F' H' v' o' fpi' s k r
      exact ⟨fp', .un p, q⟩
    | so h1 h2 =>
      rename_i v0 o0 fp1 fp2
      obtain ⟨v, fpi, rest, a, b, c, d⟩ := ERep.at h2 e'
      refine ⟨v, fpi, fp1 ++ rest, by simpa using a, b, ?_, fun F' H' v' o' fpi' s k r => ?_⟩
      · exact (List.Perm.append_left fp1 c).trans (by simpa [← List.append_assoc] using (List.perm_append_comm (l₁ := fp1) (l₂ := fpi)).append_right rest)
      · obtain ⟨fp', p, q⟩ := d F' H' v' o' fpi' s (fun a ha => k a (List.mem_append_right _ ha)) r
        refine ⟨fp1 ++ fp', .so (h1.change s fun a ha => k a (List.mem_append_left _ ha)) p, ?_⟩
        exact (List.Perm.append_left fp1 q).trans (by simpa [← List.append_assoc] using (List.perm_append_comm (l₁ := fp1) (l₂ := fpi')).append_right rest)
/-- a thing put into any slot: what was there is let go -/
theorem ERep.put : ∀ {σ env fp} {i : Nat}, ERep K F H σ env fp → i < σ.length → ∃ rest, (∃ l, fp.Perm (l ++ rest)) ∧
    ∀ (v' : V) (o' : OD) (fpi' : List Addr), ORp K F H v' o' fpi' → ∃ fp', ERep K F H (σ.set i (some v')) (env.set i (some o')) fp' ∧ fp'.Perm (fpi' ++ rest)
  | [], _, _, i, h, e => by simp at e
  | _ :: _, [], _, i, h, e => nomatch h
  | x :: σ, y :: env, fp, 0, h, e => by
    cases h with
    | un h2 => exact ⟨fp, ⟨[], List.Perm.refl _⟩, fun v' o' fpi' r => ⟨_, .so r h2, List.Perm.refl _⟩⟩
    | so h1 h2 => exact ⟨_, ⟨_, List.Perm.refl _⟩, fun v' o' fpi' r => ⟨_, .so r h2, List.Perm.refl _⟩⟩
  | x :: σ, y :: env, fp, i + 1, h, e => by
    have e' : i < σ.length := by simpa using e
    cases h with
    | un h2 =>
      obtain ⟨rest, c, d⟩ := ERep.put h2 e'
      refine ⟨rest, c, fun v' o' fpi' r => ?_⟩
      obtain ⟨fp', p, q⟩ := d v' o' fpi' r
      exact ⟨fp', .un p, q⟩
    | so h1 h2 =>
      rename_i v0 o0 fp1 fp2
      obtain ⟨rest, ⟨l, c⟩, d⟩ := ERep.put h2 e'
      refine ⟨fp1 ++ rest, ⟨l, ?_⟩, fun v' o' fpi' r => ?_⟩
      · exact (List.Perm.append_left fp1 c).trans (by simpa [← List.append_assoc] using (List.perm_append_comm (l₁ := fp1) (l₂ := l)).append_right rest)
      · obtain ⟨fp', p, q⟩ := d v' o' fpi' r
        refine ⟨fp1 ++ fp', .so h1 p, ?_⟩
        exact (List.Perm.append_left fp1 q).trans (by simpa [← List.append_assoc] using (List.perm_append_comm (l₁ := fp1) (l₂ := fpi')).append_right rest)
/-- a slot forgotten -/
theorem ERep.drop : ∀ {σ env fp} (i : Nat), ERep K F H σ env fp → ∃ fp' l, ERep K F H (σ.set i none) (env.set i none) fp' ∧ fp.Perm (l ++ fp')
  | [], [], _, i, h => ⟨[], [], by simpa using ERep.nil, by cases h; simp⟩
  | _ :: _, [], _, i, h => nomatch h
  | [], _ :: _, _, i, h => nomatch h
  | x :: σ, y :: env, fp, 0, h => by
    cases h with
    | un h2 => exact ⟨fp, [], .un h2, List.Perm.refl _⟩
    | so h1 h2 => exact ⟨_, _, .un h2, List.Perm.refl _⟩
  | x :: σ, y :: env, fp, i + 1, h => by
    cases h with
    | un h2 =>
      obtain ⟨fp', l, a, b⟩ := ERep.drop i h2
      exact ⟨fp', l, .un a, b⟩
    | so h1 h2 =>
      rename_i v0 o0 fp1 fp2
      obtain ⟨fp', l, a, b⟩ := ERep.drop i h2
      refine ⟨fp1 ++ fp', l, .so h1 a, ?_⟩
      exact (List.Perm.append_left fp1 b).trans (by simpa [← List.append_assoc] using (List.perm_append_comm (l₁ := fp1) (l₂ := l)).append_right fp')
end

/-! ### the relation -/
/-- what is fixed through a def's run: its heap at the entry, the frozen part then, the addresses handed in as owned, their slots -/
structure Sx where
  H0 : Hp
  F0 : Hp
  io : List Addr
  pin : List (Nat × V)
structure Rel (K : PySem.W.Frag) (S : Sx) (F : Hp) (σ : L2.St) (H : Hp) (env : DEnv) (hs : List V) (ho : List OD) : Prop where
  sub : Same F H
  rep : ∃ fp1 fp2, ERep K F H σ env fp1 ∧ OReps K F H hs ho fp2 ∧ (fp1 ++ fp2).Nodup ∧ ∀ a ∈ fp1 ++ fp2, a ∈ S.io ∨ S.H0 a = none
  keep : ∀ a o, S.H0 a = some o → a ∉ S.io → H a = some o
  new : ∀ a, F a ≠ none → S.F0 a ≠ none ∨ S.H0 a = none ∨ a ∈ S.io
  f0 : Same S.F0 F
  pin : ∀ p ∈ S.pin, σ[p.1]? = some (some p.2)
section
variable {K : PySem.W.Frag} {S : Sx} {F F' H H' : Hp} {σ : L2.St} {env : DEnv} {hs ws : List V} {ho os : List OD}
theorem Rel.len (R : Rel K S F σ H env hs ho) : σ.length = env.length := let ⟨_, _, a, _⟩ := R.rep; a.len
theorem Rel.hlen (R : Rel K S F σ H env hs ho) : hs.length = ho.length := let ⟨_, _, _, b, _⟩ := R.rep; b.len
theorem Rel.notin (R : Rel K S F σ H env hs ho) {p : Addr} (hp : H p = none) : p ∈ S.io ∨ S.H0 p = none := by
  cases q : S.H0 p with
  | none => exact .inr rfl
  | some o =>
    by_cases hi : p ∈ S.io
    · exact .inl hi
    · have := R.keep p o q hi
      rw [hp] at this; cases this
theorem Rel.drop (R : Rel K S F σ H env (hs ++ ws) (ho ++ os)) (hl : hs.length = ho.length) : Rel K S F σ H env hs ho := by
  obtain ⟨f1, f2, a, b, nd, io⟩ := R.rep
  obtain ⟨g1, g2, c, d, rfl⟩ := OReps.split hl b
  refine ⟨R.sub, ⟨f1, g1, a, c, ?_, fun x hx => io x ?_⟩, R.keep, R.new, R.f0, R.pin⟩
  · rw [← List.append_assoc] at nd
    exact (List.nodup_append.mp nd).1
  · rw [← List.append_assoc]
    exact List.mem_append_left _ hx
theorem Rel.heldReps (R : Rel K S F σ H env (hs ++ ws) (ho ++ os)) (hl : hs.length = ho.length) : ∃ fp, OReps K F H ws os fp := by
  obtain ⟨f1, f2, a, b, nd, io⟩ := R.rep
  obtain ⟨g1, g2, c, d, rfl⟩ := OReps.split hl b
  exact ⟨g2, d⟩
theorem Rel.push (R : Rel K S F σ H env hs ho) {v : V} {x : PyData} (r : Rp K F v x) : Rel K S F σ H env (hs ++ [v]) (ho ++ [.d x]) := by
  obtain ⟨f1, f2, a, b, nd, io⟩ := R.rep
  refine ⟨R.sub, ⟨f1, f2, a, ?_, nd, io⟩, R.keep, R.new, R.f0, R.pin⟩
  have := b.app (ORp.mkd (H := H) r)
  simpa using this
/-- a new object is made: all stands -/
theorem Rel.grow (R : Rel K S F σ H env hs ho) {p : Addr} {u : HO} (hp : H p = none) : Rel K S F σ (upd H p u) env hs ho := by
  obtain ⟨f1, f2, a, b, nd, io⟩ := R.rep
  have ne : ∀ x o, H x = some o → x ≠ p := fun x o e z => by rw [z, hp] at e; cases e
  have ne1 : ∀ x ∈ f1, upd H p u x = H x := fun x hx => by
    obtain ⟨_, o, e⟩ := a.fnone x hx
    exact upd_ne (ne x o e)
  have ne2 : ∀ x ∈ f2, upd H p u x = H x := fun x hx => by
    obtain ⟨_, o, e⟩ := b.fnone x hx
    exact upd_ne (ne x o e)
  refine ⟨fun x o e => ?_, ⟨f1, f2, a.change (Same.refl _) fun x hx => ⟨(a.fnone x hx).1, ne1 x hx⟩, b.change (Same.refl _) fun x hx => ⟨(b.fnone x hx).1, ne2 x hx⟩, nd, io⟩, fun x o e hi => ?_, R.new, R.f0, R.pin⟩
  · rw [upd_ne (ne x o (R.sub x o e))]; exact R.sub x o e
  · have := R.keep x o e hi
    rw [upd_ne (ne x o this)]; exact this
/-- a new frozen object -/
theorem Rel.growF (R : Rel K S F σ H env hs ho) {p : Addr} {u : HO} (hp : H p = none) : Rel K S (upd F p u) σ (upd H p u) env hs ho ∧ Same F (upd F p u) := by
  obtain ⟨f1, f2, a, b, nd, io⟩ := R.rep
  have fp0 : F p = none := R.sub.free hp
  have ne : ∀ x o, H x = some o → x ≠ p := fun x o e z => by rw [z, hp] at e; cases e
  have sF : Same F (upd F p u) := fun x o e => by rw [upd_ne (ne_of_none e fp0)]; exact e
  have ne1 : ∀ x ∈ f1, x ≠ p := fun x hx => by
    obtain ⟨_, o, e⟩ := a.fnone x hx
    exact ne x o e
  have ne2 : ∀ x ∈ f2, x ≠ p := fun x hx => by
    obtain ⟨_, o, e⟩ := b.fnone x hx
    exact ne x o e
  refine ⟨⟨fun x o e => ?_, ⟨f1, f2, a.change sF fun x hx => ⟨by rw [upd_ne (ne1 x hx)]; exact (a.fnone x hx).1, upd_ne (ne1 x hx)⟩, b.change sF fun x hx => ⟨by rw [upd_ne (ne2 x hx)]; exact (b.fnone x hx).1, upd_ne (ne2 x hx)⟩, nd, io⟩,
    fun x o e hi => ?_, fun x hx => ?_, R.f0.trans sF, R.pin⟩, sF⟩
  · by_cases hx : x = p
    · subst hx; rw [upd_same] at e ⊢; exact e
    · rw [upd_ne hx] at e ⊢; exact R.sub x o e
  · have := R.keep x o e hi
    rw [upd_ne (ne x o this)]; exact this
  · by_cases hxp : x = p
    · subst hxp
      rcases R.notin hp with h | h
      · exact .inr (.inr h)
      · exact .inr (.inl h)
    · rw [upd_ne hxp] at hx
      exact R.new x hx
/-- a new list whose items are held -/
theorem Rel.newL (R : Rel K S F σ H env (hs ++ ws) (ho ++ os)) (hl : hs.length = ho.length) {p : Addr} (hp : H p = none) : Rel K S F σ (upd H p (.lst ws)) env (hs ++ [.ref p]) (ho ++ [.l os]) := by
  have R1 := R.grow (u := .lst ws) hp
  obtain ⟨f1, f2, a, b, nd, io⟩ := R.rep
  have ne1 : ∀ x ∈ f1 ++ f2, x ≠ p := fun x hx z => by
    have q : ∃ o, H x = some o := (List.mem_append.mp hx).elim (fun h => (a.fnone x h).2) fun h => (b.fnone x h).2
    rw [z, hp] at q
    obtain ⟨_, q⟩ := q
    cases q
  obtain ⟨g1, g2, c, d, rfl⟩ := OReps.split hl b
  have np : p ∉ f1 ++ (g1 ++ g2) := fun h => ne1 p h rfl
  have k : ∀ x, x ≠ p → upd H p (.lst ws) x = H x := fun x hx => upd_ne hx
  refine ⟨R1.sub, ⟨f1, g1 ++ (p :: g2), a.change (Same.refl _) fun x hx => ⟨(a.fnone x hx).1, k x (ne1 x (List.mem_append_left _ hx))⟩, ?_, ?_, ?_⟩, R1.keep, R1.new, R1.f0, R1.pin⟩
  · refine (c.change (Same.refl _) fun x hx => ⟨(c.fnone x hx).1, k x (ne1 x (by simp [hx]))⟩).app ?_
    exact ORp.mkl (R.sub.free hp) upd_same (d.change (Same.refl _) fun x hx => ⟨(d.fnone x hx).1, k x (ne1 x (by simp [hx]))⟩)
  · have : (f1 ++ (g1 ++ p :: g2)).Perm (p :: (f1 ++ (g1 ++ g2))) := by
      rw [← List.append_assoc, ← List.append_assoc]
      exact List.perm_middle
    exact (this.nodup_iff).mpr (List.nodup_cons.mpr ⟨np, nd⟩)
  · intro x hx
    have : x = p ∨ x ∈ f1 ++ (g1 ++ g2) := by
      simp only [List.mem_append, List.mem_cons] at hx ⊢
      rcases hx with h | h | h | h <;> simp [h]
    rcases this with rfl | h
    · exact R.notin hp
    · exact io x h
end
end DL

set_option Elab.async false
set_option linter.all false
set_option autoImplicit false
set_option maxRecDepth 100000
/-! More of the relation: freezing, storing, changing an owned thing; the evaluator's monad; judgements. -/
namespace DL
open PySem PySem.Spec PyProof.Rows L2

section
variable {K : PySem.W.Frag} {S : Sx} {F F' H H' : Hp} {σ : L2.St} {env : DEnv} {hs ws : List V} {ho os : List OD}

theorem nodup_perm_app {a a' b : List Addr} (h : (a ++ b).Nodup) (p : a.Perm a') : (a' ++ b).Nodup := ((p.append_right b).nodup_iff).mp h
/-- the last held thing goes over to the frozen part -/
theorem Rel.freeze {v : V} {o : OD} (R : Rel K S F σ H env (hs ++ [v]) (ho ++ [o])) (hl : hs.length = ho.length) (hns : o.noS = true) :
    ∃ F', Same F F' ∧ Rel K S F' σ H env (hs ++ [v]) (ho ++ [.d o.erase]) := by
  obtain ⟨f1, f2, a, b, nd, io⟩ := R.rep
  obtain ⟨g1, g2, c, d, rfl⟩ := OReps.split hl b
  have fn : ∀ x ∈ g2, F x = none := fun x hx => (d.fnone x hx).1
  have sF := frz_same (H := H) fn
  have hd : ∀ x ∈ f1 ++ g1, x ∉ g2 := fun x hx h2 => by
    rw [← List.append_assoc] at nd
    exact (List.nodup_append.mp nd).2.2 x hx x h2 rfl
  have pk := d.peek sF (fun x hx => by unfold frz; rw [if_pos hx]) (by simpa [noSL] using hns)
  refine ⟨frz F H g2, sF, frz_sub R.sub, ⟨f1, g1, a.change sF fun x hx => ⟨frz_none (hd x (by simp [hx])) (a.fnone x hx).1, rfl⟩, ?_, ?_, fun x hx => io x ?_⟩, R.keep, fun x hx => ?_, R.f0.trans sF, R.pin⟩
  · have := (c.change sF fun x hx => ⟨frz_none (hd x (by simp [hx])) (c.fnone x hx).1, rfl⟩).app (ORp.mkd (H := H) (show Rp K (frz F H g2) v o.erase by simpa using pk))
    simpa using this
  · rw [← List.append_assoc] at nd
    exact (List.nodup_append.mp nd).1
  · rw [← List.append_assoc]; exact List.mem_append_left _ hx
  · by_cases h2 : x ∈ g2
    · rcases io x (by simp [h2]) with h | h
      · exact .inr (.inr h)
      · exact .inr (.inl h)
    · unfold frz at hx
      rw [if_neg h2] at hx
      exact R.new x hx
/-- a slot's thing goes over to the frozen part -/
theorem Rel.freezeSlot {i : Nat} {o : OD} (R : Rel K S F σ H env hs ho) (e : env[i]? = some (some o)) (hns : o.noS = true) :
    ∃ F' v, Same F F' ∧ σ[i]? = some (some v) ∧ Rp K F' v o.erase ∧ Rel K S F' σ H (env.set i (some (.d o.erase))) hs ho := by
  obtain ⟨f1, f2, a, b, nd, io⟩ := R.rep
  obtain ⟨v, fpi, rest, h1, h2, h3, h4⟩ := a.at e
  have nd' := nodup_perm_app nd h3
  have fn : ∀ x ∈ fpi, F x = none := fun x hx => (h2.fnone x hx).1
  have sF := frz_same (H := H) fn
  have hd : ∀ x ∈ rest ++ f2, x ∉ fpi := fun x hx q => by
    rw [List.append_assoc] at nd'
    exact (List.nodup_append.mp nd').2.2 x q x hx rfl
  have pk := h2.peek sF (fun x hx => by unfold frz; rw [if_pos hx]) (by simpa [noSL] using hns)
  have rp : Rp K (frz F H fpi) v o.erase := by simpa using pk
  have rst : ∀ x ∈ rest, frz F H fpi x = none ∧ H x = H x := fun x hx => ⟨frz_none (hd x (by simp [hx])) (a.fnone x (h3.mem_iff.mpr (by simp [hx]))).1, rfl⟩
  obtain ⟨fp', q1, q2⟩ := h4 (frz F H fpi) H v (.d o.erase) [] sF rst (ORp.mkd rp)
  have hσ : σ.set i (some v) = σ := List.ext_getElem? fun j => by
    rw [List.getElem?_set]
    by_cases hj : i = j
    · subst hj
      rw [if_pos rfl, h1]
      have := (List.getElem?_eq_some_iff.mp h1).1
      rw [if_pos this]
    · rw [if_neg hj]
  rw [hσ] at q1
  have q2 : fp'.Perm rest := by simpa using q2
  have nd2 : (rest ++ f2).Nodup := by
    rw [List.append_assoc] at nd'
    exact (List.nodup_append.mp nd').2.1
  refine ⟨frz F H fpi, v, sF, h1, rp, frz_sub R.sub, ⟨fp', f2, q1, b.change sF fun x hx => ⟨frz_none (hd x (by simp [hx])) (b.fnone x hx).1, rfl⟩, nodup_perm_app nd2 q2.symm, fun x hx => io x ?_⟩, R.keep, fun x hx => ?_, R.f0.trans sF, R.pin⟩
  · rcases List.mem_append.mp hx with h | h
    · exact List.mem_append_left _ (h3.mem_iff.mpr (List.mem_append_right _ (q2.mem_iff.mp h)))
    · exact List.mem_append_right _ h
  · by_cases h5 : x ∈ fpi
    · rcases io x (List.mem_append_left _ (h3.mem_iff.mpr (List.mem_append_left _ h5))) with h | h
      · exact .inr (.inr h)
      · exact .inr (.inl h)
    · unfold frz at hx
      rw [if_neg h5] at hx
      exact R.new x hx
/-- a slot's thing as it stands -/
theorem Rel.slot {i : Nat} {o : OD} (R : Rel K S F σ H env hs ho) (e : env[i]? = some (some o)) : ∃ v fp, σ[i]? = some (some v) ∧ ORp K F H v o fp := by
  obtain ⟨f1, f2, a, b, nd, io⟩ := R.rep
  obtain ⟨v, fpi, rest, h1, h2, h3, h4⟩ := a.at e
  exact ⟨v, fpi, h1, h2⟩
/-- the last held thing is stored into a slot -/
theorem Rel.store {v : V} {o : OD} {i : Nat} (R : Rel K S F σ H env (hs ++ [v]) (ho ++ [o])) (hl : hs.length = ho.length) (hi : i < σ.length) (hp : ∀ p ∈ S.pin, p.1 ≠ i) :
    Rel K S F (σ.set i (some v)) H (env.set i (some o)) hs ho := by
  obtain ⟨f1, f2, a, b, nd, io⟩ := R.rep
  obtain ⟨g1, g2, c, d, rfl⟩ := OReps.split hl b
  obtain ⟨rest, ⟨l, p1⟩, p2⟩ := a.put hi
  obtain ⟨fp', q1, q2⟩ := p2 v o g2 d
  have pm : (f1 ++ (g1 ++ g2)).Perm (l ++ ((g2 ++ rest) ++ g1)) := by
    refine (p1.append_right _).trans ?_
    rw [List.append_assoc]
    refine List.Perm.append_left l ?_
    have e1 : (rest ++ (g1 ++ g2)).Perm (rest ++ (g2 ++ g1)) := List.Perm.append_left rest List.perm_append_comm
    refine e1.trans ?_
    rw [← List.append_assoc]
    exact List.perm_append_comm.append_right g1
  have pm2 : (fp' ++ g1).Perm ((g2 ++ rest) ++ g1) := q2.append_right g1
  refine ⟨R.sub, ⟨fp', g1, q1, c, ?_, fun x hx => io x ?_⟩, R.keep, R.new, R.f0, fun p hp' => ?_⟩
  · exact (pm2.nodup_iff).mpr (List.nodup_append.mp ((pm.nodup_iff).mp nd)).2.1
  · exact pm.mem_iff.mpr (List.mem_append_right _ (pm2.mem_iff.mp hx))
  · rw [List.getElem?_set_ne (Ne.symm (hp p hp'))]
    exact R.pin p hp'
/-- the list in slot i is changed: its new items are (parts of) the old ones and held ones, all at fresh-or-own places -/
theorem Rel.mutL {i : Nat} {ps ps' : List OD} {v : V} {us : List V} {us' : List OD} (R : Rel K S F σ H env (hs ++ us) (ho ++ us')) (hl : hs.length = ho.length) (e : env[i]? = some (some (.l ps))) :
    ∃ a ws, σ[i]? = some (some (.ref a)) ∧ H a = some (.lst ws) ∧ ws.length = ps.length ∧
      ∀ (ws' : List V) (ps' : List OD), (∀ F2 H2 fp fq, OReps K F2 H2 ws ps fp → OReps K F2 H2 us us' fq → ∃ fr l, OReps K F2 H2 ws' ps' fr ∧ (fp ++ fq).Perm (l ++ fr)) →
        Rel K S F σ (upd H a (.lst ws')) (env.set i (some (.l ps'))) hs ho := by
  obtain ⟨f1, f2, a, b, nd, io⟩ := R.rep
  obtain ⟨g1, g2, c, d, rfl⟩ := OReps.split hl b
  obtain ⟨v, fpi, rest, h1, h2, h3, h4⟩ := a.at e
  obtain ⟨p, ws, fp1, rfl, hFp, hHp, hw, rfl⟩ := h2.l_inv
  refine ⟨p, ws, h1, hHp, hw.len, fun ws' ps' hch => ?_⟩
  have nd' := nodup_perm_app nd h3
  have nd0 : (p :: (fp1 ++ rest ++ (g1 ++ g2))).Nodup := by simpa [List.append_assoc] using nd'
  have np : ∀ x ∈ fp1 ++ rest ++ (g1 ++ g2), x ≠ p := fun x hx z => (List.nodup_cons.mp nd0).1 (z ▸ hx)
  have hu : ∀ x, x ≠ p → upd H p (.lst ws') x = H x := fun x hx => upd_ne hx
  have w2 := hw.change (F' := F) (H' := upd H p (.lst ws')) (Same.refl _) fun x hx => ⟨(hw.fnone x hx).1, hu x (np x (by simp [hx]))⟩
  have d2 := d.change (F' := F) (H' := upd H p (.lst ws')) (Same.refl _) fun x hx => ⟨(d.fnone x hx).1, hu x (np x (by simp [hx]))⟩
  obtain ⟨fr, l, r1, r2⟩ := hch F _ _ _ w2 d2
  have rst : ∀ x ∈ rest, F x = none ∧ upd H p (.lst ws') x = H x := fun x hx => ⟨(a.fnone x (h3.mem_iff.mpr (by simp [hx]))).1, hu x (np x (by simp [hx]))⟩
  obtain ⟨fp', q1, q2⟩ := h4 F (upd H p (.lst ws')) (.ref p) (.l ps') (p :: fr) (Same.refl _) rst (ORp.mkl hFp upd_same r1)
  have hσ : σ.set i (some (.ref p)) = σ := List.ext_getElem? fun j => by
    rw [List.getElem?_set]
    by_cases hj : i = j
    · subst hj
      rw [if_pos rfl, h1]
      have := (List.getElem?_eq_some_iff.mp h1).1
      rw [if_pos this]
    · rw [if_neg hj]
  rw [hσ] at q1
  have pm : (p :: (fp1 ++ rest ++ (g1 ++ g2))).Perm (l ++ (p :: fr ++ rest ++ g1)) := by
    have e1 : (fp1 ++ rest ++ (g1 ++ g2)).Perm ((fp1 ++ g2) ++ (rest ++ g1)) := by
      rw [List.append_assoc, List.append_assoc]
      refine List.Perm.append_left fp1 ?_
      have : (rest ++ (g1 ++ g2)).Perm (g2 ++ (rest ++ g1)) := by
        rw [← List.append_assoc]
        exact List.perm_append_comm
      exact this
    have e2 := e1.trans (r2.append_right (rest ++ g1))
    have e3 : (l ++ fr ++ (rest ++ g1)).Perm (l ++ (fr ++ rest ++ g1)) := by simp [List.append_assoc]
    refine ((e2.trans e3).cons p).trans ?_
    have : (p :: (l ++ (fr ++ rest ++ g1))).Perm (l ++ p :: (fr ++ rest ++ g1)) := List.perm_middle.symm
    simpa using this
  have pm2 : (fp' ++ g1).Perm (p :: fr ++ rest ++ g1) := q2.append_right g1
  refine ⟨fun x o hx => ?_, ⟨fp', g1, q1, c.change (Same.refl _) fun x hx => ⟨(c.fnone x hx).1, hu x (np x (by simp [hx]))⟩, ?_, fun x hx => io x ?_⟩, fun x o hx hi => ?_, R.new, R.f0, R.pin⟩
  · rw [hu x fun z => by rw [z, hFp] at hx; cases hx]
    exact R.sub x o hx
  · exact (pm2.nodup_iff).mpr (List.nodup_append.mp ((pm.nodup_iff).mp nd0)).2.1
  · have m1 := pm.mem_iff.mpr (List.mem_append_right l (pm2.mem_iff.mp hx))
    have : x ∈ f1 ++ (g1 ++ g2) := by
      rcases List.mem_cons.mp m1 with rfl | m1
      · exact List.mem_append_left _ (h3.mem_iff.mpr (by simp))
      · simp only [List.mem_append] at m1 ⊢
        rcases m1 with (m1 | m1) | m1 | m1
        · exact .inl (h3.mem_iff.mpr (by simp [m1]))
        · exact .inl (h3.mem_iff.mpr (by simp [m1]))
        · exact .inr (.inl m1)
        · exact .inr (.inr m1)
    exact this
  · have := R.keep x o hx hi
    by_cases hxp : x = p
    · subst hxp
      rcases io x (List.mem_append_left _ (h3.mem_iff.mpr (by simp))) with h | h
      · exact absurd h hi
      · rw [h] at hx; cases hx
    · rw [hu x hxp]; exact this
/-- the dict in slot i is changed -/
theorem Rel.mutD {i : Nat} {ks : List Key} {ps : List OD} {us : List V} {us' : List OD} (R : Rel K S F σ H env (hs ++ us) (ho ++ us')) (hl : hs.length = ho.length) (e : env[i]? = some (some (.m ks ps))) :
    ∃ a kvs, σ[i]? = some (some (.ref a)) ∧ H a = some (.dK kvs) ∧ kvs.map (·.1) = ks ∧ kvs.length = ps.length ∧
      ∀ (kvs' : List (Key × V)) (ps' : List OD), (∀ F2 H2 fp fq, OReps K F2 H2 (kvs.map (·.2)) ps fp → OReps K F2 H2 us us' fq → ∃ fr l, OReps K F2 H2 (kvs'.map (·.2)) ps' fr ∧ (fp ++ fq).Perm (l ++ fr)) →
        Rel K S F σ (upd H a (.dK kvs')) (env.set i (some (.m (kvs'.map (·.1)) ps'))) hs ho := by
  obtain ⟨f1, f2, a, b, nd, io⟩ := R.rep
  obtain ⟨g1, g2, c, d, rfl⟩ := OReps.split hl b
  obtain ⟨v, fpi, rest, h1, h2, h3, h4⟩ := a.at e
  obtain ⟨p, kvs, fp1, rfl, hFp, hHp, hk, hw, rfl⟩ := h2.m_inv
  refine ⟨p, kvs, h1, hHp, hk, by simpa using hw.len, fun kvs' ps' hch => ?_⟩
  have nd' := nodup_perm_app nd h3
  have nd0 : (p :: (fp1 ++ rest ++ (g1 ++ g2))).Nodup := by simpa [List.append_assoc] using nd'
  have np : ∀ x ∈ fp1 ++ rest ++ (g1 ++ g2), x ≠ p := fun x hx z => (List.nodup_cons.mp nd0).1 (z ▸ hx)
  have hu : ∀ x, x ≠ p → upd H p (.dK kvs') x = H x := fun x hx => upd_ne hx
  have w2 := hw.change (F' := F) (H' := upd H p (.dK kvs')) (Same.refl _) fun x hx => ⟨(hw.fnone x hx).1, hu x (np x (by simp [hx]))⟩
  have d2 := d.change (F' := F) (H' := upd H p (.dK kvs')) (Same.refl _) fun x hx => ⟨(d.fnone x hx).1, hu x (np x (by simp [hx]))⟩
  obtain ⟨fr, l, r1, r2⟩ := hch F _ _ _ w2 d2
  have rst : ∀ x ∈ rest, F x = none ∧ upd H p (.dK kvs') x = H x := fun x hx => ⟨(a.fnone x (h3.mem_iff.mpr (by simp [hx]))).1, hu x (np x (by simp [hx]))⟩
  obtain ⟨fp', q1, q2⟩ := h4 F (upd H p (.dK kvs')) (.ref p) (.m (kvs'.map (·.1)) ps') (p :: fr) (Same.refl _) rst (ORp.mkm hFp upd_same rfl r1)
  have hσ : σ.set i (some (.ref p)) = σ := List.ext_getElem? fun j => by
    rw [List.getElem?_set]
    by_cases hj : i = j
    · subst hj
      rw [if_pos rfl, h1]
      have := (List.getElem?_eq_some_iff.mp h1).1
      rw [if_pos this]
    · rw [if_neg hj]
  rw [hσ] at q1
  have pm : (p :: (fp1 ++ rest ++ (g1 ++ g2))).Perm (l ++ (p :: fr ++ rest ++ g1)) := by
    have e1 : (fp1 ++ rest ++ (g1 ++ g2)).Perm ((fp1 ++ g2) ++ (rest ++ g1)) := by
      rw [List.append_assoc, List.append_assoc]
      refine List.Perm.append_left fp1 ?_
      have : (rest ++ (g1 ++ g2)).Perm (g2 ++ (rest ++ g1)) := by
        rw [← List.append_assoc]
        exact List.perm_append_comm
      exact this
    have e2 := e1.trans (r2.append_right (rest ++ g1))
    have e3 : (l ++ fr ++ (rest ++ g1)).Perm (l ++ (fr ++ rest ++ g1)) := by simp [List.append_assoc]
    refine ((e2.trans e3).cons p).trans ?_
    have : (p :: (l ++ (fr ++ rest ++ g1))).Perm (l ++ p :: (fr ++ rest ++ g1)) := List.perm_middle.symm
    simpa using this
  have pm2 : (fp' ++ g1).Perm (p :: fr ++ rest ++ g1) := q2.append_right g1
  refine ⟨fun x o hx => ?_, ⟨fp', g1, q1, c.change (Same.refl _) fun x hx => ⟨(c.fnone x hx).1, hu x (np x (by simp [hx]))⟩, ?_, fun x hx => io x ?_⟩, fun x o hx hi => ?_, R.new, R.f0, R.pin⟩
  · rw [hu x fun z => by rw [z, hFp] at hx; cases hx]
    exact R.sub x o hx
  · exact (pm2.nodup_iff).mpr (List.nodup_append.mp ((pm.nodup_iff).mp nd0)).2.1
  · have m1 := pm.mem_iff.mpr (List.mem_append_right l (pm2.mem_iff.mp hx))
    have : x ∈ f1 ++ (g1 ++ g2) := by
      rcases List.mem_cons.mp m1 with rfl | m1
      · exact List.mem_append_left _ (h3.mem_iff.mpr (by simp))
      · simp only [List.mem_append] at m1 ⊢
        rcases m1 with (m1 | m1) | m1 | m1
        · exact .inl (h3.mem_iff.mpr (by simp [m1]))
        · exact .inl (h3.mem_iff.mpr (by simp [m1]))
        · exact .inr (.inl m1)
        · exact .inr (.inr m1)
    exact this
  · have := R.keep x o hx hi
    by_cases hxp : x = p
    · subst hxp
      rcases io x (List.mem_append_left _ (h3.mem_iff.mpr (by simp))) with h | h
      · exact absurd h hi
      · rw [h] at hx; cases hx
    · rw [hu x hxp]; exact this
end

/-! ### the evaluator's monad -/
/-- an exception: its class's name, what it holds -/
structure Xn where
  cls : Str
  fld : Option PyData
inductive Rs (α : Type) where
  | ok (a : α)
  | ex (x : Xn)
abbrev M (α : Type) := DEnv → Option (Rs α × DEnv)
def M.ret {α : Type} (a : α) : M α := fun e => some (.ok a, e)
def M.bind {α β : Type} (m : M α) (f : α → M β) : M β := fun e => match m e with
  | none => none
  | some (.ex x, e') => some (.ex x, e')
  | some (.ok a, e') => f a e'
def M.of {α : Type} (o : Option α) : M α := fun e => match o with
  | none => none
  | some a => some (.ok a, e)
def Mwp {α : Type} (r : Option (Rs α × DEnv)) (Qo : α → DEnv → Prop) (Qx : Xn → DEnv → Prop) : Prop := match r with
  | some (.ok a, e) => Qo a e
  | some (.ex x, e) => Qx x e
  | none => False
theorem Mwp.bind {α β : Type} {m : M α} {f : α → M β} {e : DEnv} {Qo : β → DEnv → Prop} {Qx : Xn → DEnv → Prop} (h : Mwp (M.bind m f e) Qo Qx) : Mwp (m e) (fun a e' => Mwp (f a e') Qo Qx) Qx := by
  unfold M.bind at h
  cases q : m e with
  | none => rw [q] at h; exact h.elim
  | some r =>
    obtain ⟨r, e'⟩ := r
    rw [q] at h
    cases r with
    | ok a => exact h
    | ex x => exact h
theorem Mwp.imp {α : Type} {r : Option (Rs α × DEnv)} {Qo Qo' : α → DEnv → Prop} {Qx Qx' : Xn → DEnv → Prop} (h : Mwp r Qo Qx) (ho : ∀ a e, r = some (.ok a, e) → Qo a e → Qo' a e) (hx : ∀ x e, r = some (.ex x, e) → Qx x e → Qx' x e) : Mwp r Qo' Qx' := by
  cases r with
  | none => exact h.elim
  | some r =>
    obtain ⟨r, e⟩ := r
    cases r with
    | ok a => exact ho a e rfl h
    | ex x => exact hx x e rfl h

/-! ### judgements -/
structure WEs (X : Cx) (e : Expr) (σ : L2.St) (H : Hp) (Q : VK) : Prop where
  run : ∀ (pins : List (Addr × Obj)) (s : Shared), Inv X pins σ H s → wpAny (model X.prog X.w) X.A (eval e X.env) (EP X pins σ Q) X.xe s
def WE (X : Cx) (e : Expr) : TE := fun σ H Q => WEs X e σ H Q
theorem pe_we (X : Cx) (e : Expr) : PE X e (WE X e) := ⟨fun pins s _ _ _ I h => h.run pins s I⟩
theorem WE.of {X : Cx} {e : Expr} {t : TE} {σ : L2.St} {H : Hp} {Q : VK} (h : PE X e t) (q : t σ H Q) : WE X e σ H Q := ⟨fun pins s I => h.run pins s σ H Q I q⟩
structure WAs (X : Cx) (es : List Expr) (σ : L2.St) (H : Hp) (Q : List V → Hp → Prop) : Prop where
  run : ∀ (pos : Pos) (pins : List (Addr × Obj)) (s : Shared), Inv X pins σ H s → wpAny (model X.prog X.w) X.A (spliced (backTo pos (starEach es X.env))) (AP X pins σ Q) X.xe s
def WA (X : Cx) (es : List Expr) : TA := fun σ H Q => WAs X es σ H Q
theorem pa_wa (X : Cx) (es : List Expr) : PA X es (WA X es) := ⟨fun pos pins s _ _ _ I h => h.run pos pins s I⟩
theorem WA.of {X : Cx} {es : List Expr} {t : TA} {σ : L2.St} {H : Hp} {Q : List V → Hp → Prop} (h : PA X es t) (q : t σ H Q) : WA X es σ H Q := ⟨fun pos pins s I => h.run pos pins s σ H Q I q⟩
structure WTs (X : Cx) (e : Expr) (σ : L2.St) (H : Hp) (Q : Bool → Hp → Prop) : Prop where
  run : ∀ (pins : List (Addr × Obj)) (s : Shared), Inv X pins σ H s → wpAny (model X.prog X.w) X.A (isTrue e X.env (eval e X.env)) (TP X pins σ Q) X.xe s
def WT (X : Cx) (e : Expr) : TT := fun σ H Q => WTs X e σ H Q
theorem pt_wt (X : Cx) (e : Expr) : PT X e (WT X e) := ⟨fun pins s _ _ _ I h => h.run pins s I⟩
theorem WT.of {X : Cx} {e : Expr} {t : TT} {σ : L2.St} {H : Hp} {Q : Bool → Hp → Prop} (h : PT X e t) (q : t σ H Q) : WT X e σ H Q := ⟨fun pins s I => h.run pins s σ H Q I q⟩
structure WSs (X : Cx) (st : Stmt) (D : Ends) (σ : L2.St) (H : Hp) : Prop where
  run : ∀ (pins : List (Addr × Obj)) (s : Shared), Inv X pins σ H s → wpAny (model X.prog X.w) X.A (exec st X.env) (SP X pins D) X.xe s
def WS (X : Cx) (st : Stmt) : TS := fun D σ H => WSs X st D σ H
theorem ps_ws (X : Cx) (st : Stmt) : PS X st (WS X st) := ⟨fun pins s _ _ _ I h => h.run pins s I⟩
theorem WS.of {X : Cx} {st : Stmt} {t : TS} {σ : L2.St} {H : Hp} {D : Ends} (h : PS X st t) (q : t D σ H) : WS X st D σ H := ⟨fun pins s I => h.run pins s σ H D I q⟩
structure WBs (X : Cx) (st : List Stmt) (D : Ends) (σ : L2.St) (H : Hp) : Prop where
  run : ∀ (pins : List (Addr × Obj)) (s : Shared), Inv X pins σ H s → wpAny (model X.prog X.w) X.A (execs st X.env) (SP X pins D) X.xe s
def WB (X : Cx) (st : List Stmt) : TS := fun D σ H => WBs X st D σ H
theorem pss_wb (X : Cx) (st : List Stmt) : PSs X st (WB X st) := ⟨fun pins s _ _ _ I h => h.run pins s I⟩
theorem WB.of {X : Cx} {st : List Stmt} {t : TS} {σ : L2.St} {H : Hp} {D : Ends} (h : PSs X st t) (q : t D σ H) : WB X st D σ H := ⟨fun pins s I => h.run pins s σ H D I q⟩

/-- how an exception of the evaluator stands -/
def XR (K : PySem.W.Frag) (mg : Str → Option Value) (F H : Hp) (x : Xn) (cls : Value) (d : Option Addr) : Prop :=
  mg x.cls = some cls ∧ match x.fld with
    | none => d = none
    | some y => ∃ dx f v, d = some dx ∧ H dx = some (.xd [(f, v)]) ∧ Rp K F v y
/-- what is to be shown when an exception comes out -/
def QX (X : Cx) (S : Sx) (W : WX) (F : Hp) (σ : L2.St) (hs : List V) (ho : List OD) : Xn → DEnv → Prop := fun x env' =>
  ∀ F' H' cls d, Same F F' → Rel X.K S F' σ H' env' hs ho → XR X.K X.mg F' H' x cls d → W cls d σ H'
theorem QX.mono {X : Cx} {S : Sx} {W : WX} {F F1 : Hp} {σ : L2.St} {hs ws : List V} {ho os : List OD} {x : Xn} {e : DEnv} (h : QX X S W F σ hs ho x e) (s : Same F F1) (hl : hs.length = ho.length) : QX X S W F1 σ (hs ++ ws) (ho ++ os) x e :=
  fun F' H' cls d s' R r => h F' H' cls d (s.trans s') (R.drop hl) r
/-- an expression and its evaluator -/
def DE (X : Cx) (S : Sx) (W : WX) (e : Expr) (m : M OD) : Prop :=
  ∀ (F : Hp) (σ : L2.St) (H : Hp) (env : DEnv) (hs : List V) (ho : List OD) (Q : VK), Rel X.K S F σ H env hs ho →
    Mwp (m env) (fun o env' => ∀ F' H' v, Same F F' → Rel X.K S F' σ H' env' (hs ++ [v]) (ho ++ [o]) → Q v H') (QX X S W F σ hs ho) → WE X e σ H Q

/-! ### operands -/
inductive HE where
  | o (x : OD)
  | al (i : Nat)
inductive Opd where
  /-- the thing in a slot, read when all operands have been asked -/
  | plc (i : Nat)
  /-- a value as it comes -/
  | own (m : M OD)
  /-- a value, frozen -/
  | val (m : M OD)
def Opd.go : Opd → M HE
  | .plc i => fun e => match e[i]? with
    | some (some _) => some (.ok (.al i), e)
    | _ => none
  | .own m => M.bind m fun o => M.ret (.o o)
  | .val m => M.bind m fun o => if o.noS then M.ret (.o (.d o.erase)) else fun _ => none
def HE.rd (e : DEnv) : HE → Option OD
  | .o x => some x
  | .al i => (e[i]?).join
def rds (e : DEnv) : List HE → Option (List OD)
  | [] => some []
  | h :: hs => match h.rd e with
    | none => none
    | some o => match rds e hs with
      | none => none
      | some os => some (o :: os)
def args : List Opd → M (List HE)
  | [] => M.ret []
  | q :: qs => M.bind q.go fun h => M.bind (args qs) fun hs => M.ret (h :: hs)
/-- a pure operation on operands -/
def prim (g : List OD → Option OD) (qs : List Opd) : M OD := M.bind (args qs) fun hes e => match rds e hes with
  | none => none
  | some os => match g os with
    | none => none
    | some o => some (.ok o, e)

/-- what an operand leaves: a held thing, or a slot's -/
def Left (K : PySem.W.Frag) (S : Sx) (F : Hp) (σ : L2.St) (H : Hp) (env : DEnv) (hs : List V) (ho : List OD) (v : V) : HE → Prop
  | .o x => Rel K S F σ H env (hs ++ [v]) (ho ++ [x])
  | .al i => σ[i]? = some (some v) ∧ Rel K S F σ H env hs ho
def DO (X : Cx) (S : Sx) (W : WX) (e : Expr) (q : Opd) : Prop :=
  ∀ (F : Hp) (σ : L2.St) (H : Hp) (env : DEnv) (hs : List V) (ho : List OD) (Q : VK), Rel X.K S F σ H env hs ho →
    Mwp (q.go env) (fun he env' => ∀ F' H' v, Same F F' → Left X.K S F' σ H' env' hs ho v he → Q v H') (QX X S W F σ hs ho) → WE X e σ H Q
inductive Mt (σ : L2.St) : List HE → List V → List V → List OD → Prop
  | nil : Mt σ [] [] [] []
  | o {x v hes vs hvs hos} : Mt σ hes vs hvs hos → Mt σ (.o x :: hes) (v :: vs) (v :: hvs) (x :: hos)
  | al {i v hes vs hvs hos} : σ[i]? = some (some v) → Mt σ hes vs hvs hos → Mt σ (.al i :: hes) (v :: vs) hvs hos
theorem Mt.hlen {σ : L2.St} {hes vs hvs hos} (h : Mt σ hes vs hvs hos) : hvs.length = hos.length := by
  induction h with
  | nil => rfl
  | o _ ih => simp [ih]
  | al _ _ ih => exact ih
/-- each operand, as it stands when all have been asked -/
inductive Rdb (K : PySem.W.Frag) (F H : Hp) : List V → List OD → Prop
  | nil : Rdb K F H [] []
  | cons {v o vs os fp} : ORp K F H v o fp → Rdb K F H vs os → Rdb K F H (v :: vs) (o :: os)
theorem Mt.rdb {K : PySem.W.Frag} {S : Sx} {F H : Hp} {σ : L2.St} {env : DEnv} : ∀ {hes vs hvs hos} {hs : List V} {ho os : List OD}, Mt σ hes vs hvs hos → Rel K S F σ H env (hs ++ hvs) (ho ++ hos) → hs.length = ho.length → rds env hes = some os → Rdb K F H vs os
  | [], _, _, _, _, _, _, .nil, R, hl, e => by
    simp only [rds, Option.some.injEq] at e
    subst e
    exact .nil
  | .o x :: hes, v :: vs, _, _, hs, ho, os, .o (hvs := hvs) (hos := hos) m, R, hl, e => by
    simp only [rds, HE.rd] at e
    cases q : rds env hes with
    | none => rw [q] at e; cases e
    | some os' =>
      rw [q] at e
      cases e
      obtain ⟨fp, r⟩ := R.heldReps hl
      obtain ⟨g1, g2, r1, r2, _⟩ := r.inv
      refine .cons r1 (Mt.rdb (hs := hs ++ [v]) (ho := ho ++ [x]) m (by simpa [List.append_assoc] using R) (by simp [hl]) q)
  | .al i :: hes, v :: vs, _, _, hs, ho, os, .al h m, R, hl, e => by
    simp only [rds, HE.rd] at e
    cases q0 : env[i]? with
    | none => rw [q0] at e; simp at e
    | some oo =>
      rw [q0] at e
      cases oo with
      | none => simp at e
      | some o =>
        simp only [Option.join_some] at e
        cases q : rds env hes with
        | none => rw [q] at e; cases e
        | some os' =>
          rw [q] at e
          cases e
          obtain ⟨v', fp, h1, h2⟩ := R.slot q0
          rw [h1] at h
          cases h
          exact .cons h2 (Mt.rdb m R hl q)
structure DAs (X : Cx) (S : Sx) (W : WX) (es : List Expr) (qs : List Opd) : Prop where
  run : ∀ (F : Hp) (σ : L2.St) (H : Hp) (env : DEnv) (hs : List V) (ho : List OD) (Q : List V → Hp → Prop), Rel X.K S F σ H env hs ho →
    Mwp (args qs env) (fun hes env' => ∀ F' H' vs hvs hos, Same F F' → Mt σ hes vs hvs hos → Rel X.K S F' σ H' env' (hs ++ hvs) (ho ++ hos) → Q vs H') (QX X S W F σ hs ho) → WA X es σ H Q
section
variable {X : Cx} {S : Sx} {W : WX}
theorem DAs.nil : DAs X S W [] [] := ⟨fun F σ H env hs ho Q R h => WA.of pa_nil (h F H [] [] [] (Same.refl _) .nil (by simpa using R))⟩
theorem args_step {F : Hp} {σ : L2.St} {env : DEnv} {hs : List V} {ho : List OD} {q : Opd} {qs : List Opd} {Q : List V → Hp → Prop} (hl : hs.length = ho.length)
    (h : Mwp (args (q :: qs) env) (fun hes env' => ∀ F' H' vs hvs hos, Same F F' → Mt σ hes vs hvs hos → Rel X.K S F' σ H' env' (hs ++ hvs) (ho ++ hos) → Q vs H') (QX X S W F σ hs ho)) :
    Mwp (q.go env) (fun he env1 => ∀ F1 H1 v, Same F F1 → Left X.K S F1 σ H1 env1 hs ho v he → ∃ hs1 ho1, Rel X.K S F1 σ H1 env1 hs1 ho1 ∧
      Mwp (args qs env1) (fun hes env' => ∀ F' H' vs hvs hos, Same F1 F' → Mt σ hes vs hvs hos → Rel X.K S F' σ H' env' (hs1 ++ hvs) (ho1 ++ hos) → Q (v :: vs) H') (QX X S W F1 σ hs1 ho1)) (QX X S W F σ hs ho) := by
  refine (Mwp.bind h).imp (fun he env1 _ h1 F1 H1 v s1 L => ?_) fun _ _ _ x => x
  have h2 := Mwp.bind h1
  cases he with
  | o x =>
    refine ⟨hs ++ [v], ho ++ [x], L, h2.imp (fun hes env' _ h3 F' H' vs hvs hos s' mt R => ?_) fun x e _ hx => QX.mono hx s1 hl⟩
    exact h3 F' H' (v :: vs) (v :: hvs) (x :: hos) (s1.trans s') (.o mt) (by simpa [List.append_assoc] using R)
  | al i =>
    obtain ⟨hv, L⟩ := L
    refine ⟨hs, ho, L, h2.imp (fun hes env' _ h3 F' H' vs hvs hos s' mt R => ?_) fun x e _ hx => ?_⟩
    · exact h3 F' H' (v :: vs) hvs hos (s1.trans s') (.al hv mt) R
    · have := QX.mono (ws := []) (os := []) hx s1 hl
      simpa using this
def nstar (e : Expr) : Bool := match e with
  | .Starred _ _ => false
  | _ => true
theorem star_plain {e : Expr} (es : List Expr) (env : Env) (h : nstar e = true) : starEach (e :: es) env = (false, eval e env) :: starEach es env := by
  cases e <;> first | rfl | cases h
theorem DAs.cons {e : Expr} {es : List Expr} {q : Opd} {qs : List Opd} (h1 : DO X S W e q) (h2 : DAs X S W es qs) (hns : nstar e = true := by rfl) : DAs X S W (e :: es) (q :: qs) := by
  have hst := star_plain es X.env hns
  refine ⟨fun F σ H env hs ho Q R h => ?_⟩
  refine WA.of (pa_cons (pe_we X e) (pa_wa X es) hst) ?_
  refine h1 F σ H env hs ho _ R ((args_step R.hlen h).imp (fun he env1 _ k F1 H1 v s1 L => ?_) fun _ _ _ x => x)
  obtain ⟨hs1, ho1, R1, k⟩ := k F1 H1 v s1 L
  exact h2.run F1 σ H1 env1 hs1 ho1 _ R1 k
/-- two expressions, one after the other -/
theorem DA2 {a b : Expr} {qa qb : Opd} (h1 : DO X S W a qa) (h2 : DO X S W b qb) {F : Hp} {σ : L2.St} {H : Hp} {env : DEnv} {hs : List V} {ho : List OD} {Q : V → V → Hp → Prop} (R : Rel X.K S F σ H env hs ho)
    (h : Mwp (args [qa, qb] env) (fun hes env' => ∀ F' H' x y hvs hos, Same F F' → Mt σ hes [x, y] hvs hos → Rel X.K S F' σ H' env' (hs ++ hvs) (ho ++ hos) → Q x y H') (QX X S W F σ hs ho)) :
    WE X a σ H fun x H1 => WE X b σ H1 fun y H2 => Q x y H2 := by
  have h := h.imp (Qo' := fun hes env' => ∀ F' H' vs hvs hos, Same F F' → Mt σ hes vs hvs hos → Rel X.K S F' σ H' env' (hs ++ hvs) (ho ++ hos) → (match vs with | [x, y] => Q x y H' | _ => True)) (fun hes e' _ k F' H' vs hvs hos s mt R' => by
    match vs, mt with
    | [x, y], mt => exact k F' H' x y hvs hos s mt R'
    | [], _ => trivial
    | [_], _ => trivial
    | _ :: _ :: _ :: _, _ => trivial) fun _ _ _ x => x
  refine h1 F σ H env hs ho _ R ((args_step R.hlen h).imp (fun he env1 _ k F1 H1 v s1 L => ?_) fun _ _ _ x => x)
  obtain ⟨hs1, ho1, R1, k⟩ := k F1 H1 v s1 L
  refine h2 F1 σ H1 env1 hs1 ho1 _ R1 ((args_step R1.hlen k).imp (fun he env2 _ k F2 H2 w s2 L => ?_) fun _ _ _ x => x)
  obtain ⟨hs2, ho2, R2, k⟩ := k F2 H2 w s2 L
  have := k F2 H2 [] [] [] (Same.refl _) .nil (by simpa using R2)
  exact this
/-- one -/
theorem DA1 {a : Expr} {qa : Opd} (h1 : DO X S W a qa) {F : Hp} {σ : L2.St} {H : Hp} {env : DEnv} {hs : List V} {ho : List OD} {Q : V → Hp → Prop} (R : Rel X.K S F σ H env hs ho)
    (h : Mwp (args [qa] env) (fun hes env' => ∀ F' H' x hvs hos, Same F F' → Mt σ hes [x] hvs hos → Rel X.K S F' σ H' env' (hs ++ hvs) (ho ++ hos) → Q x H') (QX X S W F σ hs ho)) :
    WE X a σ H Q := by
  have h := h.imp (Qo' := fun hes env' => ∀ F' H' vs hvs hos, Same F F' → Mt σ hes vs hvs hos → Rel X.K S F' σ H' env' (hs ++ hvs) (ho ++ hos) → (match vs with | [x] => Q x H' | _ => True)) (fun hes e' _ k F' H' vs hvs hos s mt R' => by
    match vs, mt with
    | [x], mt => exact k F' H' x hvs hos s mt R'
    | [], _ => trivial
    | _ :: _ :: _, _ => trivial) fun _ _ _ x => x
  refine h1 F σ H env hs ho _ R ((args_step R.hlen h).imp (fun he env1 _ k F1 H1 v s1 L => ?_) fun _ _ _ x => x)
  obtain ⟨hs1, ho1, R1, k⟩ := k F1 H1 v s1 L
  have := k F1 H1 [] [] [] (Same.refl _) .nil (by simpa using R1)
  exact this

/-! ### names, constants -/
def mVar (i : Nat) : M OD := fun e => match e[i]? with
  | some (some o) => if o.noS then some (.ok (.d o.erase), e.set i (some (.d o.erase))) else none
  | _ => none
theorem de_var {i : Nat} {x : Str} {pos : Pos} (hN : X.N[i]? = some x := by rfl) (hv : Vis X.env.scope x := by first | exact Or.inl rfl | exact Or.inr (Or.inl rfl) | exact Or.inr (Or.inr rfl)) (hd : (x == ("__debug__" : Str)) = false := by decide)
    (hcd : (x == ("__classdict__" : Str)) = false := by decide) : DE X S W (.Name x pos) (mVar i) := by
  intro F σ H env hs ho Q R h
  unfold mVar at h
  cases q : env[i]? with
  | none => rw [q] at h; exact h.elim
  | some oo =>
    cases oo with
    | none => rw [q] at h; exact h.elim
    | some o =>
      rw [q] at h
      have hn : o.noS = true := by
        cases hn : o.noS with
        | true => rfl
        | false =>
          simp only [hn] at h
          exact h.elim
      simp only [hn, if_true] at h
      obtain ⟨F', v, s, h1, h2, R'⟩ := R.freezeSlot q hn
      exact WE.of (pe_var hN hv hd hcd) ⟨v, h1, h F' H v s (R'.push h2)⟩
theorem do_plc {i : Nat} {x : Str} {pos : Pos} (hN : X.N[i]? = some x := by rfl) (hv : Vis X.env.scope x := by first | exact Or.inl rfl | exact Or.inr (Or.inl rfl) | exact Or.inr (Or.inr rfl)) (hd : (x == ("__debug__" : Str)) = false := by decide)
    (hcd : (x == ("__classdict__" : Str)) = false := by decide) : DO X S W (.Name x pos) (.plc i) := by
  intro F σ H env hs ho Q R h
  simp only [Opd.go] at h
  cases q : env[i]? with
  | none => simp only [q] at h; exact h.elim
  | some oo =>
    cases oo with
    | none => simp only [q] at h; exact h.elim
    | some o =>
      simp only [q] at h
      obtain ⟨v, fp, h1, h2⟩ := R.slot q
      exact WE.of (pe_var hN hv hd hcd) ⟨v, h1, h F H v (Same.refl _) ⟨h1, R⟩⟩
theorem do_own {e : Expr} {m : M OD} (h : DE X S W e m) : DO X S W e (.own m) := by
  intro F σ H env hs ho Q R hq
  refine h F σ H env hs ho Q R ((Mwp.bind hq).imp (fun o env' _ k F' H' v s R' => ?_) fun _ _ _ x => x)
  exact k F' H' v s R'
theorem do_val {e : Expr} {m : M OD} (h : DE X S W e m) : DO X S W e (.val m) := by
  intro F σ H env hs ho Q R hq
  refine h F σ H env hs ho Q R ((Mwp.bind hq).imp (fun o env' _ k F' H' v s R' => ?_) fun _ _ _ x => x)
  have hn : o.noS = true := by
    cases hn : o.noS with
    | true => rfl
    | false =>
      simp only [hn] at k
      exact k.elim
  simp only [hn, if_true] at k
  obtain ⟨F2, s2, R2⟩ := R'.freeze R.hlen hn
  exact k F2 H' v (s.trans s2) R2
def mC (x : PyData) : M OD := M.ret (.d x)
theorem de_int {i j pos} : DE X S W (.Constant (.int i) j pos) (mC (.int i)) := fun F σ H env hs ho Q R h => WE.of pe_int (h F H _ (Same.refl _) (R.push (.int i .nil)))
theorem de_bl {b j pos} : DE X S W (.Constant (.bool b) j pos) (mC (.bool b)) := fun F σ H env hs ho Q R h => WE.of pe_bl (h F H _ (Same.refl _) (R.push (.bl b .nil)))
theorem de_non {j pos} : DE X S W (.Constant .none j pos) (mC .none) := fun F σ H env hs ho Q R h => WE.of pe_non (h F H _ (Same.refl _) (R.push (.non .nil)))
theorem de_str {x : Str} {j pos} (hx : x.length ≤ sizeLine := by decide) : DE X S W (.Constant (.str x) j pos) (mC (.str x)) := fun F σ H env hs ho Q R h => WE.of pe_str (h F H _ (Same.refl _) (R.push (.str x hx .nil)))
theorem de_globI {x : Str} {i : Int} {t : Tok} {pos : Pos} (hm : X.mg x = some (.int i t)) (hg : Gl X x := by rfl) (hd : (x == ("__debug__" : Str)) = false := by decide) : DE X S W (.Name x pos) (mC (.int i)) := fun F σ H env hs ho Q R h =>
  WE.of (pe_glob hg hm (v := .int i) ⟨t, rfl⟩ hd) (h F H _ (Same.refl _) (R.push (.int i .nil)))
theorem de_globS {x y : Str} {t : Tok} {pos : Pos} (hm : X.mg x = some (.str y t)) (hg : Gl X x := by rfl) (hy : y.length ≤ sizeLine := by decide) (hd : (x == ("__debug__" : Str)) = false := by decide) : DE X S W (.Name x pos) (mC (.str y)) := fun F σ H env hs ho Q R h =>
  WE.of (pe_glob hg hm (v := .str y) ⟨t, rfl⟩ hd) (h F H _ (Same.refl _) (R.push (.str y hy .nil)))
end
end DL

set_option Elab.async false
set_option linter.all false
set_option autoImplicit false
set_option maxRecDepth 100000
/-! Operations on operands: what each gives on data, and that it does so. -/
namespace DL
open PySem PySem.Spec PyProof.Rows L2

/-! ### from the layer's values to the heap's data -/
section
variable {X : Cx} {pins : List (Addr × Obj)} {σ : L2.St} {H : Hp} {s : Shared}
theorem pairs_read {kvs : List (Key × V)} {vs : List (Key × Value)} : ∀ {es : List DictEntry}, KV kvs vs → Pairs (mixKind X.prog X.w) es vs →
    es.length = kvs.length ∧ ReadsAll s.heap (es.map (·.key)) (kvs.map fun p => keyD p.1) [] ∧ Vals (kvs.map (·.2)) (es.map (·.val)) := by
  intro es hk
  induction hk generalizing es with
  | nil =>
    intro hp
    cases hp
    exact ⟨rfl, .nil, .nil⟩
  | @cons p q ps qs r t ih =>
    intro hp
    cases hp with
    | @cons e kv es' kvs' h1 h2 h3 =>
      obtain ⟨a, b, c⟩ := ih h3
      refine ⟨by simp [a], ?_, .cons (by show RelV p.2 e.val; rw [h2]; exact r.2) c⟩
      have hi : keyIs q.1 e.key = true := h1
      rw [← r.1] at hi
      rcases keyIs_shape hi with ⟨i, tk, e1, e2⟩ | ⟨x, tk, e1, e2⟩
      · refine ReadsAll.cons (d := keyD p.1) (as := []) (bs := []) ?_ b
        rw [e1]
        show Reads s.heap e.key (keyD (Sum.inl i)) []
        rw [e2]
        exact .int i tk
      · refine ReadsAll.cons (d := keyD p.1) (as := []) (bs := []) ?_ b
        rw [e1]
        show Reads s.heap e.key (keyD (Sum.inr x)) []
        rw [e2]
        exact .str x tk
theorem zip_fst {α β : Type} : ∀ {l : List α} {m : List β}, l.length = m.length → (l.zip m).map (·.1) = l
  | [], [], _ => rfl
  | [], _ :: _, h => by simp at h
  | _ :: _, [], h => by simp at h
  | a :: l, b :: m, h => by simp [zip_fst (l := l) (m := m) (by simpa using h)]
theorem zip_snd {α β : Type} : ∀ {l : List α} {m : List β}, l.length = m.length → (l.zip m).map (·.2) = m
  | [], [], _ => rfl
  | [], _ :: _, h => by simp at h
  | _ :: _, [], h => by simp at h
  | a :: l, b :: m, h => by simp [zip_snd (l := l) (m := m) (by simpa using h)]
theorem not_mods (hm : ∃ o, X.base.get? sysModules = some o) (I : Inv X pins σ H s) {a : Addr} {u : HO} (h : Rd H a u) : a ≠ sysModules := fun e => by
  obtain ⟨o, ho⟩ := hm
  have n := (I.bs _ _ ho).2
  rw [e] at h
  rcases h with h | ⟨_, h⟩ <;> (rw [n] at h; cases h)
theorem Reps.reads (hm : ∃ o, X.base.get? sysModules = some o) (I : Inv X pins σ H s) {vs ds} (h : Reps X.K H vs ds) : ∀ us, Vals vs us → ∃ as, ReadsAll s.heap us ds as ∧ sysModules ∉ as := by
  induction h with
  | nil => intro us r; cases r; exact ⟨_, .nil, by simp⟩
  | non _ ih =>
    intro us r
    cases r with
    | cons r1 r2 =>
      cases r1
      obtain ⟨as, q, n⟩ := ih _ r2
      exact ⟨_, .cons .none q, by simpa using n⟩
  | bl b _ ih =>
    intro us r
    cases r with
    | cons r1 r2 =>
      cases r1
      obtain ⟨as, q, n⟩ := ih _ r2
      exact ⟨_, .cons (.bool b) q, by simpa using n⟩
  | int i _ ih =>
    intro us r
    cases r with
    | cons r1 r2 =>
      obtain ⟨t, rfl⟩ := r1
      obtain ⟨as, q, n⟩ := ih _ r2
      exact ⟨_, .cons (.int i t) q, by simpa using n⟩
  | str x _ _ ih =>
    intro us r
    cases r with
    | cons r1 r2 =>
      obtain ⟨t, rfl⟩ := r1
      obtain ⟨as, q, n⟩ := ih _ r2
      exact ⟨_, .cons (.str x t) q, by simpa using n⟩
  | @lst a ws xs vs ds h1 h2 _ ih1 ih2 =>
    intro us r
    cases r with
    | cons r1 r2 =>
      cases r1
      obtain ⟨its, rv, ⟨o, n, ho, hc, _, hd⟩, _⟩ := I.list (.inl (.inl h1))
      obtain ⟨as, q, n1⟩ := ih1 _ rv
      obtain ⟨bs, q', n2⟩ := ih2 _ r2
      have na := not_mods hm I (.inl h1)
      exact ⟨_, .cons (.list ho hc hd q) q', by simp [n1, n2, na.symm]⟩
  | tup h1 h2 _ ih1 ih2 =>
    intro us r
    cases r with
    | cons r1 r2 =>
      cases r1
      obtain ⟨its, rv, ⟨o, ho, hc, n, hd⟩, _⟩ := I.tuple h1
      obtain ⟨as, q, n1⟩ := ih1 _ rv
      obtain ⟨bs, q', n2⟩ := ih2 _ r2
      exact ⟨_, .cons (.tuple ho hc hd q) q', by simp [n1, n2]⟩
  | @dic a kvs ks xs vs ds h1 h2 h3 _ ih1 ih2 =>
    intro us r
    cases r with
    | cons r1 r2 =>
      cases r1
      subst h2
      obtain ⟨z, hs, ws, rel, o, es, ep, ho, hex, hd, _, hp, _⟩ := dk_rd I.hok h1
      obtain ⟨a1, a2, a3⟩ := pairs_read (X := X) (s := s) rel hp
      obtain ⟨bs, q, n1⟩ := ih1 _ a3
      obtain ⟨cs, q', n2⟩ := ih2 _ r2
      have hl : ((kvs.map (·.1)).map keyD).length = xs.length := by have := h3.len; simpa using this
      refine ⟨_, .cons (.dict ho hex.1 hd (as := []) (bs := bs) ?_ ?_) q', ?_⟩
      · rw [zip_fst hl, List.map_map]
        exact a2
      · rw [zip_snd hl]
        exact q
      · have na := not_mods hm I h1
        simp [na.symm, n1, n2]
end
end DL

set_option Elab.async false
set_option linter.all false
set_option autoImplicit false
set_option maxRecDepth 100000
/-! Operations on operands: specs. -/
namespace DL
open PySem PySem.Spec PyProof.Rows L2

/-- what every context here has -/
structure Ok1 (X : Cx) : Prop where
  calm : X.calm = true
  nd : X.N.Nodup
  grd : X.A.guards = some []
  sysm : ∃ o, X.base.get? sysModules = some o
  un : X.A.units + 100 < cLine

/-- readable at once: what stands within is frozen -/
inductive Sh (K : PySem.W.Frag) (F H : Hp) : V → PyData → Prop
  | d {v x} : Rp K F v x → Sh K F H v x
  | l {a ws xs} : H a = some (.lst ws) → Reps K F ws xs → Sh K F H (.ref a) (.list xs)
  | m {a : Addr} {kvs : List (Key × V)} {xs : List PyData} : H a = some (.dK kvs) → Reps K F (kvs.map (·.2)) xs → Sh K F H (.ref a) (.dict (((kvs.map (·.1)).map keyD).zip xs))
section
variable {K : PySem.W.Frag} {F H : Hp} {v : V}
theorem ORp.sh {o : OD} {fp : List Addr} (h : ORp K F H v o fp) (hs : o.shallow = true) : Sh K F H v o.erase := by
  cases o with
  | d x => exact .d (by simpa [OD.erase] using h.d_inv.2)
  | l os =>
    obtain ⟨a, ws, fp1, rfl, _, h2, h3, _⟩ := h.l_inv
    rw [OD.erase, eraseL_map]
    exact .l h2 (h3.toReps (by simpa [OD.shallow] using hs)).2
  | m ks os =>
    obtain ⟨a, kvs, fp1, rfl, _, h2, rfl, h3, _⟩ := h.m_inv
    rw [OD.erase, eraseL_map]
    exact .m h2 (h3.toReps (by simpa [OD.shallow] using hs)).2
  | s ns => simp [OD.shallow] at hs
theorem Sh.int {i} (h : Sh K F H v (.int i)) : v = .int i := by cases h with | d h => exact h.int_inv
theorem Sh.bool {b} (h : Sh K F H v (.bool b)) : v = .bl b := by cases h with | d h => exact h.bool_inv
theorem Sh.none (h : Sh K F H v .none) : v = .non := by cases h with | d h => exact h.none_inv
theorem Sh.str {x} (h : Sh K F H v (.str x)) : v = .str x ∧ x.length ≤ sizeLine := by cases h with | d h => exact h.str_inv
theorem Sh.list {xs} (h : Sh K F H v (.list xs)) (e : Same F H) : ∃ a ws, v = .ref a ∧ H a = some (.lst ws) ∧ Reps K F ws xs := by
  cases h with
  | d h =>
    obtain ⟨a, ws, e1, e2, e3⟩ := h.list_inv
    exact ⟨a, ws, e1, e _ _ e2, e3⟩
  | l h1 h2 => exact ⟨_, _, rfl, h1, h2⟩
theorem Sh.tuple {xs} (h : Sh K F H v (.tuple xs)) (e : Same F H) : ∃ a ws, v = .ref a ∧ SqT K H a ws ∧ SqT K F a ws ∧ Reps K F ws xs := by
  cases h with
  | d h =>
    obtain ⟨a, ws, e1, e2, e3⟩ := h.tuple_inv
    exact ⟨a, ws, e1, DL.Same.sqt e e2, e2, e3⟩
theorem Sh.dict {kds} (h : Sh K F H v (.dict kds)) (e : Same F H) : ∃ a kvs xs, v = .ref a ∧ Rd H a (.dK kvs) ∧ kds = ((kvs.map (·.1)).map keyD).zip xs ∧ Reps K F (kvs.map (·.2)) xs := by
  cases h with
  | d h =>
    obtain ⟨a, kvs, xs, e1, e2, e3, e4⟩ := h.dict_inv
    exact ⟨a, kvs, xs, e1, DL.Same.rd e e2, e3, e4⟩
  | m h1 h2 => exact ⟨_, _, _, rfl, .inl h1, rfl, h2⟩
theorem Sh.deep {d} (h : Sh K F H v d) (e : Same F H) : Rp K H v d := by
  cases h with
  | d h => exact h.mono e
  | l h1 h2 => exact .lst h1 (h2.mono e) .nil
  | m h1 h2 => exact .dic (.inl h1) rfl (h2.mono e) .nil
theorem ORp.deep {o : OD} {fp : List Addr} (h : ORp K F H v o fp) (e : Same F H) (hs : o.noS = true) : Rp K H v o.erase := by
  have := h.peek e (fun _ _ => rfl) (by simpa [noSL] using hs)
  simpa using this
end

/-! ### what an operation gives -/
abbrev Cont (K : PySem.W.Frag) (S : Sx) (F : Hp) (σ : L2.St) (env : DEnv) (hs : List V) (ho : List OD) (o : OD) (Q : VK) : Prop :=
  ∀ F' H' v, Same F F' → Rel K S F' σ H' env (hs ++ [v]) (ho ++ [o]) → Q v H'
section
variable {K : PySem.W.Frag} {S : Sx} {F H : Hp} {σ : L2.St} {env : DEnv} {hs : List V} {ho : List OD} {Q : VK}
theorem fin_d (R : Rel K S F σ H env hs ho) {v : V} {x : PyData} (k : Cont K S F σ env hs ho (.d x) Q) (r : Rp K F v x) : Q v H := k F H v (Same.refl _) (R.push r)
theorem Rel.pushs : ∀ {ws : List V} {xs : List PyData} {hs ho}, Rel K S F σ H env hs ho → Reps K F ws xs → Rel K S F σ H env (hs ++ ws) (ho ++ xs.map .d)
  | [], [], _, _, R, _ => by simpa using R
  | [], _ :: _, _, _, _, h => nomatch h
  | _ :: _, [], _, _, _, h => nomatch h
  | w :: ws, x :: xs, hs, ho, R, h => by
    have := Rel.pushs (R.push h.inv.1) h.inv.2
    simpa [List.append_assoc] using this
theorem fin_l (R : Rel K S F σ H env hs ho) {p : Addr} {ws : List V} {xs : List PyData} (k : Cont K S F σ env hs ho (.l (xs.map .d)) Q) (r : Reps K F ws xs) (hp : H p = none) : Q (.ref p) (upd H p (.lst ws)) :=
  k F _ _ (Same.refl _) ((R.pushs r).newL R.hlen hp)
theorem fin_t (R : Rel K S F σ H env hs ho) {p : Addr} {ws : List V} {xs : List PyData} (k : Cont K S F σ env hs ho (.d (.tuple xs)) Q) (r : Reps K F ws xs) (hp : H p = none) : Q (.ref p) (upd H p (.tup ws)) := by
  obtain ⟨R', s⟩ := R.growF (u := .tup ws) hp
  exact k _ _ _ s (R'.push (.tup (.inl (.inl upd_same)) (r.mono s) .nil))
end
def OSpec (X : Cx) (S : Sx) (r : List V → Hp → VK → Prop) (g : List OD → Option OD) : Prop :=
  ∀ (F : Hp) (σ : L2.St) (H : Hp) (env : DEnv) (hs : List V) (ho : List OD) (vs : List V) (os : List OD) (o : OD) (Q : VK), Rel X.K S F σ H env hs ho → Rdb X.K F H vs os → g os = some o →
    Cont X.K S F σ env hs ho o Q → r vs H Q
def rr2 (r : R2) : List V → Hp → VK → Prop := fun vs H Q => match vs with
  | [x, y] => r x y H Q
  | _ => False
def rr1 (r : V → Hp → VK → Prop) : List V → Hp → VK → Prop := fun vs H Q => match vs with
  | [x] => r x H Q
  | _ => False
def sh1 (f : PyData → Option OD) : List OD → Option OD
  | [a] => if a.shallow then f a.erase else none
  | _ => none
def sh2 (f : PyData → PyData → Option OD) : List OD → Option OD
  | [a, b] => if a.shallow && b.shallow then f a.erase b.erase else none
  | _ => none
/-- read through: nothing of the operands is kept -/
def dp1 (f : PyData → Option OD) : List OD → Option OD
  | [a] => if a.noS then f a.erase else none
  | _ => none
def dp2 (f : PyData → PyData → Option OD) : List OD → Option OD
  | [a, b] => if a.noS && b.noS then f a.erase b.erase else none
  | _ => none
section
variable {X : Cx} {S : Sx}
theorem os_sh2 {r : R2} {f : PyData → PyData → Option OD} (h : ∀ F σ H env hs ho x y d e o Q, Rel X.K S F σ H env hs ho → Sh X.K F H x d → Sh X.K F H y e → f d e = some o → Cont X.K S F σ env hs ho o Q → r x y H Q) : OSpec X S (rr2 r) (sh2 f) := by
  intro F σ H env hs ho vs os o Q R rd e k
  cases rd with
  | nil => cases e
  | cons r1 rd =>
    cases rd with
    | nil => cases e
    | cons r2 rd =>
      cases rd with
      | cons r3 rd => cases e
      | nil =>
        rename_i x1 o1 fp1 x2 o2 fp2
        unfold sh2 at e
        cases h1 : (o1.shallow && o2.shallow) with
        | false => simp [h1] at e
        | true =>
          simp only [h1, if_true] at e
          rw [Bool.and_eq_true] at h1
          exact h F σ H env hs ho _ _ _ _ o Q R (r1.sh h1.1) (r2.sh h1.2) e k
theorem os_dp2 {r : R2} {f : PyData → PyData → Option OD} (h : ∀ F σ H env hs ho x y d e o Q, Rel X.K S F σ H env hs ho → Rp X.K H x d → Rp X.K H y e → f d e = some o → Cont X.K S F σ env hs ho o Q → r x y H Q) : OSpec X S (rr2 r) (dp2 f) := by
  intro F σ H env hs ho vs os o Q R rd e k
  cases rd with
  | nil => cases e
  | cons r1 rd =>
    cases rd with
    | nil => cases e
    | cons r2 rd =>
      cases rd with
      | cons r3 rd => cases e
      | nil =>
        rename_i x1 o1 fp1 x2 o2 fp2
        unfold dp2 at e
        cases h1 : (o1.noS && o2.noS) with
        | false => simp [h1] at e
        | true =>
          simp only [h1, if_true] at e
          rw [Bool.and_eq_true] at h1
          exact h F σ H env hs ho _ _ _ _ o Q R (r1.deep R.sub h1.1) (r2.deep R.sub h1.2) e k
theorem os_sh1 {r : V → Hp → VK → Prop} {f : PyData → Option OD} (h : ∀ F σ H env hs ho x d o Q, Rel X.K S F σ H env hs ho → Sh X.K F H x d → f d = some o → Cont X.K S F σ env hs ho o Q → r x H Q) : OSpec X S (rr1 r) (sh1 f) := by
  intro F σ H env hs ho vs os o Q R rd e k
  cases rd with
  | nil => cases e
  | cons r1 rd =>
    cases rd with
    | cons r2 rd => cases e
    | nil =>
      rename_i x1 o1 fp1
      unfold sh1 at e
      cases h1 : o1.shallow with
      | false => simp [h1] at e
      | true =>
        simp only [h1, if_true] at e
        exact h F σ H env hs ho _ _ o Q R (r1.sh h1) e k
theorem os_dp1 {r : V → Hp → VK → Prop} {f : PyData → Option OD} (h : ∀ F σ H env hs ho x d o Q, Rel X.K S F σ H env hs ho → Rp X.K H x d → f d = some o → Cont X.K S F σ env hs ho o Q → r x H Q) : OSpec X S (rr1 r) (dp1 f) := by
  intro F σ H env hs ho vs os o Q R rd e k
  cases rd with
  | nil => cases e
  | cons r1 rd =>
    cases rd with
    | cons r2 rd => cases e
    | nil =>
      rename_i x1 o1 fp1
      unfold dp1 at e
      cases h1 : o1.noS with
      | false => simp [h1] at e
      | true =>
        simp only [h1, if_true] at e
        exact h F σ H env hs ho _ _ o Q R (r1.deep R.sub h1) e k

/-! ### arithmetic -/
def gAdd : PyData → PyData → Option OD
  | .int i, .int j => some (.d (.int (i + j)))
  | .str x, .str y => if x.length + y.length ≤ sizeLine then some (.d (.str (x ++ y))) else none
  | .list xs, .list ys => if xs.length + ys.length ≤ sizeLine then some (.l ((xs ++ ys).map .d)) else none
  | .tuple xs, .tuple ys => if xs.length + ys.length ≤ sizeLine then some (.d (.tuple (xs ++ ys))) else none
  | _, _ => none
def rAddI : R2 := rI0 fun i j => .int (i + j)
def rAddS : R2 := fun x y H Q => ∃ i j, x = .str i ∧ y = .str j ∧ i.length + j.length ≤ sizeLine ∧ Q (.str (i ++ j)) H
def rAddAll (K : PySem.W.Frag) : R2 := fun x y H Q => rAddI x y H Q ∨ rAddS x y H Q ∨ rCat x y H Q ∨ rCatA K x y H Q
theorem op_addAll : OpR X (binaryOp .Add) (rAddAll X.K) := op_add.or (op_add_str.or (op_cat.or op_catA))
theorem str_app_len (x y : Str) : (x ++ y).length = x.length + y.length := by
  show (x.cps ++ y.cps).size = _
  rw [Array.size_append] <;> rfl
theorem os_add : OSpec X S (rr2 (rAddAll X.K)) (sh2 gAdd) := os_sh2 fun F σ H env hs ho x y d e o Q R h1 h2 hf k => by
  unfold gAdd at hf
  split at hf
  · cases hf
    rw [h1.int, h2.int]
    exact .inl ⟨_, _, rfl, rfl, fin_d R k (.int _ .nil)⟩
  · split at hf
    · rename_i hz
      cases hf
      obtain ⟨rfl, _⟩ := h1.str
      obtain ⟨rfl, _⟩ := h2.str
      exact .inr (.inl ⟨_, _, rfl, rfl, hz, fin_d R k (.str _ (by rw [str_app_len]; exact hz) .nil)⟩)
    · cases hf
  · split at hf
    · rename_i hz
      cases hf
      obtain ⟨a, ws, rfl, e1, e2⟩ := h1.list R.sub
      obtain ⟨b, us, rfl, e3, e4⟩ := h2.list R.sub
      exact .inr (.inr (.inl ⟨_, _, _, _, rfl, rfl, e1, e3, by rw [e2.len, e4.len]; exact hz, fun p hp => fin_l R k (e2.append e4) hp⟩))
    · cases hf
  · rename_i xs ys
    split at hf
    · rename_i hz
      cases hf
      obtain ⟨a, ws, rfl, e1, e1', e2⟩ := h1.tuple R.sub
      obtain ⟨b, us, rfl, e3, e3', e4⟩ := h2.tuple R.sub
      refine .inr (.inr (.inr ⟨_, _, _, _, rfl, rfl, e1, e3, by rw [e2.len, e4.len]; exact hz, fun z => ?_, fun z1 z2 => ?_, fun _ _ p hp => fin_t R k (e2.append e4) hp⟩))
      · subst z
        have z0 : xs = [] := List.eq_nil_of_length_eq_zero e2.len.symm
        subst z0
        exact fin_d R (by simpa using k) (.tup e3' e4 .nil)
      · subst z2
        have z0 : ys = [] := List.eq_nil_of_length_eq_zero e4.len.symm
        subst z0
        exact fin_d R (by simpa using k) (.tup e1' e2 .nil)
    · cases hf
  · cases hf
def gSub : PyData → PyData → Option OD
  | .int i, .int j => some (.d (.int (i - j)))
  | _, _ => none
theorem os_sub : OSpec X S (rr2 (rI0 fun i j => .int (i - j))) (sh2 gSub) := os_sh2 fun F σ H env hs ho x y d e o Q R h1 h2 hf k => by
  unfold gSub at hf
  split at hf
  · cases hf
    rw [h1.int, h2.int]
    exact ⟨_, _, rfl, rfl, fin_d R k (.int _ .nil)⟩
  · cases hf
end
end DL

set_option Elab.async false
set_option linter.all false
set_option autoImplicit false
set_option maxRecDepth 100000
/-! Operations on operands: more specs. -/
namespace DL
open PySem PySem.Spec PyProof.Rows L2
section
variable {X : Cx} {S : Sx}

def mulOk (i j : Int) : Bool := decide (i.natAbs < 2 ^ 64) || decide (j.natAbs < 2 ^ 64) || decide (i.natAbs.log2 + j.natAbs.log2 < 1000000)
/-- a text so many times -/
def strRep (x : Str) (n : Int) : Str := if n < 1 then Str.empty else if (n == 1 || x.length == 0) = true then x else ⟨(List.replicate n.toNat x.cps).foldl (· ++ ·) #[]⟩
def gMul : PyData → PyData → Option OD
  | .int i, .int j => if mulOk i j then some (.d (.int (i * j))) else none
  | .str x, .int n => if x.length * n.toNat ≤ 1000000 ∧ n ≤ 1000000 ∧ -1000000 ≤ n ∧ (strRep x n).length ≤ sizeLine then some (.d (.str (strRep x n))) else none
  | .list xs, .int n => if xs.length * n.toNat ≤ sizeLine ∧ n ≤ 1000000 ∧ -1000000 ≤ n then some (.l ((List.replicate n.toNat xs).flatten.map .d)) else none
  | .tuple xs, .int n => if xs.length ≤ 1000 ∧ n ≤ 1000 ∧ 2 ≤ n ∧ 1 ≤ xs.length then some (.d (.tuple (List.replicate n.toNat xs).flatten)) else none
  | _, _ => none
theorem op_mulS : OpR X (binaryOp .Mult) (fun x y H Q => ∃ z n, x = .str z ∧ y = .int n ∧ z.length * n.toNat ≤ 1000000 ∧ n ≤ 1000000 ∧ -1000000 ≤ n ∧ (strRep z n).length ≤ sizeLine ∧ Q (.str (strRep z n)) H) := by
  intro pins s σ H x y v u Q I rx ry h
  obtain ⟨z, n, rfl, rfl, h1, h2, h3, h4, q⟩ := h
  obtain ⟨t, rfl⟩ := rx
  obtain ⟨t', rfl⟩ := ry
  refine PySem.P.mul_str (by rw [decide_eq_false (by omega), decide_eq_false (by omega)]; rfl) (fun a b => ?_) (fun a b => ?_) ?_
  · intro c
    have hn : (0 : Int) < n := by omega
    have : (2 ^ 63 - 1 : Int) / n < (z.length : Int) := c
    have e := (Int.ediv_lt_iff_lt_mul hn).mp this
    have e2 : (z.length : Int) * n = ((z.length * n.toNat : Nat) : Int) := by
      rw [Int.natCast_mul, Int.toNat_of_nonneg (by omega)]
    omega
  · show Builtin.Str.tooLong (z.length * n.toNat) = false
    unfold Builtin.Str.tooLong
    rw [sizeLine_eq]
    exact decide_eq_false (by omega)
  · unfold strRep at q h4
    split
    · rename_i c
      rw [if_pos c] at q h4
      exact ⟨h4, .str _, H, I.tok _, ⟨_, rfl⟩, q⟩
    · rename_i c
      rw [if_neg c] at q h4
      split
      · rename_i c2
        rw [if_pos c2] at q h4
        exact ⟨.str _, H, I, ⟨_, rfl⟩, q⟩
      · rename_i c2
        rw [if_neg c2] at q h4
        exact ⟨h4, .str _, H, I.tok _, ⟨_, rfl⟩, q⟩
theorem Reps.flat {K : PySem.W.Frag} {F : Hp} {ws : List V} {xs : List PyData} (h : Reps K F ws xs) : ∀ n : Nat, Reps K F (List.replicate n ws).flatten (List.replicate n xs).flatten
  | 0 => .nil
  | n + 1 => by
    rw [List.replicate_succ, List.replicate_succ, List.flatten_cons, List.flatten_cons]
    exact h.append (Reps.flat h n)
def rMulAll (K : PySem.W.Frag) : R2 := fun x y H Q => (rI CMul fun i j => .int (i * j)) x y H Q ∨ (rI CMulW fun i j => .int (i * j)) x y H Q ∨
  (∃ z n, x = .str z ∧ y = .int n ∧ z.length * n.toNat ≤ 1000000 ∧ n ≤ 1000000 ∧ -1000000 ≤ n ∧ (strRep z n).length ≤ sizeLine ∧ Q (.str (strRep z n)) H) ∨ rRep x y H Q ∨ rRepT K x y H Q
theorem op_mulAll : OpR X (binaryOp .Mult) (rMulAll X.K) := op_mul.or (op_mulW.or (op_mulS.or (op_rep.or op_repT)))
theorem os_mul : OSpec X S (rr2 (rMulAll X.K)) (sh2 gMul) := os_sh2 fun F σ H env hs ho x y d e o Q R h1 h2 hf k => by
  unfold gMul at hf
  split at hf
  · rename_i i j
    split at hf
    · rename_i hm
      cases hf
      rw [h1.int, h2.int]
      have q := fin_d (H := H) R k (v := .int (i * j)) (.int _ .nil)
      unfold mulOk at hm
      simp only [Bool.or_eq_true, decide_eq_true_eq] at hm
      rcases hm with (hm | hm) | hm
      · exact .inl ⟨_, _, rfl, rfl, .inl ⟨by omega, by omega⟩, q⟩
      · exact .inl ⟨_, _, rfl, rfl, .inr ⟨by omega, by omega⟩, q⟩
      · exact .inr (.inl ⟨_, _, rfl, rfl, hm, q⟩)
    · cases hf
  · split at hf
    · rename_i hm
      cases hf
      obtain ⟨a1, a2, a3, a4⟩ := hm
      rw [h1.str.1, h2.int]
      exact .inr (.inr (.inl ⟨_, _, rfl, rfl, a1, a2, a3, a4, fin_d R k (.str _ a4 .nil)⟩))
    · cases hf
  · split at hf
    · rename_i hm
      cases hf
      obtain ⟨a1, a2, a3⟩ := hm
      obtain ⟨a, ws, rfl, e1, e2⟩ := h1.list R.sub
      rw [h2.int]
      exact .inr (.inr (.inr (.inl ⟨_, _, _, rfl, rfl, e1, by omega, by omega, by rw [e2.len]; exact a1, fun p hp => fin_l R k (e2.flat _) hp⟩)))
    · cases hf
  · split at hf
    · rename_i hm
      cases hf
      obtain ⟨a1, a2, a3, a4⟩ := hm
      obtain ⟨a, ws, rfl, e1, e1', e2⟩ := h1.tuple R.sub
      rw [h2.int]
      have hl := e2.len
      exact .inr (.inr (.inr (.inr ⟨_, _, _, rfl, rfl, e1, fun z => by rw [z] at hl; simp at hl; omega, by omega, by omega, by omega, fun p hp => fin_t R k (e2.flat _) hp⟩)))
    · cases hf
  · cases hf
def gMod : PyData → PyData → Option OD
  | .int i, .int j => if 0 < j then some (.d (.int (i % j))) else none
  | _, _ => none
theorem os_mod : OSpec X S (rr2 (rI (fun _ j => 0 < j) fun i j => .int (i % j))) (sh2 gMod) := os_sh2 fun F σ H env hs ho x y d e o Q R h1 h2 hf k => by
  unfold gMod at hf
  split at hf
  · split at hf
    · rename_i hm
      cases hf
      rw [h1.int, h2.int]
      exact ⟨_, _, rfl, rfl, hm, fin_d R k (.int _ .nil)⟩
    · cases hf
  · cases hf
def gFdiv : PyData → PyData → Option OD
  | .int i, .int j => if 0 < j ∧ j.natAbs.log2 < 9000 then some (.d (.int (i / j))) else none
  | _, _ => none
theorem os_fdiv : OSpec X S (rr2 (rI CDivW fun i j => .int (i / j))) (sh2 gFdiv) := os_sh2 fun F σ H env hs ho x y d e o Q R h1 h2 hf k => by
  unfold gFdiv at hf
  split at hf
  · split at hf
    · rename_i hm
      cases hf
      rw [h1.int, h2.int]
      exact ⟨_, _, rfl, rfl, hm, fin_d R k (.int _ .nil)⟩
    · cases hf
  · cases hf
def gPow : PyData → PyData → Option OD
  | .int i, .int j => if 0 ≤ j ∧ j ≤ 100 ∧ i.natAbs < 2 ^ 1000 then some (.d (.int (i ^ j.toNat))) else none
  | _, _ => none
def CPowW (i j : Int) : Prop := 0 ≤ j ∧ j ≤ 100 ∧ i.natAbs < 2 ^ 1000
theorem op_powW : OpR X (binaryOp .Pow) (rI CPowW fun i j => .int (i ^ j.toNat)) := opI fun i j _ _ _ _ _ hc q => by
  obtain ⟨h1, h2, h3⟩ := hc
  refine pow_int h1 ?_ q
  have hb : Builtin.Int.intBits i ≤ 1000 := by
    unfold Builtin.Int.intBits
    split
    · omega
    · rename_i hz
      have hn : i.natAbs ≠ 0 := fun z => hz (by simp [Int.natAbs_eq_zero.mp z])
      have := (Nat.log2_lt hn).mpr h3
      omega
  have h4 : ((Builtin.Int.intBits i : Nat) : Int) * j ≤ 1000 * 100 := Int.mul_le_mul (by omega) h2 h1 (by omega)
  exact Int.le_trans h4 (by decide)
theorem os_pow : OSpec X S (rr2 (rI CPowW fun i j => .int (i ^ j.toNat))) (sh2 gPow) := os_sh2 fun F σ H env hs ho x y d e o Q R h1 h2 hf k => by
  unfold gPow at hf
  split at hf
  · split at hf
    · rename_i hm
      cases hf
      rw [h1.int, h2.int]
      exact ⟨_, _, rfl, rfl, hm, fin_d R k (.int _ .nil)⟩
    · cases hf
  · cases hf

/-! ### comparisons -/
def fewDeep (d e : PyData) : Bool := d.plain && e.plain && decide (min d.depth e.depth ≤ 64)
theorem rp_reads (O : Ok1 X) {pins : List (Addr × Obj)} {σ : L2.St} {H : Hp} {s : Shared} (I : Inv X pins σ H s) {v : V} {u : Value} {d : PyData} (h : Rp X.K H v d) (r : RelV v u) : ∃ as, Reads s.heap u d as ∧ sysModules ∉ as := by
  obtain ⟨as, q, n⟩ := Reps.reads O.sysm I h [u] (.cons r .nil)
  cases q with
  | cons q1 q2 =>
    cases q2
    exact ⟨_, q1, by simpa using n⟩
/-- two lists of different lengths: nothing inside is looked at -/
def lenOff : PyData → PyData → Bool
  | .list xs, .list ys => xs.length != ys.length
  | _, _ => false
theorem lenOff_eqv {d e : PyData} (h : lenOff d e = true) : PyData.eqv d e = false := by
  unfold lenOff at h
  split at h
  · exact SeqAt.eqvAll_other_length (by simpa using h)
  · cases h
theorem rcAt_off {A : Around} {s : Shared} {u v : Value} {d e : PyData} {as bs : List Addr} (h : lenOff d e = true) (r1 : Reads s.heap u d as) (r2 : Reads s.heap v e bs) (hu : A.units < cLine) : SeqAt.RcAt A s u v false ∧ SeqAt.RcNeAt A s u v true := by
  unfold lenOff at h
  split at h
  · rename_i xs ys
    cases r1 with
    | list h1 h2 h3 h4 =>
      cases r2 with
      | list k1 k2 k3 k4 =>
        have n1 := SeqAt.ReadsAll.length _ _ _ h4
        have n2 := SeqAt.ReadsAll.length _ _ _ k4
        rw [Array.length_toList] at n1 n2
        rw [← n1, ← n2] at h
        exact ⟨SeqAt.RcAt.lists_lengths ⟨_, h1, h2, _, h3⟩ ⟨_, k1, k2, _, k3⟩ h hu, SeqAt.RcNeAt.lists_lengths ⟨_, h1, h2, _, h3⟩ ⟨_, k1, k2, _, k3⟩ h hu⟩
  · cases h
def eqFit (d e : PyData) : Bool := fewDeep d e || lenOff d e
def rEqP (K : PySem.W.Frag) (neg : Bool) : R2 := fun x y H Q => ∃ d e, Rp K H x d ∧ Rp K H y e ∧ eqFit d e = true ∧ Q (.bl (if neg then !PyData.eqv d e else PyData.eqv d e)) H
theorem op_eqP (O : Ok1 X) : OpR X (compareOp .Eq) (rEqP X.K false) := by
  intro pins s σ H x y v u Q I rx ry h
  obtain ⟨d, e, hd, he, hf, q⟩ := h
  obtain ⟨as, r1, _⟩ := rp_reads O I hd rx
  obtain ⟨bs, r2, _⟩ := rp_reads O I he ry
  rcases Bool.or_eq_true_iff.mp hf with hf | hf
  · unfold fewDeep at hf
    simp only [Bool.and_eq_true, decide_eq_true_eq] at hf
    obtain ⟨⟨h1, h2⟩, h3⟩ := hf
    exact SeqAt.eq_plain r1 r2 h1 h2 (by have := O.un; omega) ⟨.bl _, H, I, rfl, q⟩
  · have e0 := lenOff_eqv hf
    rw [e0] at q
    exact (rcAt_off hf r1 r2 (by have := O.un; omega)).1 _ _ _ _ ⟨.bl _, H, I, rfl, q⟩
theorem op_neP (O : Ok1 X) : OpR X (compareOp .NotEq) (rEqP X.K true) := by
  intro pins s σ H x y v u Q I rx ry h
  obtain ⟨d, e, hd, he, hf, q⟩ := h
  obtain ⟨as, r1, _⟩ := rp_reads O I hd rx
  obtain ⟨bs, r2, _⟩ := rp_reads O I he ry
  rcases Bool.or_eq_true_iff.mp hf with hf | hf
  · unfold fewDeep at hf
    simp only [Bool.and_eq_true, decide_eq_true_eq] at hf
    obtain ⟨⟨h1, h2⟩, h3⟩ := hf
    exact SeqAt.ne_plain r1 r2 h1 h2 (by have := O.un; omega) ⟨.bl _, H, I, rfl, q⟩
  · have e0 := lenOff_eqv hf
    rw [e0] at q
    exact (rcAt_off hf r1 r2 (by have := O.un; omega)).2 _ _ _ _ ⟨.bl _, H, I, rfl, q⟩
def gEq (d e : PyData) : Option OD := if eqFit d e then some (.d (.bool (PyData.eqv d e))) else none
def gNe (d e : PyData) : Option OD := if eqFit d e then some (.d (.bool (!PyData.eqv d e))) else none
theorem os_eq : OSpec X S (rr2 (rEqP X.K false)) (dp2 gEq) := os_dp2 fun F σ H env hs ho x y d e o Q R h1 h2 hf k => by
  unfold gEq at hf
  split at hf
  · rename_i hm
    cases hf
    exact ⟨_, _, h1, h2, hm, fin_d R k (.bl _ .nil)⟩
  · cases hf
theorem os_ne : OSpec X S (rr2 (rEqP X.K true)) (dp2 gNe) := os_dp2 fun F σ H env hs ho x y d e o Q R h1 h2 hf k => by
  unfold gNe at hf
  split at hf
  · rename_i hm
    cases hf
    exact ⟨_, _, h1, h2, hm, fin_d R k (.bl _ .nil)⟩
  · cases hf
/-- the order of ints, of texts -/
def gOrd (p : Int → Int → Bool) (q : Str → Str → Bool) : PyData → PyData → Option OD
  | .int i, .int j => some (.d (.bool (p i j)))
  | .str i, .str j => some (.d (.bool (q i j)))
  | _, _ => none
def strLt (x y : Str) : Bool := decide (x.cps.toList < y.cps.toList)
def gLt := gOrd (fun i j => decide (i < j)) strLt
def gLe := gOrd (fun i j => decide (i ≤ j)) fun x y => !strLt y x
def gGt := gOrd (fun i j => decide (j < i)) fun x y => strLt y x
def gGe := gOrd (fun i j => decide (j ≤ i)) fun x y => !strLt x y
def rOrd (p : Int → Int → Bool) (q : Str → Str → Bool) : R2 := fun x y H Q => (rI0 fun i j => .bl (p i j)) x y H Q ∨ (∃ i j, x = .str i ∧ y = .str j ∧ Q (.bl (q i j)) H)
theorem os_ord (p : Int → Int → Bool) (q : Str → Str → Bool) : OSpec X S (rr2 (rOrd p q)) (sh2 (gOrd p q)) := os_sh2 fun F σ H env hs ho x y d e o Q R h1 h2 hf k => by
  unfold gOrd at hf
  split at hf
  · cases hf
    rw [h1.int, h2.int]
    exact .inl ⟨_, _, rfl, rfl, fin_d R k (.bl _ .nil)⟩
  · cases hf
    rw [h1.str.1, h2.str.1]
    exact .inr ⟨_, _, rfl, rfl, fin_d R k (.bl _ .nil)⟩
  · cases hf
theorem op_ltA : OpR X (compareOp .Lt) (rOrd (fun i j => decide (i < j)) strLt) := op_lt.or op_lt_str
theorem op_leA : OpR X (compareOp .LtE) (rOrd (fun i j => decide (i ≤ j)) fun x y => !strLt y x) := op_le.or op_le_str
theorem op_gtA : OpR X (compareOp .Gt) (rOrd (fun i j => decide (j < i)) fun x y => strLt y x) := op_gt.or op_gt_str
theorem op_geA : OpR X (compareOp .GtE) (rOrd (fun i j => decide (j ≤ i)) fun x y => !strLt x y) := op_ge.or op_ge_str
/-- in, not in -/
def strIn (x y : Str) : Bool := !(Builtin.Str.occurrences y x 0 y.length 1).isEmpty
def keyOf? : PyData → Option Key
  | .int i => some (.inl i)
  | .str x => some (.inr x)
  | _ => none
def gInB (neg : Bool) (d e : PyData) : Option OD := match e with
  | .str y => match d with
    | .str x => some (.d (.bool (if neg then !strIn x y else strIn x y)))
    | _ => none
  | .list ys => if PyData.plainAll ys && d.plain && decide (min (PyData.depthAll ys) d.depth ≤ 60) then some (.d (.bool (if neg then !ys.any (fun y => PyData.eqv y d) else ys.any fun y => PyData.eqv y d))) else none
  | .tuple ys => if PyData.plainAll ys && d.plain && decide (min (PyData.depthAll ys) d.depth ≤ 60) then some (.d (.bool (if neg then !ys.any (fun y => PyData.eqv y d) else ys.any fun y => PyData.eqv y d))) else none
  | _ => none
def rInP (K : PySem.W.Frag) (neg : Bool) : R2 := fun x y H Q => (∃ i j, x = .str i ∧ y = .str j ∧ Q (.bl (if neg then !strIn i j else strIn i j)) H) ∨
  ∃ d ys, Rp K H x d ∧ (Rp K H y (.list ys) ∨ Rp K H y (.tuple ys)) ∧ PyData.plainAll ys = true ∧ d.plain = true ∧ min (PyData.depthAll ys) d.depth ≤ 60 ∧ Q (.bl (if neg then !ys.any (fun y => PyData.eqv y d) else ys.any fun y => PyData.eqv y d)) H
theorem op_inP (O : Ok1 X) : OpR X (compareOp .In) (rInP X.K false) := by
  intro pins s σ H x y v u Q I rx ry h
  rcases h with h | ⟨d, ys, hd, hy, h1, h2, h3, q⟩
  · exact op_in_str pins s σ H x y v u Q I rx ry h
  · obtain ⟨as, r1, _⟩ := rp_reads O I hd rx
    rcases hy with hy | hy
    · obtain ⟨bs, r2, _⟩ := rp_reads O I hy ry
      exact SeqAt.in_list_data r2 r1 h1 h2 (by have := O.un; omega) ⟨.bl _, H, I, rfl, q⟩
    · obtain ⟨bs, r2, _⟩ := rp_reads O I hy ry
      exact SeqAt.in_tuple_data r2 r1 h1 h2 (by have := O.un; omega) ⟨.bl _, H, I, rfl, q⟩
theorem op_notInP (O : Ok1 X) : OpR X (compareOp .NotIn) (rInP X.K true) := by
  intro pins s σ H x y v u Q I rx ry h
  rcases h with h | ⟨d, ys, hd, hy, h1, h2, h3, q⟩
  · exact op_notin_str pins s σ H x y v u Q I rx ry h
  · obtain ⟨as, r1, _⟩ := rp_reads O I hd rx
    rcases hy with hy | hy
    · obtain ⟨bs, r2, _⟩ := rp_reads O I hy ry
      exact SeqAt.notIn_list_data r2 r1 h1 h2 (by have := O.un; omega) ⟨.bl _, H, I, rfl, q⟩
    · obtain ⟨bs, r2, _⟩ := rp_reads O I hy ry
      exact SeqAt.notIn_tuple_data r2 r1 h1 h2 (by have := O.un; omega) ⟨.bl _, H, I, rfl, q⟩
theorem os_in (neg : Bool) : OSpec X S (rr2 (rInP X.K neg)) (dp2 (gInB neg)) := os_dp2 fun F σ H env hs ho x y d e o Q R h1 h2 hf k => by
  unfold gInB at hf
  split at hf
  · split at hf
    · cases hf
      rw [(Rp.str_inv h1).1, (Rp.str_inv h2).1]
      exact .inl ⟨_, _, rfl, rfl, fin_d R k (.bl _ .nil)⟩
    · cases hf
  · split at hf
    · rename_i hm
      cases hf
      simp only [Bool.and_eq_true, decide_eq_true_eq] at hm
      obtain ⟨⟨a1, a2⟩, a3⟩ := hm
      exact .inr ⟨_, _, h1, .inl h2, a1, a2, a3, fin_d R k (.bl _ .nil)⟩
    · cases hf
  · split at hf
    · rename_i hm
      cases hf
      simp only [Bool.and_eq_true, decide_eq_true_eq] at hm
      obtain ⟨⟨a1, a2⟩, a3⟩ := hm
      exact .inr ⟨_, _, h1, .inr h2, a1, a2, a3, fin_d R k (.bl _ .nil)⟩
    · cases hf
  · cases hf
end
end DL

set_option Elab.async false
set_option linter.all false
set_option autoImplicit false
set_option maxRecDepth 100000
/-! Expressions: the rules. -/
namespace DL
open PySem PySem.Spec PyProof.Rows L2
section
variable {X : Cx} {S : Sx} {W : WX} {a b c : Expr} {qa qb qc : Opd} {pos : Pos}

/-- the end of a pure operation -/
theorem prim_fin {F F' H' : Hp} {σ : L2.St} {env' : DEnv} {hs hvs : List V} {ho hos : List OD} {hes : List HE} {vs : List V} {r : List V → Hp → VK → Prop} {g : List OD → Option OD} {Q : VK} (sp : OSpec X S r g)
    (hl : hs.length = ho.length) (s : Same F F') (mt : Mt σ hes vs hvs hos) (R : Rel X.K S F' σ H' env' (hs ++ hvs) (ho ++ hos))
    (h : Mwp ((match rds env' hes with
      | none => none
      | some os => match g os with
        | none => none
        | some o => some (Rs.ok o, env') : Option (Rs OD × DEnv))) (fun o env' => ∀ F' H' v, Same F F' → Rel X.K S F' σ H' env' (hs ++ [v]) (ho ++ [o]) → Q v H') (QX X S W F σ hs ho)) : r vs H' Q := by
  cases e : rds env' hes with
  | none => rw [e] at h; exact h.elim
  | some os =>
    rw [e] at h
    simp only at h
    cases e2 : g os with
    | none => rw [e2] at h; exact h.elim
    | some o =>
      rw [e2] at h
      exact sp F' σ H' env' hs ho vs os o Q (R.drop hl) (mt.rdb R hl e) e2 fun F2 H2 v s2 R2 => h F2 H2 v (s.trans s2) R2
theorem de_op2 {op : Operator} {r : R2} {g : List OD → Option OD} (ho : OpR X (binaryOp op) r) (sp : OSpec X S (rr2 r) g) (h1 : DO X S W a qa) (h2 : DO X S W b qb) : DE X S W (.BinOp a op b pos) (prim g [qa, qb]) := by
  intro F σ H env hs hos Q R h
  refine WE.of (pe_op ho (pe_we X a) (pe_we X b)) (DA2 h1 h2 R ((Mwp.bind h).imp (fun hes env' _ k F' H' x y hvs hos' s mt R' => ?_) fun _ _ _ x => x))
  exact prim_fin sp R.hlen s mt R' k
theorem de_cmp {op : CmpOp} {r : R2} {g : List OD → Option OD} (ho : OpR X (compareOp op) r) (sp : OSpec X S (rr2 r) g) (h1 : DO X S W a qa) (h2 : DO X S W b qb) (hm : behindInMarks op b = false := by rfl) : DE X S W (.Compare a [op] [b] pos) (prim g [qa, qb]) := by
  intro F σ H env hs hos Q R h
  refine WE.of (pe_cmpR ho (pe_we X a) (pe_we X b) hm) (DA2 h1 h2 R ((Mwp.bind h).imp (fun hes env' _ k F' H' x y hvs hos' s mt R' => ?_) fun _ _ _ x => x))
  exact prim_fin sp R.hlen s mt R' k
theorem de_ix {r : R2} {g : List OD → Option OD} (ho : IxR X r) (sp : OSpec X S (rr2 r) g) (h1 : DO X S W a qa) (h2 : DO X S W b qb) (hp : PlainIx b := by intro _ _; rfl) : DE X S W (.Subscript a b pos) (prim g [qa, qb]) := by
  intro F σ H env hs hos Q R h
  refine WE.of (pe_ix ho (pe_we X a) (pe_we X b) hp) (DA2 h1 h2 R ((Mwp.bind h).imp (fun hes env' _ k F' H' x y hvs hos' s mt R' => ?_) fun _ _ _ x => x))
  exact prim_fin sp R.hlen s mt R' k
theorem de_callB {x : Str} {id : String} {p : Pos} {e : Expr} {es : List Expr} {qs : List Opd} {r : List V → Hp → VK → Prop} {g : List OD → Option OD} (hc : CallR X (.builtin id) r) (sp : OSpec X S r g) (ha : DAs X S W (e :: es) qs)
    (hm : X.mg x = none) (hv : bootBuiltins x = some (.builtin id)) (hg : Gl X x := by rfl) (hn : x ≠ "__name__" := by decide) (hdb : (x == ("__debug__" : Str)) = false := by decide)
    (he : starEach (e :: es) X.env = (false, eval e X.env) :: starEach es X.env := by rfl) (hpl : (backTo pos (starEach es X.env)).any (·.1) = false := by rfl) : DE X S W (.Call (.Name x p) (e :: es) [] pos) (prim g qs) := by
  intro F σ H env hs hos Q R h
  refine WE.of (pe_callB hc hg hm hv (pa_wa X _) hn hdb he hpl) (ha.run F σ H env hs hos _ R ((Mwp.bind h).imp (fun hes env' _ k F' H' vs hvs hos' s mt R' => ?_) fun _ _ _ x => x))
  exact prim_fin sp R.hlen s mt R' k
theorem de_callTy {x : Str} {T : String} {p : Pos} {e : Expr} {es : List Expr} {qs : List Opd} {r : List V → Hp → VK → Prop} {g : List OD → Option OD} (hc : CallR X (.type T) r) (sp : OSpec X S r g) (ha : DAs X S W (e :: es) qs)
    (hm : X.mg x = none) (hv : bootBuiltins x = some (.type T)) (hg : Gl X x := by rfl) (hn : x ≠ "__name__" := by decide) (hdb : (x == ("__debug__" : Str)) = false := by decide)
    (he : starEach (e :: es) X.env = (false, eval e X.env) :: starEach es X.env := by rfl) (hpl : (backTo pos (starEach es X.env)).any (·.1) = false := by rfl) : DE X S W (.Call (.Name x p) (e :: es) [] pos) (prim g qs) := by
  intro F σ H env hs hos Q R h
  refine WE.of (pe_callTy hc hg hm hv (pa_wa X _) hn hdb he hpl) (ha.run F σ H env hs hos _ R ((Mwp.bind h).imp (fun hes env' _ k F' H' vs hvs hos' s mt R' => ?_) fun _ _ _ x => x))
  exact prim_fin sp R.hlen s mt R' k
/-- one operand -/
theorem de_un {op : UnaryOp} {r : V → Hp → VK → Prop} {g : List OD → Option OD} (ho : UnR X (unaryOp op) r) (sp : OSpec X S (rr1 r) g) (h1 : DO X S W a qa) : DE X S W (.UnaryOp op a pos) (prim g [qa]) := by
  intro F σ H env hs hos Q R h
  refine WE.of (pe_un ho (pe_we X a)) (DA1 h1 R ((Mwp.bind h).imp (fun hes env' _ k F' H' x hvs hos' s mt R' => ?_) fun _ _ _ x => x))
  exact prim_fin (r := rr1 r) sp R.hlen s mt R' k
def gNeg : PyData → Option OD
  | .int i => some (.d (.int (-i)))
  | _ => none
theorem os_neg : OSpec X S (rr1 (rU fun i => .int (-i))) (sh1 gNeg) := os_sh1 fun F σ H env hs ho x d o Q R h1 hf k => by
  unfold gNeg at hf
  split at hf
  · cases hf
    rw [h1.int]
    exact ⟨_, rfl, fin_d R k (.int _ .nil)⟩
  · cases hf
/-- is None, is not None -/
def gIsN (neg : Bool) (d : PyData) : Option OD := some (.d (.bool (match d with
  | .none => !neg
  | _ => neg)))
theorem rp_non {K : PySem.W.Frag} {F : Hp} {v : V} {d : PyData} (h : Rp K F v d) : decide (v = V.non) = (match d with
  | .none => true
  | _ => false) := by
  cases h <;> simp
theorem de_isN {j : Nat} {pc : Pos} (h1 : DO X S W a qa) : DE X S W (.Compare a [.Is] [.Constant .none j pc] pos) (prim (dp1 (gIsN false)) [qa]) := by
  intro F σ H env hs hos Q R h
  refine WE.of (pe_cmp (pc_isN (pe_we X a)) rfl) (DA1 h1 R ((Mwp.bind h).imp (fun hes env' _ k F' H' x hvs hos' s mt R' => ?_) fun _ _ _ x => x))
  refine prim_fin (r := rr1 fun x H Q => Q (.bl (decide (x = .non))) H) (os_dp1 fun F σ H env hs ho x d o Q R h1 hf k => ?_) R.hlen s mt R' k
  cases hf
  show Q (.bl (decide (x = .non))) H
  rw [rp_non h1]
  refine fin_d R k ?_
  cases d <;> exact .bl _ .nil
theorem de_notN {j : Nat} {pc : Pos} (h1 : DO X S W a qa) : DE X S W (.Compare a [.IsNot] [.Constant .none j pc] pos) (prim (dp1 (gIsN true)) [qa]) := by
  intro F σ H env hs hos Q R h
  refine WE.of (pe_cmp (pc_notN (pe_we X a)) rfl) (DA1 h1 R ((Mwp.bind h).imp (fun hes env' _ k F' H' x hvs hos' s mt R' => ?_) fun _ _ _ x => x))
  refine prim_fin (r := rr1 fun x H Q => Q (.bl (!decide (x = .non))) H) (os_dp1 fun F σ H env hs ho x d o Q R h1 hf k => ?_) R.hlen s mt R' k
  cases hf
  show Q (.bl (!decide (x = .non))) H
  rw [rp_non h1]
  refine fin_d R k ?_
  cases d <;> exact .bl _ .nil

/-! ### tests, and, or, not, if -/
/-- a truth value -/
def boolOf (o : OD) : Option Bool := match o with
  | .d (.bool b) => some b
  | _ => none
def mTest (m : M OD) : M Bool := M.bind m fun o => M.of (boolOf o)
def DT (X : Cx) (S : Sx) (W : WX) (e : Expr) (m : M Bool) : Prop :=
  ∀ (F : Hp) (σ : L2.St) (H : Hp) (env : DEnv) (hs : List V) (ho : List OD) (Q : Bool → Hp → Prop), Rel X.K S F σ H env hs ho →
    Mwp (m env) (fun b env' => ∀ F' H', Same F F' → Rel X.K S F' σ H' env' hs ho → Q b H') (QX X S W F σ hs ho) → WT X e σ H Q
theorem bool_held {K : PySem.W.Frag} {F H : Hp} {σ : L2.St} {env : DEnv} {hs : List V} {ho : List OD} {v : V} {b : Bool} (R : Rel K S F σ H env (hs ++ [v]) (ho ++ [.d (.bool b)])) (hl : hs.length = ho.length) : v = .bl b := by
  obtain ⟨fp, r⟩ := R.heldReps hl
  exact Rp.bool_inv (ORp.d_inv r).2
theorem dt_val {e : Expr} {m : M OD} (h : DE X S W e m) (he : ∀ whole, isTrue e X.env whole = (do let v ← whole; standAt e.pos; holding [v] (truthy v)) := by intro _; rfl) : DT X S W e (mTest m) := by
  intro F σ H env hs ho Q R hq
  refine WT.of (pt_val (pe_we X e) he) (h F σ H env hs ho _ R ((Mwp.bind hq).imp (fun o env' _ k F' H' v s R' => ?_) fun _ _ _ x => x))
  cases o with
  | d x =>
    cases x with
    | bool b =>
      have e := bool_held R' R.hlen
      subst e
      exact ⟨b, rfl, k F' H' s (R'.drop R.hlen)⟩
    | _ => exact k.elim
  | _ => exact k.elim
theorem dt_cmp {op : CmpOp} {r : R2} {g : List OD → Option OD} (ho : OpR X (compareOp op) r) (sp : OSpec X S (rr2 r) g) (h1 : DO X S W a qa) (h2 : DO X S W b qb) (hm : behindInMarks op b = false := by rfl) : DT X S W (.Compare a [op] [b] pos) (mTest (prim g [qa, qb])) := by
  intro F σ H env hs hos Q R hq
  refine WT.of (pt_cmpR ho (pe_we X a) (pe_we X b) hm) (DA2 h1 h2 R ((Mwp.bind (Mwp.bind hq)).imp (fun hes env' _ k F' H' x y hvs hos' s mt R' => ?_) fun _ _ _ x => x))
  refine prim_fin (r := rr2 r) (W := W) sp R.hlen s mt R' (F := F) (Q := fun x H2 => ∃ k, x = .bl k ∧ Q k H2) (k.imp (fun o e2 _ k2 F2 H2 v s2 R2 => ?_) fun _ _ _ x => x)
  cases o with
  | d x =>
    cases x with
    | bool b =>
      have e := bool_held R2 R.hlen
      subst e
      exact ⟨b, rfl, k2 F2 H2 s2 (R2.drop R.hlen)⟩
    | _ => exact k2.elim
  | _ => exact k2.elim
theorem dt_isN {j : Nat} {pc : Pos} (h1 : DO X S W a qa) : DT X S W (.Compare a [.Is] [.Constant .none j pc] pos) (mTest (prim (dp1 (gIsN false)) [qa])) := by
  intro F σ H env hs hos Q R hq
  refine WT.of (pt_cmp (pc_isN (pe_we X a)) rfl) (DA1 h1 R ((Mwp.bind (Mwp.bind hq)).imp (fun hes env' _ k F' H' x hvs hos' s mt R' => ?_) fun _ _ _ x => x))
  refine ⟨_, rfl, prim_fin (W := W) (F := F) (r := rr1 fun x H Q => Q (.bl (decide (x = .non))) H) (Q := fun v H2 => ∀ b, v = .bl b → Q b H2) (os_dp1 fun F σ H env hs ho x d o Q R h1 hf k => ?_) R.hlen s mt R' (k.imp (fun o e2 _ k2 F2 H2 v s2 R2 => ?_) fun _ _ _ x => x) _ rfl⟩
  · cases hf
    show Q (.bl (decide (x = .non))) H
    rw [rp_non h1]
    refine fin_d R k ?_
    cases d <;> exact .bl _ .nil
  · intro b hb
    subst hb
    cases o with
    | d x =>
      cases x with
      | bool b' =>
        have e := bool_held R2 R.hlen
        cases e
        exact k2 F2 H2 s2 (R2.drop R.hlen)
      | _ => exact k2.elim
    | _ => exact k2.elim
theorem dt_notN {j : Nat} {pc : Pos} (h1 : DO X S W a qa) : DT X S W (.Compare a [.IsNot] [.Constant .none j pc] pos) (mTest (prim (dp1 (gIsN true)) [qa])) := by
  intro F σ H env hs hos Q R hq
  refine WT.of (pt_cmp (pc_notN (pe_we X a)) rfl) (DA1 h1 R ((Mwp.bind (Mwp.bind hq)).imp (fun hes env' _ k F' H' x hvs hos' s mt R' => ?_) fun _ _ _ x => x))
  refine ⟨_, rfl, prim_fin (W := W) (F := F) (r := rr1 fun x H Q => Q (.bl (!decide (x = .non))) H) (Q := fun v H2 => ∀ b, v = .bl b → Q b H2) (os_dp1 fun F σ H env hs ho x d o Q R h1 hf k => ?_) R.hlen s mt R' (k.imp (fun o e2 _ k2 F2 H2 v s2 R2 => ?_) fun _ _ _ x => x) _ rfl⟩
  · cases hf
    show Q (.bl (!decide (x = .non))) H
    rw [rp_non h1]
    refine fin_d R k ?_
    cases d <;> exact .bl _ .nil
  · intro b hb
    subst hb
    cases o with
    | d x =>
      cases x with
      | bool b' =>
        have e := bool_held R2 R.hlen
        cases e
        exact k2 F2 H2 s2 (R2.drop R.hlen)
      | _ => exact k2.elim
    | _ => exact k2.elim
def mAnd (m n : M Bool) : M Bool := M.bind m fun k => if k then n else M.ret false
def mOr (m n : M Bool) : M Bool := M.bind m fun k => if k then M.ret true else n
def mNot (m : M Bool) : M Bool := M.bind m fun k => M.ret (!k)
/-- a chain of and, or, whatever its whole is -/
def WWd (X : Cx) (e : Expr) : TT := fun σ H Q => ∀ (whole : Sem Value) (pins : List (Addr × Obj)) (s : Shared), Inv X pins σ H s → wpAny (model X.prog X.w) X.A (isTrue e X.env whole) (TP X pins σ Q) X.xe s
theorem pw_ww (X : Cx) (e : Expr) : PW X e (WWd X e) := ⟨fun wh pins s _ _ _ I h => h wh pins s I⟩
theorem WWd.of {e : Expr} {t : TT} {σ : L2.St} {H : Hp} {Q : Bool → Hp → Prop} (h : PW X e t) (q : t σ H Q) : WWd X e σ H Q := fun wh pins s I => h.run wh pins s σ H Q I q
def DW (X : Cx) (S : Sx) (W : WX) (e : Expr) (m : M Bool) : Prop :=
  ∀ (F : Hp) (σ : L2.St) (H : Hp) (env : DEnv) (hs : List V) (ho : List OD) (Q : Bool → Hp → Prop), Rel X.K S F σ H env hs ho →
    Mwp (m env) (fun b env' => ∀ F' H', Same F F' → Rel X.K S F' σ H' env' hs ho → Q b H') (QX X S W F σ hs ho) → WWd X e σ H Q
theorem QX.mono0 {F F1 : Hp} {σ : L2.St} {hs : List V} {ho : List OD} {x : Xn} {e : DEnv} (h : QX X S W F σ hs ho x e) (s : Same F F1) : QX X S W F1 σ hs ho x e := fun F' H' cls d s' R r => h F' H' cls d (s.trans s') R r
theorem DW.t {e : Expr} {m : M Bool} (h : DW X S W e m) : DT X S W e m := fun F σ H env hs ho Q R hq => ⟨fun pins s I => h F σ H env hs ho Q R hq _ pins s I⟩
theorem dw_and1 {m : M Bool} (h : DT X S W a m) : DW X S W (.BoolOp .And [a] pos) m := fun F σ H env hs ho Q R hq => WWd.of (pw_and1 (pt_wt X a)) (h F σ H env hs ho Q R hq)
theorem dw_or1 {m : M Bool} (h : DT X S W a m) : DW X S W (.BoolOp .Or [a] pos) m := fun F σ H env hs ho Q R hq => WWd.of (pw_or1 (pt_wt X a)) (h F σ H env hs ho Q R hq)
theorem dw_and {rest : List Expr} {m n : M Bool} (h : DT X S W a m) (h2 : DW X S W (.BoolOp .And (b :: rest) pos) n) : DW X S W (.BoolOp .And (a :: b :: rest) pos) (mAnd m n) := by
  intro F σ H env hs ho Q R hq
  refine WWd.of (pw_and (pt_wt X a) (pw_ww X _)) (h F σ H env hs ho _ R ((Mwp.bind hq).imp (fun k env' _ q F' H' s R' => ?_) fun _ _ _ x => x))
  cases k with
  | true => exact h2 F' σ H' env' hs ho Q R' (Mwp.imp q (fun b e2 _ k2 F2 H2 s2 R2 => k2 F2 H2 (s.trans s2) R2) fun x e2 _ hx => hx.mono0 s)
  | false => exact q F' H' s R'
theorem dw_or {rest : List Expr} {m n : M Bool} (h : DT X S W a m) (h2 : DW X S W (.BoolOp .Or (b :: rest) pos) n) : DW X S W (.BoolOp .Or (a :: b :: rest) pos) (mOr m n) := by
  intro F σ H env hs ho Q R hq
  refine WWd.of (pw_or (pt_wt X a) (pw_ww X _)) (h F σ H env hs ho _ R ((Mwp.bind hq).imp (fun k env' _ q F' H' s R' => ?_) fun _ _ _ x => x))
  cases k with
  | false => exact h2 F' σ H' env' hs ho Q R' (Mwp.imp q (fun b e2 _ k2 F2 H2 s2 R2 => k2 F2 H2 (s.trans s2) R2) fun x e2 _ hx => hx.mono0 s)
  | true => exact q F' H' s R'
theorem dt_not {m : M Bool} (h : DT X S W a m) : DT X S W (.UnaryOp .Not a pos) (mNot m) := by
  intro F σ H env hs ho Q R hq
  exact WT.of (pt_not (pt_wt X a)) (h F σ H env hs ho _ R ((Mwp.bind hq).imp (fun k env' _ q F' H' s R' => q F' H' s R') fun _ _ _ x => x))
/-- as values: all but the last truth values -/
def mAndV (m n : M OD) : M OD := M.bind (mTest m) fun k => if k then n else M.ret (.d (.bool false))
def mOrV (m n : M OD) : M OD := M.bind (mTest m) fun k => if k then M.ret (.d (.bool true)) else n
def mNotV (m : M OD) : M OD := M.bind (mTest m) fun k => M.ret (.d (.bool (!k)))
theorem de_one {op : BoolOp} {m : M OD} (h : DE X S W a m) : DE X S W (.BoolOp op [a] pos) m := fun F σ H env hs ho Q R hq => WE.of (pe_one (pe_we X a)) (h F σ H env hs ho Q R hq)
theorem test_step {m : M OD} {α : Type} {f : Bool → M α} {env : DEnv} {F : Hp} {σ : L2.St} {hs : List V} {ho : List OD} {Q : VK} {Qo : α → DEnv → Prop} (hl : hs.length = ho.length) (h : Mwp (M.bind (mTest m) f env) Qo (QX X S W F σ hs ho))
    (hq : ∀ b env' F' H', Mwp (f b env') Qo (QX X S W F σ hs ho) → Same F F' → Rel X.K S F' σ H' env' hs ho → Q (.bl b) H') :
    Mwp (m env) (fun o env' => ∀ F' H' v, Same F F' → Rel X.K S F' σ H' env' (hs ++ [v]) (ho ++ [o]) → Q v H') (QX X S W F σ hs ho) := by
  refine (Mwp.bind (Mwp.bind h)).imp (fun o env' _ k F' H' v s R' => ?_) fun _ _ _ x => x
  cases o with
  | d x =>
    cases x with
    | bool b =>
      have e := bool_held R' hl
      subst e
      exact hq b env' F' H' k s (R'.drop hl)
    | _ => exact k.elim
  | _ => exact k.elim
theorem de_and {rest : List Expr} {m n : M OD} (h : DE X S W a m) (h2 : DE X S W (.BoolOp .And (b :: rest) pos) n) : DE X S W (.BoolOp .And (a :: b :: rest) pos) (mAndV m n) := by
  intro F σ H env hs ho Q R hq
  refine WE.of (pe_and (pe_we X a) (pe_we X _)) (h F σ H env hs ho _ R (test_step R.hlen hq fun k env' F' H' q s R' => ⟨k, rfl, ?_⟩))
  cases k with
  | true => exact h2 F' σ H' env' hs ho Q R' (Mwp.imp q (fun b e2 _ k2 F2 H2 v s2 R2 => k2 F2 H2 v (s.trans s2) R2) fun x e2 _ hx => hx.mono0 s)
  | false => exact q F' H' _ s (R'.push (.bl _ .nil))
theorem de_or {rest : List Expr} {m n : M OD} (h : DE X S W a m) (h2 : DE X S W (.BoolOp .Or (b :: rest) pos) n) : DE X S W (.BoolOp .Or (a :: b :: rest) pos) (mOrV m n) := by
  intro F σ H env hs ho Q R hq
  refine WE.of (pe_or (pe_we X a) (pe_we X _)) (h F σ H env hs ho _ R (test_step R.hlen hq fun k env' F' H' q s R' => ⟨k, rfl, ?_⟩))
  cases k with
  | false => exact h2 F' σ H' env' hs ho Q R' (Mwp.imp q (fun b e2 _ k2 F2 H2 v s2 R2 => k2 F2 H2 v (s.trans s2) R2) fun x e2 _ hx => hx.mono0 s)
  | true => exact q F' H' _ s (R'.push (.bl _ .nil))
theorem de_not {m : M OD} (h : DE X S W a m) : DE X S W (.UnaryOp .Not a pos) (mNotV m) := by
  intro F σ H env hs ho Q R hq
  exact WE.of (pe_not (pe_we X a)) (h F σ H env hs ho _ R (test_step R.hlen hq fun k env' F' H' q s R' => ⟨k, rfl, q F' H' _ s (R'.push (.bl _ .nil))⟩))
def mIfE (t : M Bool) (m n : M OD) : M OD := M.bind t fun k => if k then m else n
theorem de_if {t : M Bool} {m n : M OD} (ht : DT X S W c t) (h1 : DE X S W a m) (h2 : DE X S W b n) : DE X S W (.IfExp c a b pos) (mIfE t m n) := by
  intro F σ H env hs ho Q R hq
  refine WE.of (pe_ifExp (pt_wt X c) (pe_we X a) (pe_we X b)) (ht F σ H env hs ho _ R ((Mwp.bind hq).imp (fun k env' _ q F' H' s R' => ?_) fun _ _ _ x => x))
  cases k with
  | true => exact h1 F' σ H' env' hs ho Q R' (Mwp.imp q (fun b e2 _ k2 F2 H2 v s2 R2 => k2 F2 H2 v (s.trans s2) R2) fun x e2 _ hx => hx.mono0 s)
  | false => exact h2 F' σ H' env' hs ho Q R' (Mwp.imp q (fun b e2 _ k2 F2 H2 v s2 R2 => k2 F2 H2 v (s.trans s2) R2) fun x e2 _ hx => hx.mono0 s)
end
end DL

set_option Elab.async false
set_option linter.all false
set_option autoImplicit false
set_option maxRecDepth 100000
/-! Statements: the rules. -/
namespace DL
open PySem PySem.Spec PyProof.Rows L2

/-- how a statement ends -/
inductive Fl where
  | nx
  | bk
  | ct
  | rt (o : OD)
/-- what is to be shown behind a statement -/
def Aft (K : PySem.W.Frag) (S : Sx) (F : Hp) (D : Ends) (fl : Fl) (env' : DEnv) : Prop := match fl with
  | .nx => ∀ F' σ' H', Same F F' → Rel K S F' σ' H' env' [] [] → D.nx σ' H'
  | .bk => ∀ F' σ' H', Same F F' → Rel K S F' σ' H' env' [] [] → D.bk σ' H'
  | .ct => ∀ F' σ' H', Same F F' → Rel K S F' σ' H' env' [] [] → D.ct σ' H'
  | .rt o => ∀ F' σ' H' v, Same F F' → Rel K S F' σ' H' env' [v] [o] → D.rt v H'
def AftX (X : Cx) (S : Sx) (W : WX) (F : Hp) : Xn → DEnv → Prop := fun x env' =>
  ∀ F' σ' H' cls d, Same F F' → Rel X.K S F' σ' H' env' [] [] → XR X.K X.mg F' H' x cls d → W cls d σ' H'
def DS (X : Cx) (S : Sx) (W : WX) (st : Stmt) (m : M Fl) : Prop :=
  ∀ (F : Hp) (σ : L2.St) (H : Hp) (env : DEnv) (D : Ends), Rel X.K S F σ H env [] [] → Mwp (m env) (Aft X.K S F D) (AftX X S W F) → WS X st D σ H
def DB (X : Cx) (S : Sx) (W : WX) (st : List Stmt) (m : M Fl) : Prop :=
  ∀ (F : Hp) (σ : L2.St) (H : Hp) (env : DEnv) (D : Ends), Rel X.K S F σ H env [] [] → Mwp (m env) (Aft X.K S F D) (AftX X S W F) → WB X st D σ H
section
variable {X : Cx} {S : Sx} {W : WX} {K : PySem.W.Frag} {F F1 : Hp} {D : Ends}
theorem Aft.grown {fl : Fl} {e : DEnv} (h : Aft K S F D fl e) (s : Same F F1) : Aft K S F1 D fl e := by
  cases fl with
  | nx => exact fun F' σ' H' s' R => h F' σ' H' (s.trans s') R
  | bk => exact fun F' σ' H' s' R => h F' σ' H' (s.trans s') R
  | ct => exact fun F' σ' H' s' R => h F' σ' H' (s.trans s') R
  | rt o => exact fun F' σ' H' v s' R => h F' σ' H' v (s.trans s') R
theorem AftX.grown {x : Xn} {e : DEnv} (h : AftX X S W F x e) (s : Same F F1) : AftX X S W F1 x e := fun F' σ' H' cls d s' R r => h F' σ' H' cls d (s.trans s') R r
theorem AftX.q {x : Xn} {e : DEnv} {σ : L2.St} (h : AftX X S W F x e) : QX X S W F σ [] [] x e := fun F' H' cls d s' R r => h F' σ H' cls d s' R r

/-! ### blocks -/
def mNx : M Fl := M.ret .nx
def mSeq (m n : M Fl) : M Fl := M.bind m fun fl => match fl with
  | .nx => n
  | f => M.ret f
theorem db_nil : DB X S W [] mNx := fun F σ H env D R h => WB.of pss_nil (h F σ H (Same.refl _) R)
theorem db_one {st : Stmt} {m : M Fl} (h : DS X S W st m) : DB X S W [st] m := fun F σ H env D R q => WB.of (pss_one (ps_ws X st)) (h F σ H env D R q)
theorem db_cons {st : Stmt} {r : List Stmt} {m n : M Fl} (h : DS X S W st m) (h2 : DB X S W r n) : DB X S W (st :: r) (mSeq m n) := by
  intro F σ H env D R q
  refine WB.of (pss_cons (ps_ws X st) (pss_wb X r)) (h F σ H env { D with nx := fun σ H => WB X r D σ H } R ((Mwp.bind q).imp (fun fl e' _ k => ?_) fun _ _ _ x => x))
  cases fl with
  | nx => exact fun F' σ' H' s R' => h2 F' σ' H' e' D R' (Mwp.imp k (fun f e _ z => z.grown s) fun x e _ z => z.grown s)
  | bk => exact k
  | ct => exact k
  | rt o => exact k
theorem ds_pass {pos} : DS X S W (.Pass pos) mNx := fun F σ H env D R h => WS.of ps_pass (h F σ H (Same.refl _) R)
def mBk : M Fl := M.ret .bk
def mCt : M Fl := M.ret .ct
theorem ds_break {pos} : DS X S W (.Break pos) mBk := fun F σ H env D R h => WS.of ps_break (h F σ H (Same.refl _) R)
theorem ds_continue {pos} : DS X S W (.Continue pos) mCt := fun F σ H env D R h => WS.of ps_continue (h F σ H (Same.refl _) R)
def mDo (m : M OD) : M Fl := M.bind m fun _ => M.ret .nx
theorem ds_expr {e : Expr} {m : M OD} {pos : Pos} (h : DE X S W e m) (hs : swapsWith e none pos.line X.env = pure false := by rfl) : DS X S W (.Expr e pos) (mDo m) := by
  intro F σ H env D R q
  refine WS.of (ps_expr (pe_we X e) hs) (h F σ H env [] [] _ R ((Mwp.bind q).imp (fun o e' _ k F' H' v s R' => ?_) fun x e _ z => z.q))
  exact k F' σ H' s (R'.drop (hs := []) (ho := []) rfl)
def mRet (m : M OD) : M Fl := M.bind m fun o => M.ret (.rt o)
theorem ds_ret {e : Expr} {m : M OD} {pos : Pos} (h : DE X S W e m) : DS X S W (.Return (some e) pos) (mRet m) := by
  intro F σ H env D R q
  exact WS.of (ps_ret (pe_we X e)) (h F σ H env [] [] _ R ((Mwp.bind q).imp (fun o e' _ k F' H' v s R' => k F' σ H' v s R') fun x e _ z => z.q))
def mRetN : M Fl := M.ret (.rt (.d .none))
theorem ds_retN {pos : Pos} : DS X S W (.Return none pos) mRetN := fun F σ H env D R q => WS.of ps_retN (q F σ H _ (Same.refl _) (R.push (.non .nil)))
def mIf (t : M Bool) (m n : M Fl) : M Fl := M.bind t fun k => if k then m else n
theorem ds_if {c : Expr} {a b : List Stmt} {t : M Bool} {m n : M Fl} {pos : Pos} (hc : DT X S W c t) (ha : DB X S W a m) (hb : DB X S W b n) : DS X S W (.If c a b pos) (mIf t m n) := by
  intro F σ H env D R q
  refine WS.of (ps_if (pt_wt X c) (pss_wb X a) (pss_wb X b)) (hc F σ H env [] [] _ R ((Mwp.bind q).imp (fun k e' _ q F' H' s R' => ?_) fun x e _ z => z.q))
  cases k with
  | true => exact ha F' σ H' e' D R' (Mwp.imp q (fun f e _ z => z.grown s) fun x e _ z => z.grown s)
  | false => exact hb F' σ H' e' D R' (Mwp.imp q (fun f e _ z => z.grown s) fun x e _ z => z.grown s)
/-- code that is not come to -/
def mStuck {α : Type} : M α := fun _ => none
theorem ds_stuck {st : Stmt} : DS X S W st mStuck := fun F σ H env D R q => q.elim

/-! ### targets -/
def wipeE (e : DEnv) : List Nat → DEnv
  | [] => e
  | v :: vs => (wipeE e vs).set v none
theorem wipe_set {i : Nat} {v : V} : ∀ {vs : List Nat} (σ : L2.St), i ∈ vs → wipe (σ.set i (some v)) vs = wipe σ vs
  | [], _, h => nomatch h
  | w :: vs, σ, h => by
    unfold wipe
    by_cases hm : i ∈ vs
    · rw [wipe_set σ hm]
    · have e : i = w := by simpa [hm] using h
      subst e
      have go : ∀ (us : List Nat) (τ : L2.St), i ∉ us → wipe (τ.set i (some v)) us = (wipe τ us).set i (some v) := by
        intro us
        induction us with
        | nil => intro τ _; rfl
        | cons u us ih =>
          intro τ hu
          simp only [List.mem_cons, not_or] at hu
          unfold wipe
          rw [ih τ hu.2, List.set_comm _ _ hu.1]
      rw [go vs σ hm, List.set_set]
/-- a target's reading changes the slots so -/
def GSpec (K : PySem.W.Frag) (S : Sx) (vs : List Nat) (g : TG) (a : OD → DEnv → Option DEnv) : Prop :=
  ∀ (F : Hp) (σ : L2.St) (H : Hp) (env env' : DEnv) (v : V) (o : OD) (hs : List V) (ho : List OD) (Q : L2.St → Hp → Prop), Rel K S F σ H env (hs ++ [v]) (ho ++ [o]) → hs.length = ho.length → a o env = some env' →
    (∀ F' σ', Same F F' → wipe σ' vs = wipe σ vs → Rel K S F' σ' H env' hs ho → Q σ' H) → g v σ H Q
def aName (i : Nat) : OD → DEnv → Option DEnv := fun o e => if i < e.length then some (e.set i (some o)) else none
theorem gs_name {i : Nat} {vs : List Nat} (hp : ∀ p ∈ S.pin, p.1 ≠ i) (hv : i ∈ vs) : GSpec K S vs (gName i) (aName i) := by
  intro F σ H env env' v o hs ho Q R hl e k
  unfold aName at e
  split at e
  · rename_i hi
    cases e
    exact k F _ (Same.refl _) (wipe_set σ hv) (R.store hl (by rw [R.len]; exact hi) hp)
  · cases e
/-- targets one after another -/
def aAll : List (OD → DEnv → Option DEnv) → List OD → DEnv → Option DEnv
  | [], [], e => some e
  | a :: as, o :: os, e => match a o e with
    | some e' => aAll as os e'
    | none => none
  | _, _, _ => none
def GsSpec (K : PySem.W.Frag) (S : Sx) (vs : List Nat) (g : TGs) (as : List (OD → DEnv → Option DEnv)) : Prop :=
  ∀ (F : Hp) (σ : L2.St) (H : Hp) (env env' : DEnv) (ws : List V) (xs : List PyData) (hs : List V) (ho : List OD) (Q : L2.St → Hp → Prop), Rel K S F σ H env hs ho → Reps K F ws xs → aAll as (xs.map .d) env = some env' →
    (∀ F' σ', Same F F' → wipe σ' vs = wipe σ vs → Rel K S F' σ' H env' hs ho → Q σ' H) → g ws σ H Q
theorem gs_nil {vs : List Nat} : GsSpec K S vs gNil [] := by
  intro F σ H env env' ws xs hs ho Q R r e k
  cases xs with
  | nil =>
    cases e
    cases r
    exact ⟨rfl, k F σ (Same.refl _) rfl R⟩
  | cons x xs => cases e
theorem gs_cons {vs : List Nat} {g : TG} {gs : TGs} {a : OD → DEnv → Option DEnv} {as : List (OD → DEnv → Option DEnv)} (h : GSpec K S vs g a) (h2 : GsSpec K S vs gs as) : GsSpec K S vs (gCons g gs) (a :: as) := by
  intro F σ H env env' ws xs hs ho Q R r e k
  cases xs with
  | nil => cases e
  | cons x xs =>
    cases ws with
    | nil => cases r
    | cons w ws =>
      simp only [List.map_cons, aAll] at e
      cases q : a (.d x) env with
      | none => rw [q] at e; cases e
      | some e1 =>
        rw [q] at e
        refine ⟨w, ws, rfl, h F σ H env e1 w (.d x) hs ho _ (R.push r.inv.1) R.hlen q fun F' σ' s hw R' => ?_⟩
        exact h2 F' σ' H e1 env' ws xs hs ho Q R' (r.inv.2.mono s) e fun F2 σ2 s2 hw2 R2 => k F2 σ2 (s.trans s2) (hw2.trans hw) R2
def aTup (as : List (OD → DEnv → Option DEnv)) : OD → DEnv → Option DEnv := fun o e => match o with
  | .d (.tuple xs) => if xs.length = as.length then aAll as (xs.map .d) e else none
  | _ => none
theorem gs_tup {vs : List Nat} {gs : TGs} {as : List (OD → DEnv → Option DEnv)} {n : Nat} (hn : as.length = n) (h : GsSpec K S vs gs as) : GSpec K S vs (gTup K n gs) (aTup as) := by
  intro F σ H env env' v o hs ho Q R hl e k
  unfold aTup at e
  split at e
  · rename_i xs
    split at e
    · rename_i hz
      obtain ⟨fp, r⟩ := R.heldReps hl
      obtain ⟨a, ws, rfl, q, r⟩ := (ORp.d_inv r).2.tuple_inv
      exact ⟨a, ws, rfl, DL.Same.sqt R.sub q, by rw [r.len, hz, hn], h F σ H env env' ws xs hs ho Q (R.drop hl) r e k⟩
    · cases e
  · cases e

/-! ### assignments -/
def mAsg (m : M OD) (a : OD → DEnv → Option DEnv) : M Fl := M.bind m fun o e => match a o e with
  | some e' => some (.ok .nx, e')
  | none => none
theorem asg_fin {vs : List Nat} {g : TG} {a : OD → DEnv → Option DEnv} (hg : GSpec K S vs g a) {F F' : Hp} {σ : L2.St} {H : Hp} {env : DEnv} {v : V} {o : OD} {D : Ends} {Qx : Xn → DEnv → Prop} (R : Rel K S F' σ H env [v] [o]) (s : Same F F')
    (k : Mwp ((match a o env with
      | some e' => some (Rs.ok Fl.nx, e')
      | none => none : Option (Rs Fl × DEnv))) (Aft K S F D) Qx) : g v σ H D.nx := by
  cases e : a o env with
  | none => rw [e] at k; exact k.elim
  | some e' =>
    rw [e] at k
    exact hg F' σ H env e' v o [] [] D.nx R rfl e fun F2 σ2 s2 _ R2 => k F2 σ2 H (s.trans s2) R2
theorem ds_set {i : Nat} {x : Str} {e : Expr} {m : M OD} {pos pos' : Pos} (h : DE X S W e m) (hN : X.N.Nodup) (hp : ∀ p ∈ S.pin, p.1 ≠ i) (hi : X.N[i]? = some x := by rfl) (hx : Loc X.env.scope x := by first | exact Or.inl rfl | exact Or.inr rfl) (hs : swapsWith e (some (.Name x pos')) pos.line X.env = pure false := by rfl)
    (hf : X.fn x = true ∨ X.env.scope.names.lookup x = some .local := by first | exact .inl rfl | exact .inr rfl | assumption) : DS X S W (.Assign [.Name x pos'] e pos) (mAsg m (aName i)) := by
  intro F σ H env D R q
  refine WS.of (ps_set hN hi hx (pe_we X e) hs hf) (h F σ H env [] [] _ R ((Mwp.bind q).imp (fun o e' _ k F' H' v s R' => ?_) fun x e _ z => z.q))
  exact asg_fin (gs_name (vs := [i]) hp (by simp)) R' s k
theorem ds_asg {tg e : Expr} {vs : List Nat} {g : TG} {a : OD → DEnv → Option DEnv} {m : M OD} {pos : Pos} (h : DE X S W e m) (hg : PG X tg g) (ga : GSpec X.K S vs g a) (hs : swapsWithSole [tg] e pos.line X.env = pure false := by rfl) (hw : swappedStores [tg] e X.env = pure none := by rfl)
    (h1 : (assignEach [tg] X.env).map (·.2) = [assign tg X.env] := by rfl) : DS X S W (.Assign [tg] e pos) (mAsg m a) := by
  intro F σ H env D R q
  refine WS.of (ps_asg (pe_we X e) hg hs hw h1) (h F σ H env [] [] _ R ((Mwp.bind q).imp (fun o e' _ k F' H' v s R' => ?_) fun x e _ z => z.q))
  exact asg_fin ga R' s k

/-! ### what is walked -/
structure WIs (X : Cx) (tg iter : Expr) (σ : L2.St) (H : Hp) (R : It → Hp → Prop) : Prop where
  run : ∀ (pins : List (Addr × Obj)) (s : Shared), Inv X pins σ H s → wpAny (model X.prog X.w) X.A (eval iter X.env) (fun v s1 => wpAny (model X.prog X.w) X.A (pyIter v) (PIE X pins σ tg R) X.xe s1) X.xe s
def WI (X : Cx) (tg iter : Expr) : TI := fun σ H R => WIs X tg iter σ H R
theorem pi_wi (X : Cx) (tg iter : Expr) : PI X tg iter (WI X tg iter) := ⟨fun pins s _ _ _ I h => h.run pins s I⟩
theorem WI.of {tg iter : Expr} {t : TI} {σ : L2.St} {H : Hp} {R : It → Hp → Prop} (h : PI X tg iter t) (q : t σ H R) : WI X tg iter σ H R := ⟨fun pins s I => h.run pins s σ H R I q⟩
/-- the items that come -/
def Yields (K : PySem.W.Frag) (S : Sx) (F : Hp) (J : It) (ds : List PyData) : Prop :=
  ∀ (i : Nat) (F2 : Hp) (σ : L2.St) (H : Hp) (env : DEnv) (hs : List V) (ho : List OD), Same F F2 → Rel K S F2 σ H env hs ho →
    (∀ d, ds[i]? = some d → J.go i H ∧ ∀ x H', J.yld i H x H' → ∃ F3, Same F2 F3 ∧ Rel K S F3 σ H' env (hs ++ [x]) (ho ++ [.d d])) ∧ (ds.length ≤ i → J.stop i H)
def DIt (X : Cx) (S : Sx) (W : WX) (tg iter : Expr) (m : M (List PyData)) : Prop :=
  ∀ (F : Hp) (σ : L2.St) (H : Hp) (env : DEnv) (hs : List V) (ho : List OD) (R : It → Hp → Prop), Rel X.K S F σ H env hs ho →
    Mwp (m env) (fun ds env' => ∀ F' H' J, Same F F' → Rel X.K S F' σ H' env' hs ho → Yields X.K S F' J ds → R J H') (QX X S W F σ hs ho) → WI X tg iter σ H R

/-! ### for -/
def mFlow (mb rest : M Fl) : M Fl := M.bind mb fun fl => match fl with
  | .nx => rest
  | .ct => rest
  | .bk => M.ret .nx
  | .rt o => M.ret (.rt o)
def mEach (a : OD → DEnv → Option DEnv) (mb : M Fl) : List PyData → M Fl
  | [] => mNx
  | d :: ds => fun e => match a (.d d) e with
    | some e' => mFlow mb (mEach a mb ds) e'
    | none => none
def mFor (mi : M (List PyData)) (a : OD → DEnv → Option DEnv) (mb : M Fl) : M Fl := M.bind mi fun ds => mEach a mb ds
theorem ds_for {tg iter : Expr} {body : List Stmt} {mi : M (List PyData)} {g : TG} {vs : List Nat} {a : OD → DEnv → Option DEnv} {mb : M Fl} {pos : Pos} (hp : PassesOwn (model X.prog X.w) X.A X.env X.xe) (hc : X.calm = true)
    (hi : DIt X S W tg iter mi) (hg : PG X tg g) (ga : GSpec X.K S vs g a) (hb : DB X S W body mb) (hs : ∀ x, foldedSetIterable iter X.env x = pure x := by intro _; rfl) : DS X S W (.For tg iter body [] pos) (mFor mi a mb) := by
  intro F σ H env D R q
  refine WS.of (ps_for hp hc (pi_wi X tg iter) hg (pss_wb X body) hs) (hi F σ H env [] [] _ R ((Mwp.bind q).imp (fun ds e' _ k F' H' J s R' Y => ?_) fun x e _ z => z.q))
  refine ⟨fun i m σ2 H2 => m = ds.length - i ∧ i ≤ ds.length ∧ ∃ F2 e2, Same F' F2 ∧ Rel X.K S F2 σ2 H2 e2 [] [] ∧ Mwp (mEach a mb (ds.drop i) e2) (Aft X.K S F D) (AftX X S W F), ⟨_, rfl, Nat.zero_le _, F', e', Same.refl _, R', k⟩, ?_⟩
  rintro i m σ2 H2 ⟨rfl, hi', F2, e2, s2, R2, k2⟩
  obtain ⟨y1, y2⟩ := Y i F2 σ2 H2 e2 [] [] s2 R2
  by_cases hlt : i < ds.length
  · right
    rw [List.drop_eq_getElem_cons hlt] at k2
    unfold mEach at k2
    cases ea : a (.d ds[i]) e2 with
    | none => rw [ea] at k2; exact k2.elim
    | some e3 =>
      rw [ea] at k2
      obtain ⟨go, y⟩ := y1 ds[i] (by simp [hlt])
      refine ⟨go, fun σ' H' => ∃ F3 e4, Same F' F3 ∧ Rel X.K S F3 σ' H' e4 [] [] ∧ Mwp (mEach a mb (ds.drop (i + 1)) e4) (Aft X.K S F D) (AftX X S W F), fun σ' H' ⟨F3, e4, h1, h2, h3⟩ => ⟨ds.length - (i + 1), by omega, rfl, hlt, F3, e4, h1, h2, h3⟩, fun x H' hy => ?_⟩
      obtain ⟨F3, s3, R3⟩ := y x H' hy
      refine ga F3 σ2 H' e2 e3 x _ [] [] _ R3 rfl ea fun F4 σ4 s4 _ R4 => ?_
      have s04 : Same F' F4 := s2.trans (s3.trans s4)
      refine hb F4 σ4 H' e3 _ R4 ((Mwp.bind k2).imp (fun fl e5 _ k5 => ?_) fun x e _ z => z.grown (s.trans s04))
      cases fl with
      | nx => exact fun F5 σ5 H5 s5 R5 => ⟨F5, e5, s04.trans s5, R5, k5⟩
      | ct => exact fun F5 σ5 H5 s5 R5 => ⟨F5, e5, s04.trans s5, R5, k5⟩
      | bk => exact fun F5 σ5 H5 s5 R5 => k5 F5 σ5 H5 ((s.trans s04).trans s5) R5
      | rt o => exact fun F5 σ5 H5 v s5 R5 => k5 F5 σ5 H5 v ((s.trans s04).trans s5) R5
  · have e : i = ds.length := by omega
    left
    refine ⟨y2 (by omega), ?_⟩
    rw [e, List.drop_length] at k2
    exact k2 F2 σ2 H2 (s.trans s2) R2

/-! ### while -/
def mWhN (c : M Bool) (mb : M Fl) : Nat → M Fl
  | 0 => fun _ => none
  | n + 1 => M.bind c fun k => if k then mFlow mb (mWhN c mb n) else mNx
theorem ds_while {c : Expr} {body : List Stmt} {mc : M Bool} {mb : M Fl} {pos : Pos} (n : Nat) (hp : PassesOwn (model X.prog X.w) X.A X.env X.xe) (hc : DT X S W c mc) (hb : DB X S W body mb) : DS X S W (.While c body [] pos) (mWhN mc mb n) := by
  intro F σ H env D R q
  refine WS.of (ps_while hp (pt_wt X c) (pss_wb X body)) ?_
  refine ⟨fun m σ2 H2 => ∃ F2 e2, Same F F2 ∧ Rel X.K S F2 σ2 H2 e2 [] [] ∧ Mwp (mWhN mc mb m e2) (Aft X.K S F D) (AftX X S W F), ⟨n, F, env, Same.refl _, R, q⟩, ?_⟩
  rintro m σ2 H2 ⟨F2, e2, s2, R2, k2⟩
  cases m with
  | zero => exact k2.elim
  | succ m =>
    refine hc F2 σ2 H2 e2 [] [] _ R2 ((Mwp.bind k2).imp (fun k e3 _ k3 F3 H3 s3 R3 => ?_) fun x e _ z => (z.grown s2).q)
    cases k with
    | false => exact k3 F3 σ2 H3 (s2.trans s3) R3
    | true =>
      refine ⟨fun σ' H' => ∃ F2 e2, Same F F2 ∧ Rel X.K S F2 σ' H' e2 [] [] ∧ Mwp (mWhN mc mb m e2) (Aft X.K S F D) (AftX X S W F), fun σ' H' h => ⟨m, Nat.lt_succ_self m, h⟩, ?_⟩
      refine hb F3 σ2 H3 e3 _ R3 ((Mwp.bind k3).imp (fun fl e5 _ k5 => ?_) fun x e _ z => z.grown (s2.trans s3))
      cases fl with
      | nx => exact fun F5 σ5 H5 s5 R5 => ⟨F5, e5, (s2.trans s3).trans s5, R5, k5⟩
      | ct => exact fun F5 σ5 H5 s5 R5 => ⟨F5, e5, (s2.trans s3).trans s5, R5, k5⟩
      | bk => exact fun F5 σ5 H5 s5 R5 => k5 F5 σ5 H5 ((s2.trans s3).trans s5) R5
      | rt o => exact fun F5 σ5 H5 v s5 R5 => k5 F5 σ5 H5 v ((s2.trans s3).trans s5) R5
end
end DL

set_option Elab.async false
set_option linter.all false
set_option autoImplicit false
set_option maxRecDepth 100000
/-! What loops walk; comprehensions. -/
namespace DL
open PySem PySem.Spec PyProof.Rows L2
theorem Same.sql {K : PySem.W.Frag} {H H' : Hp} {a : Addr} {xs : List V} (e : Same H H') (h : SqL K H a xs) : SqL K H' a xs := h.imp (fun z => DL.Same.rd e z) id
section
variable {X : Cx} {S : Sx} {W : WX} {K : PySem.W.Frag} {F F1 : Hp} {D : Ends} {tg e : Expr}

def chars (x : Str) : List PyData := x.cps.toList.map fun c => .str ⟨#[c]⟩
def itemsOf : OD → Option (List PyData)
  | .d (.list xs) => some xs
  | .d (.tuple xs) => some xs
  | .d (.str x) => some (chars x)
  | .s ns => some (ns.map .int)
  | _ => none
def mItems (q : Opd) : M (List PyData) := M.bind q.go fun he e => match he.rd e with
  | none => none
  | some o => match itemsOf o with
    | none => none
    | some ds => some (.ok ds, e)
theorem y_list {a : Addr} {ws : List V} {xs : List PyData} (h : SqL K F a ws) (r : Reps K F ws xs) : Yields K S F (Itl K a) xs := by
  intro i F2 σ H env hs ho s R
  have q : SqL K H a ws := DL.Same.sql (s.trans R.sub) h
  refine ⟨fun d hd => ?_, fun hz => ⟨ws, q, by rw [r.len]; exact hz⟩⟩
  obtain ⟨w, hw, rw'⟩ := r.getD hd
  refine ⟨⟨ws, w, q, hw⟩, fun x H' hy => ?_⟩
  obtain ⟨rfl, hy⟩ := hy
  have := hy ws q
  rw [hw] at this
  cases this
  exact ⟨F2, Same.refl _, R.push (rw'.mono s)⟩
theorem y_tup {a : Addr} {ws : List V} {xs : List PyData} (h : SqT K F a ws) (r : Reps K F ws xs) : Yields K S F (Itt K a) xs := by
  intro i F2 σ H env hs ho s R
  have q : SqT K H a ws := DL.Same.sqt (s.trans R.sub) h
  refine ⟨fun d hd => ?_, fun hz => ⟨ws, q, by rw [r.len]; exact hz⟩⟩
  obtain ⟨w, hw, rw'⟩ := r.getD hd
  refine ⟨⟨ws, w, q, hw⟩, fun x H' hy => ?_⟩
  obtain ⟨rfl, hy⟩ := hy
  have := hy ws q
  rw [hw] at this
  cases this
  exact ⟨F2, Same.refl _, R.push (rw'.mono s)⟩
theorem y_str {x : Str} : Yields K S F (Its x) (chars x) := by
  intro i F2 σ H env hs ho s R
  have hsz : x.cps.toList.length = x.cps.size := by simp
  refine ⟨fun d hd => ?_, fun hz => ?_⟩
  · unfold chars at hd
    rw [List.getElem?_map] at hd
    cases q : x.cps.toList[i]? with
    | none => rw [q] at hd; cases hd
    | some c =>
      rw [q] at hd
      cases hd
      refine ⟨?_, fun y H' hy => ?_⟩
      · have := (List.getElem?_eq_some_iff.mp q).1
        rw [hsz] at this
        exact this
      · obtain ⟨rfl, c', hc, rfl⟩ := hy
        have : x.cps.toList[i]? = some c' := by simpa using hc
        rw [q] at this
        cases this
        exact ⟨F2, Same.refl _, R.push (.str _ (by show 1 ≤ sizeLine; decide) .nil)⟩
  · unfold chars at hz
    rw [List.length_map, hsz] at hz
    exact hz
theorem rng_int {lo : Int} {n : Nat} {i : Nat} {d : PyData} (h : ((List.range n).map fun k : Nat => PyData.int (lo + k))[i]? = some d) : i < n ∧ d = .int (lo + i) := by
  rw [List.getElem?_map] at h
  cases q : (List.range n)[i]? with
  | none => rw [q] at h; cases h
  | some c =>
    rw [q] at h
    cases h
    have hi := (List.getElem?_eq_some_iff.mp q).1
    rw [List.length_range] at hi
    have : c = i := by
      have := (List.getElem?_eq_some_iff.mp q).2
      simpa using this.symm
    subst this
    exact ⟨hi, rfl⟩
theorem y_rng {lo : Int} {n : Nat} : Yields K S F (Itr lo n) ((List.range n).map fun k : Nat => PyData.int (lo + k)) := by
  intro i F2 σ H env hs ho s R
  refine ⟨fun d hd => ?_, fun hz => ?_⟩
  · obtain ⟨hi, rfl⟩ := rng_int hd
    refine ⟨hi, fun x H' hy => ?_⟩
    obtain ⟨rfl, rfl⟩ := hy
    exact ⟨F2, Same.refl _, R.push (.int _ .nil)⟩
  · have : n ≤ i := by simpa using hz
    exact this
theorem reps_ints : ∀ (ns : List Int), Reps K F (ns.map V.int) (ns.map PyData.int)
  | [] => .nil
  | n :: ns => .int n (reps_ints ns)
theorem di_opd {q : Opd} (h : DO X S W e q) : DIt X S W tg e (mItems q) := by
  intro F σ H env hs ho Rr R hq
  have hq := Mwp.bind hq
  cases r : q.go env with
  | none => rw [r] at hq; exact hq.elim
  | some p =>
    obtain ⟨p, e'⟩ := p
    cases p with
    | ex x =>
      refine WI.of (pi_list (pe_we X e)) (h F σ H env hs ho _ R ?_)
      rw [r] at hq ⊢
      exact hq
    | ok he =>
      rw [r] at hq
      simp only [Mwp] at hq
      cases r2 : he.rd e' with
      | none => rw [r2] at hq; exact hq.elim
      | some o =>
        rw [r2] at hq
        simp only at hq
        cases r3 : itemsOf o with
        | none => rw [r3] at hq; exact hq.elim
        | some ds =>
          rw [r3] at hq
          have hq : ∀ F' H' J, Same F F' → Rel X.K S F' σ H' e' hs ho → Yields X.K S F' J ds → Rr J H' := hq
          -- the value as it stands
          have val : ∀ F' H' v, Left X.K S F' σ H' e' hs ho v he → Rel X.K S F' σ H' e' hs ho ∧ ∃ fp, ORp X.K F' H' v o fp := fun F' H' v L => by
            cases he with
            | o x =>
              cases r2
              exact ⟨L.drop R.hlen, L.heldReps R.hlen⟩
            | al i =>
              obtain ⟨L1, L⟩ := L
              simp only [HE.rd] at r2
              cases q0 : e'[i]? with
              | none => rw [q0] at r2; cases r2
              | some oo =>
                rw [q0] at r2
                simp only [Option.join_some] at r2
                subst r2
                obtain ⟨v', fp, h1, h2⟩ := L.slot q0
                rw [h1] at L1
                cases L1
                exact ⟨L, fp, h2⟩
          have go : ∀ {Q : VK}, (∀ F' H' v, Same F F' → Rel X.K S F' σ H' e' hs ho → (∃ fp, ORp X.K F' H' v o fp) → Q v H') → WE X e σ H Q := fun {Q} k =>
            h F σ H env hs ho Q R (by rw [r]; exact fun F' H' v s L => let ⟨a, b⟩ := val F' H' v L; k F' H' v s a b)
          cases o with
          | d x =>
            cases x with
            | list xs =>
              cases r3
              refine WI.of (pi_list (pe_we X e)) (go fun F' H' v s R' ⟨fp, z⟩ => ?_)
              obtain ⟨a, ws, rfl, h1, h2⟩ := (ORp.d_inv z).2.list_inv
              exact ⟨a, rfl, ⟨ws, .inl (.inl (R'.sub _ _ h1))⟩, hq F' H' _ s R' (y_list (.inl (.inl h1)) h2)⟩
            | tuple xs =>
              cases r3
              refine WI.of (pi_tup (pe_we X e)) (go fun F' H' v s R' ⟨fp, z⟩ => ?_)
              obtain ⟨a, ws, rfl, h1, h2⟩ := (ORp.d_inv z).2.tuple_inv
              exact ⟨a, rfl, ⟨ws, DL.Same.sqt R'.sub h1⟩, hq F' H' _ s R' (y_tup h1 h2)⟩
            | str x =>
              cases r3
              refine WI.of (pi_str (pe_we X e)) (go fun F' H' v s R' ⟨fp, z⟩ => ?_)
              obtain ⟨rfl, _⟩ := (ORp.d_inv z).2.str_inv
              exact ⟨x, rfl, hq F' H' _ s R' y_str⟩
            | _ => cases r3
          | s ns =>
            cases r3
            refine WI.of (pi_list (pe_we X e)) (go fun F' H' v s R' ⟨fp, z⟩ => ?_)
            obtain ⟨a, rfl, h1⟩ := ORp.s_inv z
            exact ⟨a, rfl, ⟨_, DL.Same.sql R'.sub h1⟩, hq F' H' _ s R' (y_list h1 (reps_ints ns))⟩
          | l os => cases r3
          | m ks os => cases r3

/-! ### ranges -/
def smallB (i : Int) : Bool := decide (-(2 ^ 62) ≤ i) && decide (i < 2 ^ 62)
def rngOf (lo hi : Int) : List PyData := (List.range (hi - lo).toNat).map fun k : Nat => PyData.int (lo + k)

def rngA : List OD → Option (List PyData)
  | [.d (.int j)] => if smallB j then some (rngOf 0 j) else none
  | _ => none
def rngB : List OD → Option (List PyData)
  | [.d (.int i), .d (.int j)] => if smallB i && smallB j then some (rngOf i j) else none
  | _ => none
def mRng (f : List OD → Option (List PyData)) (qs : List Opd) : M (List PyData) := M.bind (args qs) fun hes e => match rds e hes with
  | none => none
  | some os => match f os with
    | none => none
    | some ds => some (.ok ds, e)
theorem rdb_int {H : Hp} {vs : List V} {i : Int} {os : List OD} (h : Rdb K F H vs (.d (.int i) :: os)) : ∃ us, vs = .int i :: us ∧ Rdb K F H us os := by
  cases h with
  | cons h1 h2 => exact ⟨_, by rw [(ORp.d_inv h1).2.int_inv], h2⟩
theorem rdb_nil {H : Hp} {vs : List V} (h : Rdb K F H vs []) : vs = [] := by cases h; rfl
theorem di_range1 {a : Expr} {q : Opd} {p pos : Pos} (h : DAs X S W [a] [q]) (hm : X.mg "range" = none) (hg : Gl X "range" := by rfl) (hs : starEach [a] X.env = [(false, eval a X.env)] := by rfl) : DIt X S W tg (.Call (.Name "range" p) [a] [] pos) (mRng rngA [q]) := by
  intro F σ H env hs' ho Rr R hq
  refine WI.of (pi_range1 hg hm (pa_wa X [a]) hs) (h.run F σ H env hs' ho _ R ((Mwp.bind hq).imp (fun hes e' _ k F' H' vs hvs hos s mt R' => ?_) fun _ _ _ x => x))
  cases e : rds e' hes with
  | none => rw [e] at k; exact k.elim
  | some os =>
    rw [e] at k
    simp only at k
    cases e2 : rngA os with
    | none => rw [e2] at k; exact k.elim
    | some ds =>
      rw [e2] at k
      have rb := mt.rdb R' R.hlen e
      unfold rngA at e2
      split at e2
      · rename_i j
        split at e2
        · rename_i hz
          cases e2
          obtain ⟨us, e1, rb1⟩ := rdb_int rb
          have e2 := rdb_nil rb1
          subst e2
          subst e1
          simp only [smallB, Bool.and_eq_true, decide_eq_true_eq] at hz
          refine ⟨j, rfl, hz.1, hz.2, k F' H' _ s (R'.drop R.hlen) ?_⟩
          have := y_rng (K := X.K) (S := S) (F := F') (lo := 0) (n := j.toNat)
          unfold rngOf
          rw [Int.sub_zero]
          exact this
        · cases e2
      · cases e2
theorem di_range2 {a b : Expr} {q q2 : Opd} {p pos : Pos} (h : DAs X S W [a, b] [q, q2]) (hm : X.mg "range" = none) (hg : Gl X "range" := by rfl) (hs : starEach [a, b] X.env = [(false, eval a X.env), (false, eval b X.env)] := by rfl) (hs2 : starEach [b] X.env = [(false, eval b X.env)] := by rfl) :
    DIt X S W tg (.Call (.Name "range" p) [a, b] [] pos) (mRng rngB [q, q2]) := by
  intro F σ H env hs' ho Rr R hq
  refine WI.of (pi_range2 hg hm (pa_wa X [a, b]) hs hs2) (h.run F σ H env hs' ho _ R ((Mwp.bind hq).imp (fun hes e' _ k F' H' vs hvs hos s mt R' => ?_) fun _ _ _ x => x))
  cases e : rds e' hes with
  | none => rw [e] at k; exact k.elim
  | some os =>
    rw [e] at k
    simp only at k
    cases e2 : rngB os with
    | none => rw [e2] at k; exact k.elim
    | some ds =>
      rw [e2] at k
      have rb := mt.rdb R' R.hlen e
      unfold rngB at e2
      split at e2
      · rename_i i j
        split at e2
        · rename_i hz
          cases e2
          obtain ⟨us, e1, rb1⟩ := rdb_int rb
          obtain ⟨us2, e2, rb2⟩ := rdb_int rb1
          have e3 := rdb_nil rb2
          subst e3
          subst e2
          subst e1
          simp only [smallB, Bool.and_eq_true, decide_eq_true_eq] at hz
          refine ⟨i, j, rfl, ⟨hz.1.1, hz.1.2, hz.2.1, hz.2.2⟩, k F' H' _ s (R'.drop R.hlen) ?_⟩
          exact y_rng (K := X.K) (S := S) (F := F') (lo := i) (n := (j - i).toNat)
        · cases e2
      · cases e2

/-! ### wiped slots -/
theorem wipeE_len : ∀ (vs : List Nat) (e : DEnv), (wipeE e vs).length = e.length
  | [], _ => rfl
  | v :: vs, e => by unfold wipeE; rw [List.length_set, wipeE_len vs e]
theorem wipeE_some {i : Nat} {o : OD} : ∀ {vs : List Nat} {e : DEnv}, (wipeE e vs)[i]? = some (some o) → e[i]? = some (some o) ∧ i ∉ vs
  | [], e, h => ⟨h, by simp⟩
  | v :: vs, e, h => by
    unfold wipeE at h
    rw [List.getElem?_set] at h
    by_cases hv : v = i
    · subst hv
      simp only [if_true] at h
      split at h <;> cases h
    · rw [if_neg hv] at h
      obtain ⟨h1, h2⟩ := wipeE_some h
      exact ⟨h1, by simp only [List.mem_cons, not_or]; exact ⟨fun z => hv z.symm, h2⟩⟩
theorem ERep.re {H : Hp} : ∀ {σ : L2.St} {env : DEnv} {fp : List Addr} {τ : L2.St}, ERep K F H σ env fp → τ.length = σ.length → (∀ (i : Nat) (o : OD), env[i]? = some (some o) → τ[i]? = σ[i]?) → ERep K F H τ env fp
  | [], [], _, τ, h, hl, _ => by
    have : τ = [] := List.eq_nil_of_length_eq_zero hl
    subst this
    exact h
  | _ :: _, [], _, _, h, _, _ => nomatch h
  | [], _ :: _, _, _, h, _, _ => nomatch h
  | x :: σ, o :: env, _, [], h, hl, _ => by simp at hl
  | x :: σ, o :: env, _, t :: τ, h, hl, k => by
    have hl' : τ.length = σ.length := by simpa using hl
    have k' : ∀ (i : Nat) (o : OD), env[i]? = some (some o) → τ[i]? = σ[i]? := fun i o e => by simpa using k (i + 1) o (by simpa using e)
    cases h with
    | un h => exact .un (h.re hl' k')
    | so h1 h =>
      have := k 0 _ (by simp; rfl)
      simp at this
      subst this
      exact .so h1 (h.re hl' k')
theorem ERep.wiped {H : Hp} {σ : L2.St} {env : DEnv} {fp : List Addr} (h : ERep K F H σ env fp) : ∀ vs : List Nat, ∃ fp' l, ERep K F H (wipe σ vs) (wipeE env vs) fp' ∧ fp.Perm (l ++ fp')
  | [] => ⟨fp, [], h, by simp⟩
  | v :: vs => by
    obtain ⟨f1, l1, h1, p1⟩ := ERep.wiped h vs
    obtain ⟨f2, l2, h2, p2⟩ := h1.drop v
    exact ⟨f2, l1 ++ l2, h2, p1.trans (by rw [List.append_assoc]; exact p2.append_left l1)⟩
theorem Rel.wiped {σ : L2.St} {H : Hp} {env : DEnv} {hs : List V} {ho : List OD} (R : Rel K S F σ H env hs ho) (vs : List Nat) (hp : ∀ p ∈ S.pin, p.1 ∉ vs) : Rel K S F (wipe σ vs) H (wipeE env vs) hs ho := by
  obtain ⟨f1, f2, a, b, nd, io⟩ := R.rep
  obtain ⟨f3, l, c, pm⟩ := a.wiped vs
  have pm2 : (f1 ++ f2).Perm (l ++ (f3 ++ f2)) := by rw [← List.append_assoc]; exact pm.append_right f2
  refine ⟨R.sub, ⟨f3, f2, c, b, (List.nodup_append.mp (pm2.nodup_iff.mp nd)).2.1, fun x hx => io x (pm2.mem_iff.mpr (List.mem_append_right _ hx))⟩, R.keep, R.new, R.f0, fun p hp' => ?_⟩
  rw [wipe_out (hp p hp')]
  exact R.pin p hp'
theorem Rel.unwiped {σ : L2.St} {H : Hp} {env : DEnv} {hs : List V} {ho : List OD} {vs : List Nat} (R : Rel K S F (wipe σ vs) H (wipeE env vs) hs ho) (hp : ∀ p ∈ S.pin, p.1 ∉ vs) : Rel K S F σ H (wipeE env vs) hs ho := by
  obtain ⟨f1, f2, a, b, nd, io⟩ := R.rep
  refine ⟨R.sub, ⟨f1, f2, a.re (wipe_length σ vs).symm fun i o e => ?_, b, nd, io⟩, R.keep, R.new, R.f0, fun p hp' => ?_⟩
  · exact (wipe_out (wipeE_some e).2).symm
  · rw [← wipe_out (hp p hp')]
    exact R.pin p hp'
/-- the last held list takes one thing more -/
theorem Rel.heldPush {σ : L2.St} {H : Hp} {env : DEnv} {hs us : List V} {ho os : List OD} {a : Addr} {v : V} {o : OD} (R : Rel K S F σ H env (hs ++ [.ref a, v]) (ho ++ [.l os, o])) (hl : hs.length = ho.length) :
    ∃ ws, H a = some (.lst ws) ∧ ws.length = os.length ∧ Rel K S F σ (upd H a (.lst (ws ++ [v]))) env (hs ++ [.ref a]) (ho ++ [.l (os ++ [o])]) := by
  obtain ⟨f1, f2, c, b, nd, io⟩ := R.rep
  obtain ⟨g1, g2, b1, b2, rfl⟩ := OReps.split hl b
  obtain ⟨k1, k2, b3, b4, rfl⟩ := b2.inv
  obtain ⟨a', ws, k3, ea, hFa, hHa, b5, rfl⟩ := ORp.l_inv b3
  cases ea
  refine ⟨ws, hHa, b5.len, ?_⟩
  have pm : (f1 ++ (g1 ++ (a :: k3 ++ k2))).Perm (a :: (f1 ++ (g1 ++ (k3 ++ k2)))) := by
    have : (f1 ++ (g1 ++ (a :: k3 ++ k2))).Perm ((f1 ++ g1) ++ a :: (k3 ++ k2)) := by simp [List.append_assoc]
    refine this.trans (List.perm_middle.trans ?_)
    simp [List.append_assoc]
  have nd' := pm.nodup_iff.mp nd
  have ne : ∀ x ∈ f1 ++ (g1 ++ (k3 ++ k2)), x ≠ a := fun x hx z => (List.nodup_cons.mp nd').1 (z ▸ hx)
  have un : ∀ x, x ≠ a → upd H a (.lst (ws ++ [v])) x = H x := fun x hx => upd_ne hx
  refine ⟨fun x u hx => ?_, ⟨f1, g1 ++ (a :: (k3 ++ k2)), c.change (Same.refl _) fun x hx => ⟨(c.fnone x hx).1, un x (ne x (by simp [hx]))⟩, ?_, ?_, fun x hx => io x ?_⟩, fun x u hx hi => ?_, R.new, R.f0, R.pin⟩
  · rw [un x fun z => by rw [z, hFa] at hx; cases hx]
    exact R.sub x u hx
  · have b1' := b1.change (F' := F) (H' := upd H a (.lst (ws ++ [v]))) (Same.refl _) fun x hx => ⟨(b1.fnone x hx).1, un x (ne x (by simp [hx]))⟩
    have b5' := b5.change (F' := F) (H' := upd H a (.lst (ws ++ [v]))) (Same.refl _) fun x hx => ⟨(b5.fnone x hx).1, un x (ne x (by simp [hx]))⟩
    have b4' := b4.change (F' := F) (H' := upd H a (.lst (ws ++ [v]))) (Same.refl _) fun x hx => ⟨(b4.fnone x hx).1, un x (ne x (by simp [hx]))⟩
    exact b1'.app (ORp.mkl hFa upd_same (b5'.app b4'))
  · refine (List.Perm.nodup_iff ?_).mp nd
    refine List.Perm.append_left f1 (List.Perm.append_left g1 ?_)
    simp
  · simp only [List.mem_append, List.mem_cons] at hx ⊢
    rcases hx with h | h | h | h | h
    · exact .inl h
    · exact .inr (.inl h)
    · exact .inr (.inr (.inl (.inl h)))
    · exact .inr (.inr (.inl (.inr h)))
    · exact .inr (.inr (.inr h))
  · have q := R.keep x u hx hi
    by_cases hxa : x = a
    · subst hxa
      rcases io x (by simp) with h | h
      · exact absurd h hi
      · rw [h] at hx; cases hx
    · rw [un x hxa]; exact q

/-! ### list comprehensions -/
def M.noX {α : Type} (m : M α) : M α := fun e => match m e with
  | some (.ok a, e') => some (.ok a, e')
  | _ => none
theorem Mwp.noX {α : Type} {m : M α} {e : DEnv} {Qo : α → DEnv → Prop} {Qx Qy : Xn → DEnv → Prop} (h : Mwp (M.noX m e) Qo Qx) : Mwp (m e) Qo Qy := by
  unfold M.noX at h
  cases q : m e with
  | none => rw [q] at h; exact h.elim
  | some r =>
    obtain ⟨r, e'⟩ := r
    rw [q] at h
    cases r with
    | ok a => exact h
    | ex x => exact h.elim
def mMap (vs : List Nat) (a : OD → DEnv → Option DEnv) (mt : M Bool) (me : M OD) : List PyData → List OD → M (List OD)
  | [], acc => M.ret acc
  | d :: ds, acc => fun e => match a (.d d) (wipeE e vs) with
    | some e' => M.bind (M.noX mt) (fun k => if k then M.bind (M.noX me) (fun o => mMap vs a mt me ds (acc ++ [o])) else mMap vs a mt me ds acc) e'
    | none => none
def mLc (mi : M (List PyData)) (a : OD → DEnv → Option DEnv) (mt : M Bool) (me : M OD) (vs : List Nat) : M OD := M.bind mi fun ds => if ds.length ≤ sizeLine then M.bind (mMap vs a mt me ds []) (fun os e => some (.ok (.l os), wipeE e vs)) else mStuck
def mYes : M Bool := M.ret true
theorem yes_ok (F : Hp) (σ : L2.St) (H : Hp) (env : DEnv) (hs : List V) (ho : List OD) (Q : Bool → Hp → Prop) (R : Rel X.K S F σ H env hs ho) (q : Mwp (mYes env) (fun b env' => ∀ F' H', Same F F' → Rel X.K S F' σ H' env' hs ho → Q b H') (fun _ _ => False)) : tYes σ H Q := by
  have q' : ∀ F' H', Same F F' → Rel X.K S F' σ H' env hs ho → Q true H' := q
  exact q' F H (Same.refl _) R
def Wf : WX := fun _ _ _ _ => False
/-- the block's context -/
abbrev Blk (X : Cx) (scope : Scope) (P : Cx → Prop) : Prop := ∀ (s : Shared) (H : Hp) (C : Addr) (cl : List (Str × Addr)) (fp : List Addr), P (X.blk s H scope (compEnvC scope cl C X.env) fp)
theorem lc_run {iter : Expr} {own : List (Str × Nat)} {mi : M (List PyData)} {g : TG} {a : OD → DEnv → Option DEnv} {tt : TT} {te : TE} {mt : M Bool} {me : M OD}
    (hi : DIt X S W tg iter mi) (ga : GSpec X.K S (own.map (·.2)) g a) (hp : ∀ p ∈ S.pin, p.1 ∉ own.map (·.2))
    (ht : ∀ (F : Hp) (σ : L2.St) (H : Hp) (env : DEnv) (hs : List V) (ho : List OD) (Q : Bool → Hp → Prop), Rel X.K S F σ H env hs ho → Mwp (mt env) (fun b env' => ∀ F' H', Same F F' → Rel X.K S F' σ H' env' hs ho → Q b H') (fun _ _ => False) → tt σ H Q)
    (he : ∀ (F : Hp) (σ : L2.St) (H : Hp) (env : DEnv) (hs : List V) (ho : List OD) (Q : VK), Rel X.K S F σ H env hs ho → Mwp (me env) (fun o env' => ∀ F' H' v, Same F F' → Rel X.K S F' σ H' env' (hs ++ [v]) (ho ++ [o]) → Q v H') (fun _ _ => False) → te σ H Q)
    {F : Hp} {σ : L2.St} {H : Hp} {env : DEnv} {hs : List V} {ho : List OD} {Q : VK} (R : Rel X.K S F σ H env hs ho)
    (q : Mwp (mLc mi a mt me (own.map (·.2)) env) (fun o env' => ∀ F' H' v, Same F F' → Rel X.K S F' σ H' env' (hs ++ [v]) (ho ++ [o]) → Q v H') (QX X S W F σ hs ho)) : tLc (WI X tg iter) g tt te (own.map (·.2)) σ H Q := by
  revert ga hp q
  generalize own.map (·.2) = vs
  intro ga hp q
  refine hi F σ H env hs ho _ R ((Mwp.bind q).imp (fun ds e' _ k F' H' J s R' Y => ?_) fun _ _ _ z => z)
  split at k
  · rename_i hz
    have k := Mwp.bind k
    intro Dp hD
    have R0 : Rel X.K S F' (wipe σ vs) H' (wipeE e' vs) (hs ++ []) (ho ++ []) := by simpa using R'.wiped vs hp
    have R1 := R0.newL R.hlen (p := Dp) hD
    refine ⟨fun i m H2 => m = ds.length - i ∧ i ≤ ds.length ∧ ∃ F2 e2 acc, acc.length ≤ i ∧ Same F' F2 ∧ Rel X.K S F2 (wipe σ vs) H2 (wipeE e2 vs) (hs ++ [.ref Dp]) (ho ++ [.l acc]) ∧
      Mwp (mMap vs a mt me (ds.drop i) acc e2) (fun os e3 => Mwp (some (Rs.ok (OD.l os), wipeE e3 vs)) (fun o env' => ∀ F' H' v, Same F F' → Rel X.K S F' σ H' env' (hs ++ [v]) (ho ++ [o]) → Q v H') (QX X S W F σ hs ho)) (QX X S W F σ hs ho),
      ⟨_, rfl, Nat.zero_le _, F', e', [], Nat.le_refl _, Same.refl _, by simpa using R1, k⟩, ?_⟩
    rintro i m H2 ⟨rfl, hi', F2, e2, acc, hacc, s2, R2, k2⟩
    obtain ⟨y1, y2⟩ := Y i F2 (wipe σ vs) H2 (wipeE e2 vs) (hs ++ [.ref Dp]) (ho ++ [.l acc]) s2 R2
    have hl2 : (hs ++ [V.ref Dp]).length = (ho ++ [OD.l acc]).length := by simp [R.hlen]
    by_cases hlt : i < ds.length
    · right
      rw [List.drop_eq_getElem_cons hlt] at k2
      unfold mMap at k2
      cases ea : a (.d ds[i]) (wipeE e2 vs) with
      | none => rw [ea] at k2; exact k2.elim
      | some e3 =>
        rw [ea] at k2
        obtain ⟨go, y⟩ := y1 ds[i] (by simp [hlt])
        refine ⟨go, fun H' => ∃ F2 e2 acc, acc.length ≤ i + 1 ∧ Same F' F2 ∧ Rel X.K S F2 (wipe σ vs) H' (wipeE e2 vs) (hs ++ [.ref Dp]) (ho ++ [.l acc]) ∧
          Mwp (mMap vs a mt me (ds.drop (i + 1)) acc e2) (fun os e3 => Mwp (some (Rs.ok (OD.l os), wipeE e3 vs)) (fun o env' => ∀ F' H' v, Same F F' → Rel X.K S F' σ H' env' (hs ++ [v]) (ho ++ [o]) → Q v H') (QX X S W F σ hs ho)) (QX X S W F σ hs ho),
          fun H' h => ⟨ds.length - (i + 1), by omega, rfl, hlt, h⟩, fun x H' hy => ?_⟩
        obtain ⟨F3, s3, R3⟩ := y x H' hy
        refine ga F3 (wipe σ vs) H' (wipeE e2 vs) e3 x _ _ _ _ R3 hl2 ea fun F4 σ4 s4 w4 R4 => ?_
        have s04 : Same F' F4 := s2.trans (s3.trans s4)
        have ww : wipe (wipe σ vs) vs = wipe σ vs := by
          refine List.ext_getElem? fun j => ?_
          by_cases hj : j ∈ vs
          · cases q1 : (wipe (wipe σ vs) vs)[j]? with
            | none =>
              have z1 := List.getElem?_eq_none_iff.mp q1
              rw [wipe_length] at z1
              exact (List.getElem?_eq_none_iff.mpr z1).symm
            | some o1 =>
              have z1 := (List.getElem?_eq_some_iff.mp q1).1
              rw [wipe_length] at z1
              cases o1 with
              | some u => exact absurd hj (wipe_some q1).2
              | none =>
                cases q2 : (wipe σ vs)[j]? with
                | none => rw [List.getElem?_eq_none_iff] at q2; exact absurd z1 (by omega)
                | some o2 =>
                  cases o2 with
                  | some u => exact absurd hj (wipe_some q2).2
                  | none => rfl
          · rw [wipe_out hj]
        rw [ww] at w4
        refine ⟨w4, ht F4 σ4 H' e3 _ _ _ R4 ((Mwp.noX (Mwp.bind k2)).imp (fun b e5 _ k5 F5 H5 s5 R5 => ?_) fun _ _ _ z => z)⟩
        have back : ∀ {F6 H6 e6 acc'}, Rel X.K S F6 σ4 H6 e6 (hs ++ [.ref Dp]) (ho ++ [.l acc']) → Rel X.K S F6 (wipe σ vs) H6 (wipeE e6 vs) (hs ++ [.ref Dp]) (ho ++ [.l acc']) := fun {F6 H6 e6 acc'} R6 => by
          have := R6.wiped vs hp
          rw [w4] at this
          exact this
        cases b with
        | false =>
          simp only [Bool.false_eq_true, if_false] at k5 ⊢
          exact ⟨F5, e5, acc, by omega, s04.trans s5, back R5, k5⟩
        | true =>
          simp only [if_true] at k5 ⊢
          refine he F5 σ4 H5 e5 _ _ _ R5 ((Mwp.noX (Mwp.bind k5)).imp (fun o e7 _ k7 F7 H7 v s7 R7 => ?_) fun _ _ _ z => z)
          obtain ⟨ws, w1, w2, w3⟩ := Rel.heldPush (us := []) (by simpa [List.append_assoc] using R7) R.hlen
          exact ⟨ws, w1, by omega, F7, e7, acc ++ [o], by simp; omega, (s04.trans s5).trans s7, back w3, k7⟩
    · have e : i = ds.length := by omega
      left
      refine ⟨y2 (by omega), ?_⟩
      rw [e, List.drop_length] at k2
      exact k2 F2 H2 _ (s.trans s2) (R2.unwiped hp)
  · exact k.elim
theorem blk_t {scope : Scope} {c : Expr} {mt : M Bool} (h : Blk X scope fun Y => DT Y S Wf c mt) :
    ∃ tt, Blk X scope (fun Y => PTs Y [c] tt) ∧ ∀ (F : Hp) (σ : L2.St) (H : Hp) (env : DEnv) (hs : List V) (ho : List OD) (Q : Bool → Hp → Prop), Rel X.K S F σ H env hs ho → Mwp (mt env) (fun b env' => ∀ F' H', Same F F' → Rel X.K S F' σ H' env' hs ho → Q b H') (fun _ _ => False) → tt σ H Q := by
  refine ⟨fun σ H Q => Blk X scope fun Y => WT Y c σ H Q, fun s H0 C cl fp => pts_one ⟨fun pins s' σ H Q I h => (h s H0 C cl fp).run pins s' I⟩, fun F σ H env hs ho Q R q s H0 C cl fp => ?_⟩
  exact h s H0 C cl fp F σ H env hs ho Q R (q.imp (fun _ _ _ z => z) fun _ _ _ z => z.elim)
theorem blk_e {scope : Scope} {c : Expr} {me : M OD} (h : Blk X scope fun Y => DE Y S Wf c me) :
    ∃ te, Blk X scope (fun Y => PE Y c te) ∧ ∀ (F : Hp) (σ : L2.St) (H : Hp) (env : DEnv) (hs : List V) (ho : List OD) (Q : VK), Rel X.K S F σ H env hs ho → Mwp (me env) (fun o env' => ∀ F' H' v, Same F F' → Rel X.K S F' σ H' env' (hs ++ [v]) (ho ++ [o]) → Q v H') (fun _ _ => False) → te σ H Q := by
  refine ⟨fun σ H Q => Blk X scope fun Y => WE Y c σ H Q, fun s H0 C cl fp => ⟨fun pins s' σ H Q I h => (h s H0 C cl fp).run pins s' I⟩, fun F σ H env hs ho Q R q s H0 C cl fp => ?_⟩
  exact h s H0 C cl fp F σ H env hs ho Q R (q.imp (fun _ _ _ z => z) fun _ _ _ z => z.elim)
theorem de_lc {elt iter : Expr} {scope : Scope} {own : List (Str × Nat)} {pos : Pos} {mi : M (List PyData)} {g : TG} {a : OD → DEnv → Option DEnv} {me : M OD} (hc : X.calm = true) (hN : X.N.Nodup)
    (hi : DIt X S W tg iter mi) (ok : blkC X.N X.env.scope scope own = true) (hg : Blk X scope fun Y => PG Y tg g) (ga : GSpec X.K S (own.map (·.2)) g a) (hp : ∀ p ∈ S.pin, p.1 ∉ own.map (·.2)) (he : Blk X scope fun Y => DE Y S Wf elt me)
    (hs : ∀ x, foldedSetIterable iter X.env x = pure x := by intro _; rfl) : DE X S W (.ListComp elt [⟨tg, iter, [], 0⟩] scope pos) (mLc mi a mYes me (own.map (·.2))) := by
  obtain ⟨te, h1, h2⟩ := blk_e he
  intro F σ H env hs' ho Q R q
  refine WE.of (pe_lc hc hN (pi_wi X tg iter) (blkOk_by ok) hg (fun _ _ _ _ _ => pts_nil) h1 hs) ?_
  exact lc_run hi ga hp yes_ok h2 R q
theorem de_lcIf {elt iter c : Expr} {scope : Scope} {own : List (Str × Nat)} {pos : Pos} {mi : M (List PyData)} {g : TG} {a : OD → DEnv → Option DEnv} {mt : M Bool} {me : M OD} (hc : X.calm = true) (hN : X.N.Nodup)
    (hi : DIt X S W tg iter mi) (ok : blkC X.N X.env.scope scope own = true) (hg : Blk X scope fun Y => PG Y tg g) (ga : GSpec X.K S (own.map (·.2)) g a) (hp : ∀ p ∈ S.pin, p.1 ∉ own.map (·.2)) (ht : Blk X scope fun Y => DT Y S Wf c mt) (he : Blk X scope fun Y => DE Y S Wf elt me)
    (hs : ∀ x, foldedSetIterable iter X.env x = pure x := by intro _; rfl) : DE X S W (.ListComp elt [⟨tg, iter, [c], 0⟩] scope pos) (mLc mi a mt me (own.map (·.2))) := by
  obtain ⟨te, h1, h2⟩ := blk_e he
  obtain ⟨tt, h3, h4⟩ := blk_t ht
  intro F σ H env hs' ho Q R q
  refine WE.of (pe_lc hc hN (pi_wi X tg iter) (blkOk_by ok) hg h3 h1 hs) ?_
  exact lc_run hi ga hp h4 h2 R q
/-- name = [..] on one line -/
theorem ds_setLc {i : Nat} {y : Str} {py : Pos} {elt iter : Expr} {ifs : List Expr} {scope : Scope} {own : List (Str × Nat)} {pos spos : Pos} {mi : M (List PyData)} {g : TG} {a : OD → DEnv → Option DEnv} {mt : M Bool} {me : M OD} (hc : X.calm = true) (hN : X.N.Nodup)
    (hi : DIt X S W tg iter mi) (ok : blkC X.N X.env.scope scope own = true) (hg : Blk X scope fun Y => PG Y tg g) (ga : GSpec X.K S (own.map (·.2)) g a) (hp : ∀ p ∈ S.pin, p.1 ∉ own.map (·.2)) (hpi : ∀ p ∈ S.pin, p.1 ≠ i) (ht : (ifs = [] ∧ mt = mYes) ∨ ∃ c, ifs = [c] ∧ Blk X scope fun Y => DT Y S Wf c mt) (he : Blk X scope fun Y => DE Y S Wf elt me)
    (hsw : swapsWith (.ListComp elt [⟨tg, iter, ifs, 0⟩] scope pos) (some (.Name y py)) spos.line X.env = pure true := by rfl) (hy : X.N[i]? = some y := by rfl) (hyl : X.env.scope.names.lookup y = some .local := by rfl)
    (hs : ∀ x, foldedSetIterable iter X.env x = pure x := by intro _; rfl) : DS X S W (.Assign [.Name y py] (.ListComp elt [⟨tg, iter, ifs, 0⟩] scope pos) spos) (mAsg (mLc mi a mt me (own.map (·.2))) (aName i)) := by
  obtain ⟨te, h1, h2⟩ := blk_e he
  have hT : ∃ tt, Blk X scope (fun Y => PTs Y ifs tt) ∧ ∀ (F : Hp) (σ : L2.St) (H : Hp) (env : DEnv) (hs : List V) (ho : List OD) (Q : Bool → Hp → Prop), Rel X.K S F σ H env hs ho → Mwp (mt env) (fun b env' => ∀ F' H', Same F F' → Rel X.K S F' σ H' env' hs ho → Q b H') (fun _ _ => False) → tt σ H Q := by
    rcases ht with ⟨rfl, rfl⟩ | ⟨c, rfl, ht⟩
    · exact ⟨tYes, fun _ _ _ _ _ => pts_nil, yes_ok⟩
    · exact blk_t ht
  obtain ⟨tt, h3, h4⟩ := hT
  intro F σ H env D R q
  refine WS.of (ps_setLc hc hN hy hyl hsw (pi_wi X tg iter) (blkOk_by ok) hg h3 h1 hs) ?_
  refine lc_run hi ga hp h4 h2 R ((Mwp.bind q).imp (fun o e' _ k F' H' v s R' => ?_) fun x e _ z => z.q)
  exact asg_fin (gs_name (vs := [i]) hpi (by simp)) R' s k
end
end DL

set_option Elab.async false
set_option linter.all false
set_option autoImplicit false
set_option maxRecDepth 100000
/-! Defs and calls. -/
namespace DL
open PySem PySem.Spec PyProof.Rows L2

/-- a def's promise where nothing is being shown (no repr runs above) -/
structure FnG (P : Program) (w : World) (K : PySem.W.Frag) (mg : Str → Option Value) (base : Heap) (Z : CXT) (k : Nat) (f : Addr) (fd : FuncData) (ps : List Str) (sp : Sp) : Prop where
  cnt : ∀ vs H Q E, sp vs H Q E → vs.length = ps.length
  go : ∀ {A : Around} {outer : List Env} {s : Shared} {H : Hp} {as : Args} {us : List Value} {vs : List V} {Q : VK} {E : XK}, A.guards = some [] → Room k A → Env0 P w K mg base A outer s H → BindsTo s fd as (ps.zip us) →
    Vals vs us → sp vs H Q E → codeAny (model P w) A (.call (.ref f) as) (CR Z outer P w H s Q E) s
theorem FnG.up {P : Program} {w : World} {K : PySem.W.Frag} {mg : Str → Option Value} {base : Heap} {Z : CXT} {j k : Nat} {f : Addr} {fd : FuncData} {ps : List Str} {sp : Sp} (F : FnG P w K mg base Z j f fd ps sp) (h : j ≤ k) : FnG P w K mg base Z k f fd ps sp :=
  ⟨F.cnt, fun hg hr => F.go hg (hr.mono h)⟩
theorem grd_deeper {A : Around} {env : Env} (h : A.guards = some []) : (A.deeper env).guards = some [] := h

/-- the body gives the promise -/
theorem FnG.body {Z : CXT} {P : Program} {w : World} {K : PySem.W.Frag} {mg : Str → Option Value} {base : Heap} {k : Nat} {f : Addr} {name qual : Str} {params : Arguments} {body : List Stmt} {scope : Scope} {dV kV doc pm cdv ct oc : Value} {an od : Option Addr}
    {osl : Array (Option Value)} {N ps : List Str} {sp : Sp} (lk : K.lookup f = some ⟨oc, od, .func (PySem.W.fnOf name qual params body scope dV kV doc pm an cdv ct), osl⟩) (hcd : PySem.W.codeIn K cdv qual = true) (Sc : FnScope N ps scope)
    (cnt : ∀ vs H Q E, sp vs H Q E → vs.length = ps.length)
    (hb : ∀ (A : Around) (outer : List Env) (s : Shared) (H : Hp) (vs : List V) (Q : VK) (E : XK), A.guards = some [] → Room k (A.deeper (envOfC qual scope s.heap.objs.size f cdv)) → K.In base → sp vs H Q E →
      WB (cxOf Z P w K mg base N qual scope f cdv A outer s H E) body { nx := fun _ H' => Q .non H', rt := Q } (start N vs) H) :
    FnG P w K mg base Z (k + 1) f (PySem.W.fnOf name qual params body scope dV kV doc pm an cdv ct) ps sp := by
  refine ⟨cnt, fun {A outer s H as us vs Q E} hg hr e0 bt r hs => ?_⟩
  have inK : K.In s.heap := e0.mod.kin.keeps fun b o e => (e0.bs b o e).1
  have kinds : ∀ y ∈ ps.zip us, scope.names.lookup y.1 = some .local ∨ (scope.names.lookup y.1 = some .cell ∧ ((cellsFrom (s.heap.objs.size + 1) scope.names []).lookup y.1).isSome = true) := by
    intro y hy
    rcases Sc.par y.1 (List.of_mem_zip hy).1 with q | q
    · exact Or.inl q
    · exact Or.inr ⟨q, PySem.W.cellsFrom_some _ _ _ (Or.inl q)⟩
  have room : A.depth < recursionLimit := hr.depth
  refine codeAny_call_function room (inK _ _ lk) rfl Sc.co Sc.gen rfl (PySem.W.codeRec_of inK hcd) (bt _ _ _ _ (wpAny_newFunctionEnv_cells Sc.kind kinds ?_))
  rintro env rfl s1 x
  refine ⟨(e0.mod.nolimit.keeps fun b o e => (e0.bs b o e).1).keeps x.toInCall.keep, codeAny_func ?_⟩
  have I := inv_start (E := E) (CX := Z) Sc hr.hd e0 (cnt _ _ _ _ hs) r x
  refine wpAny_mono ((hb A outer s H vs Q E hg (hr.deeper _) e0.mod.kin hs).run [] s1 I) (fun fl s' q => ?_) fun _ _ q => q
  cases fl with
  | brk => obtain ⟨_, _, _, z⟩ := q; exact z.elim
  | cont => obtain ⟨_, _, _, z⟩ := q; exact z.elim
  | next =>
    obtain ⟨σ', H', J, q⟩ := q
    exact ⟨.non, H', J.os, J.bare, J.base, J.hok, rfl, q⟩
  | ret u =>
    obtain ⟨v, σ', H', J, rv, q⟩ := q
    exact ⟨v, H', J.os, J.bare, J.base, J.hok, rv, q⟩

/-! ### what a def does to data -/
abbrev FSem := List OD → Option (Rs OD × List OD)
/-- the parameter that a def may change -/
def pick (io : Option Nat) (vs : List V) : List V := match io with
  | none => []
  | some j => (vs[j]?).toList
def outs (io : Option Nat) (e : DEnv) : Option (List OD) := match io with
  | none => some []
  | some j => match e[j]? with
    | some (some o) => some [o]
    | _ => none
def startE (n : Nat) (os : List OD) : DEnv := os.map some ++ List.replicate (n - os.length) none
def semD (io : Option Nat) (n : Nat) (m : M Fl) : FSem := fun os => match m (startE n os) with
  | some (.ok (.rt o), e) => (outs io e).map fun l => (.ok o, l)
  | some (.ok .nx, e) => (outs io e).map fun l => (.ok (.d .none), l)
  | some (.ex x, e) => (outs io e).map fun l => (.ex x, l)
  | _ => none
/-- nothing owned but the def's io parameter -/
def OD.still : OD → Bool
  | .d _ => true
  | .s _ => true
  | _ => false
def okArgs (io : Option Nat) (os : List OD) : Prop := ∀ j o, os[j]? = some o → io ≠ some j → o.still = true
/-- behind a call -/
structure Post (K : PySem.W.Frag) (F H : Hp) (fp : List Addr) (io : Option Nat) (vs : List V) (F' H' : Hp) (os' : List OD) (hs : List V) (ho : List OD) : Prop where
  f : Same F F'
  sub : Same F' H'
  reps : ∃ fp1 fp2, OReps K F' H' (pick io vs) os' fp1 ∧ OReps K F' H' hs ho fp2 ∧ (fp1 ++ fp2).Nodup ∧ ∀ x ∈ fp1 ++ fp2, x ∈ fp ∨ H x = none
  keep : ∀ x o, H x = some o → x ∉ fp → H' x = some o
  new : ∀ x, F' x ≠ none → F x ≠ none ∨ H x = none ∨ x ∈ fp
def FWp (r : Option (Rs OD × List OD)) (Qo : OD → List OD → Prop) (Qx : Xn → List OD → Prop) : Prop := match r with
  | some (.ok o, os) => Qo o os
  | some (.ex x, os) => Qx x os
  | none => False
def spD (K : PySem.W.Frag) (mg : Str → Option Value) (n : Nat) (io : Option Nat) (fs : FSem) : Sp := fun vs H Q E => vs.length = n ∧ ∃ F os fp, Same F H ∧ OReps K F H vs os fp ∧ fp.Nodup ∧ okArgs io os ∧
  FWp (fs os) (fun o os' => ∀ F' H' v, Post K F H fp io vs F' H' os' [v] [o] → Q v H') (fun x os' => ∀ F' H' cls d, Post K F H fp io vs F' H' os' [] [] → XR K mg F' H' x cls d → E cls d H')

section
variable {K : PySem.W.Frag} {F H : Hp} {S : Sx}
theorem start_rep : ∀ {vs : List V} {os : List OD} {fp : List Addr} (n : Nat), OReps K F H vs os fp → ERep K F H (vs.map some ++ List.replicate n none) (os.map some ++ List.replicate n none) fp
  | [], [], _, n, h => by
    cases h
    induction n with
    | zero => exact .nil
    | succ n ih =>
      simp only [List.map_nil, List.nil_append, List.replicate_succ] at ih ⊢
      exact .un ih
  | _ :: _, [], _, _, h => by have := h.len; simp at this
  | [], _ :: _, _, _, h => by have := h.len; simp at this
  | v :: vs, o :: os, fp, n, h => by
    obtain ⟨f1, f2, a, b, rfl⟩ := h.inv
    exact .so a (start_rep n b)
def pinsOf (io : Option Nat) (vs : List V) : List (Nat × V) := match io with
  | none => []
  | some j => (vs[j]?).toList.map fun v => (j, v)
theorem pick_rep {io : Option Nat} {vs : List V} {F' H' : Hp} {σ' : L2.St} {e : DEnv} {os' : List OD} {hs : List V} {ho : List OD} (R : Rel K S F' σ' H' e hs ho) (hj : ∀ j, io = some j → j < vs.length) (hp : S.pin = pinsOf io vs) (ho' : outs io e = some os') :
    ∃ fp1 fp2, OReps K F' H' (pick io vs) os' fp1 ∧ OReps K F' H' hs ho fp2 ∧ (fp1 ++ fp2).Nodup ∧ ∀ x ∈ fp1 ++ fp2, x ∈ S.io ∨ S.H0 x = none := by
  obtain ⟨f1, f2, a, b, nd, io'⟩ := R.rep
  cases io with
  | none =>
    cases ho'
    exact ⟨[], f2, .nil, b, (List.nodup_append.mp nd).2.1, fun x hx => io' x (by simpa using .inr (by simpa using hx))⟩
  | some j =>
    simp only [outs] at ho'
    split at ho'
    · rename_i o eo
      cases ho'
      obtain ⟨v, fpi, rest, h1, h2, h3, _⟩ := a.at eo
      cases hv : vs[j]? with
      | none =>
        have h1 := hj j rfl
        rw [List.getElem?_eq_none_iff] at hv
        omega
      | some u =>
        have hpin := R.pin (j, u) (by rw [hp]; simp [pinsOf, hv])
        simp only at hpin
        rw [h1] at hpin
        cases hpin
        have pk : pick (some j) vs = [v] := by simp [pick, hv]
        rw [pk]
        have pm : (f1 ++ f2).Perm (rest ++ (fpi ++ f2)) := by
          have := (h3.append_right f2).trans (List.Perm.append_right f2 (List.perm_append_comm (l₁ := fpi) (l₂ := rest)))
          rw [List.append_assoc] at this
          exact this
        exact ⟨fpi, f2, h2, b, (List.nodup_append.mp (pm.nodup_iff.mp nd)).2.1, fun x hx => io' x (pm.mem_iff.mpr (List.mem_append_right _ hx))⟩
    · cases ho'

/-- the sets' facts at a def's entry -/
def entS (H F : Hp) (fp : List Addr) (io : Option Nat) (vs : List V) : Sx := ⟨H, F, fp, pinsOf io vs⟩
theorem ent_pins {H F : Hp} {fp : List Addr} {io : Option Nat} {vs : List V} {i : Nat} (h : io ≠ some i) : ∀ p ∈ (entS H F fp io vs).pin, p.1 ≠ i := by
  intro p hp
  cases io with
  | none => simp [entS, pinsOf] at hp
  | some j =>
    simp only [entS, pinsOf, List.mem_map] at hp
    obtain ⟨v, _, rfl⟩ := hp
    exact fun z => h (by rw [← z])
theorem entry {n : Nat} {vs : List V} {os : List OD} {fp : List Addr} {io : Option Nat} (hs : Same F H) (h : OReps K F H vs os fp) (nd : fp.Nodup) : Rel K (entS H F fp io vs) F (vs.map some ++ List.replicate n none) H (os.map some ++ List.replicate n none) [] [] := by
  refine ⟨hs, ⟨fp, [], start_rep n h, .nil, by simpa using nd, fun x hx => .inl (show x ∈ fp by simpa using hx)⟩, fun x o e _ => e, fun x hx => .inl hx, Same.refl _, fun p hp => ?_⟩
  cases io with
  | none => simp [entS, pinsOf] at hp
  | some j =>
    simp only [entS, pinsOf, List.mem_map] at hp
    obtain ⟨v, hv, rfl⟩ := hp
    have hv' : vs[j]? = some v := by
      cases q : vs[j]? with
      | none => rw [q] at hv; simp at hv
      | some u => rw [q] at hv; simp at hv; rw [hv]
    have := (List.getElem?_eq_some_iff.mp hv').1
    show (vs.map some ++ List.replicate n none)[j]? = some (some v)
    rw [List.getElem?_append_left (by simpa using this), List.getElem?_map, hv']
    rfl
theorem post_of {io : Option Nat} {vs : List V} {fp : List Addr} {F' H' : Hp} {σ' : L2.St} {e : DEnv} {os' : List OD} {hs : List V} {ho : List OD} (s : Same F F') (R : Rel K (entS H F fp io vs) F' σ' H' e hs ho) (hj : ∀ j, io = some j → j < vs.length) (h : outs io e = some os') :
    Post K F H fp io vs F' H' os' hs ho := ⟨s, R.sub, pick_rep R hj rfl h, R.keep, R.new⟩
/-- a body's judgement gives what WB wants -/
theorem body_wb {X : Cx} {body : List Stmt} {m : M Fl} {vs : List V} {H : Hp} {Q : VK} {E : XK} {n : Nat} {io : Option Nat} (hj : ∀ j, io = some j → j < n) (hN : X.N.length ≥ n) (hsp : spD X.K X.mg n io (semD io X.N.length m) vs H Q E)
    (hb : ∀ F os fp, Same F H → OReps X.K F H vs os fp → okArgs io os → DB X (entS H F fp io vs) (fun cls d _ H => E cls d H) body m) : WB X body { nx := fun _ H' => Q .non H', rt := Q } (start X.N vs) H := by
  obtain ⟨hn, F, os, fp, s, r, nd, ok, k⟩ := hsp
  have hj' : ∀ j, io = some j → j < vs.length := fun j e => by rw [hn]; exact hj j e
  have hl : vs.length = os.length := r.len
  have R := entry (n := X.N.length - vs.length) (io := io) s r nd
  refine hb F os fp s r ok F _ H (startE X.N.length os) _ ?_ ?_
  · unfold startE
    rw [← hl]
    exact R
  · unfold semD at k
    cases q : m (startE X.N.length os) with
    | none => rw [q] at k; exact k.elim
    | some p =>
      obtain ⟨p, e⟩ := p
      rw [q] at k
      cases p with
      | ex x =>
        simp only at k
        cases ho : outs io e with
        | none => rw [ho] at k; exact k.elim
        | some os' =>
          rw [ho] at k
          exact fun F' σ' H' cls d s' R' xr => k F' H' cls d (post_of s' R' hj' ho) xr
      | ok fl =>
        cases fl with
        | bk => exact k.elim
        | ct => exact k.elim
        | rt o =>
          simp only at k
          cases ho : outs io e with
          | none => rw [ho] at k; exact k.elim
          | some os' =>
            rw [ho] at k
            exact fun F' σ' H' v s' R' => k F' H' v (post_of s' R' hj' ho)
        | nx =>
          simp only at k
          cases ho : outs io e with
          | none => rw [ho] at k; exact k.elim
          | some os' =>
            rw [ho] at k
            exact fun F' σ' H' s' R' => k F' H' .non (post_of s' (R'.push (.non .nil)) hj' ho)

/-! ### the caller's side -/
theorem rdb_still : ∀ {vs : List V} {os : List OD}, Rdb K F H vs os → (∀ o ∈ os, o.still = true) → OReps K F H vs os []
  | _, _, .nil, _ => .nil
  | _, _, .cons (o := o) (fp := fp) h r, hs => by
    have r' := rdb_still r fun o ho => hs o (List.mem_cons_of_mem _ ho)
    have := hs o List.mem_cons_self
    cases o with
    | d x =>
      have := (ORp.mkd (H := H) (ORp.d_inv h).2).cons r'
      simpa using this
    | s ns =>
      obtain ⟨a, rfl, q⟩ := ORp.s_inv h
      exact .s q r'
    | l os => simp [OD.still] at this
    | m ks os => simp [OD.still] at this
/-- back from a call that changes nothing of ours -/
theorem Rel.back {σ : L2.St} {env : DEnv} {hs : List V} {ho : List OD} {F' H' : Hp} {vs ws : List V} {os' us : List OD} (R : Rel K S F σ H env hs ho) (p : Post K F H [] none vs F' H' os' ws us) : Rel K S F' σ H' env (hs ++ ws) (ho ++ us) := by
  obtain ⟨f1, f2, a, b, nd, io⟩ := R.rep
  obtain ⟨g1, g2, c, d, nd2, io2⟩ := p.reps
  have kH : ∀ x ∈ f1 ++ f2, F' x = none ∧ H' x = H x := fun x hx => by
    have fx : F x = none ∧ ∃ o, H x = some o := by
      rcases List.mem_append.mp hx with h | h
      · exact a.fnone x h
      · exact b.fnone x h
    obtain ⟨fx, o, e⟩ := fx
    refine ⟨?_, by rw [e]; exact p.keep x o e (by simp)⟩
    cases q : F' x with
    | none => rfl
    | some u =>
      rcases p.new x (by rw [q]; simp) with h | h | h
      · exact absurd fx h
      · rw [e] at h; cases h
      · simp at h
  have fr : ∀ x ∈ g2, H x = none := fun x hx => by
    rcases io2 x (List.mem_append_right _ hx) with h | h
    · simp at h
    · exact h
  refine ⟨p.sub, ⟨f1, f2 ++ g2, a.change p.f fun x hx => kH x (List.mem_append_left _ hx), (b.change p.f fun x hx => kH x (List.mem_append_right _ hx)).app d, ?_, fun x hx => ?_⟩, fun x o e hx => p.keep x o (R.keep x o e hx) (by simp), fun x hx => ?_, R.f0.trans p.f, R.pin⟩
  · rw [← List.append_assoc]
    refine List.nodup_append.mpr ⟨nd, (List.nodup_append.mp nd2).2.1, fun x hx y hy z => ?_⟩
    subst z
    have e : H x ≠ none := by
      rcases List.mem_append.mp hx with h | h
      · obtain ⟨_, o, e⟩ := a.fnone x h; rw [e]; simp
      · obtain ⟨_, o, e⟩ := b.fnone x h; rw [e]; simp
    exact e (fr x hy)
  · rw [← List.append_assoc] at hx
    rcases List.mem_append.mp hx with h | h
    · exact io x h
    · exact R.notin (fr x h)
  · rcases p.new x hx with h | h | h
    · exact R.new x h
    · rcases R.notin h with z | z
      · exact .inr (.inr z)
      · exact .inr (.inl z)
    · simp at h
/-- back from a call that may have changed the thing in slot i -/
theorem Rel.backIo {σ : L2.St} {env : DEnv} {hs : List V} {ho : List OD} {i : Nat} {o : OD} (R : Rel K S F σ H env hs ho) (e : env[i]? = some (some o)) :
    ∃ v fp, σ[i]? = some (some v) ∧ ORp K F H v o fp ∧ fp.Nodup ∧ ∀ (F' H' : Hp) (vs ws : List V) (o' : OD) (us : List OD) (j : Nat), vs[j]? = some v → Post K F H fp (some j) vs F' H' [o'] ws us → Rel K S F' σ H' (env.set i (some o')) (hs ++ ws) (ho ++ us) := by
  obtain ⟨f1, f2, a, b, nd, io⟩ := R.rep
  obtain ⟨v, fpi, rest, h1, h2, h3, h4⟩ := a.at e
  have nd' := nodup_perm_app nd h3
  have ndi : fpi.Nodup := by rw [List.append_assoc] at nd'; exact (List.nodup_append.mp nd').1
  have dj : ∀ x ∈ rest ++ f2, x ∉ fpi := fun x hx q => by
    rw [List.append_assoc] at nd'
    exact (List.nodup_append.mp nd').2.2 x q x hx rfl
  refine ⟨v, fpi, h1, h2, ndi, fun F' H' vs ws o' us j hj p => ?_⟩
  obtain ⟨g1, g2, c, d, nd2, io2⟩ := p.reps
  have pk : pick (some j) vs = [v] := by simp [pick, hj]
  rw [pk] at c
  have kH : ∀ x ∈ rest ++ f2, F' x = none ∧ H' x = H x := fun x hx => by
    have fx : F x = none ∧ ∃ o, H x = some o := by
      rcases List.mem_append.mp hx with h | h
      · exact a.fnone x (h3.mem_iff.mpr (List.mem_append_right _ h))
      · exact b.fnone x h
    obtain ⟨fx, o, e⟩ := fx
    refine ⟨?_, by rw [e]; exact p.keep x o e (dj x hx)⟩
    cases q : F' x with
    | none => rfl
    | some u =>
      rcases p.new x (by rw [q]; simp) with h | h | h
      · exact absurd fx h
      · rw [e] at h; cases h
      · exact absurd h (dj x hx)
  obtain ⟨fp', q1, q2⟩ := h4 F' H' v o' g1 p.f (fun x hx => kH x (List.mem_append_left _ hx)) c
  have hσ : σ.set i (some v) = σ := List.ext_getElem? fun j => by
    rw [List.getElem?_set]
    by_cases hj : i = j
    · subst hj
      rw [if_pos rfl, h1]
      have := (List.getElem?_eq_some_iff.mp h1).1
      rw [if_pos this]
    · rw [if_neg hj]
  rw [hσ] at q1
  have inIo : ∀ x ∈ g1 ++ g2, x ∈ S.io ∨ S.H0 x = none := fun x hx => by
    rcases io2 x hx with h | h
    · exact io x (List.mem_append_left _ (h3.mem_iff.mpr (List.mem_append_left _ h)))
    · exact R.notin h
  have ne : ∀ x ∈ rest ++ f2, x ∉ g1 ++ g2 := fun x hx z => by
    rcases io2 x z with h | h
    · exact dj x hx h
    · have e : H x ≠ none := by
        rcases List.mem_append.mp hx with h | h
        · obtain ⟨_, o, e⟩ := a.fnone x (h3.mem_iff.mpr (List.mem_append_right _ h)); rw [e]; simp
        · obtain ⟨_, o, e⟩ := b.fnone x h; rw [e]; simp
      exact e h
  have pm : (fp' ++ (f2 ++ g2)).Perm ((g1 ++ g2) ++ (rest ++ f2)) := by
    have e1 : (fp' ++ (f2 ++ g2)).Perm ((g1 ++ rest) ++ (g2 ++ f2)) := (q2.append_right _).trans (List.Perm.append_left _ List.perm_append_comm)
    refine e1.trans ?_
    rw [List.append_assoc, List.append_assoc]
    refine List.Perm.append_left g1 ?_
    rw [← List.append_assoc, ← List.append_assoc]
    exact List.perm_append_comm.append_right f2
  refine ⟨p.sub, ⟨fp', f2 ++ g2, q1, (b.change p.f fun x hx => kH x (List.mem_append_right _ hx)).app d, ?_, fun x hx => ?_⟩, fun x o e hx => ?_, fun x hx => ?_, R.f0.trans p.f, R.pin⟩
  · refine pm.nodup_iff.mpr (List.nodup_append.mpr ⟨nd2, ?_, fun x hx y hy z => ?_⟩)
    · rw [List.append_assoc] at nd'
      exact (List.nodup_append.mp nd').2.1
    · subst z
      exact ne x hy hx
  · rcases List.mem_append.mp (pm.mem_iff.mp hx) with h | h
    · exact inIo x h
    · rcases List.mem_append.mp h with h | h
      · exact io x (List.mem_append_left _ (h3.mem_iff.mpr (List.mem_append_right _ h)))
      · exact io x (List.mem_append_right _ h)
  · by_cases hi : x ∈ fpi
    · rcases io x (List.mem_append_left _ (h3.mem_iff.mpr (List.mem_append_left _ hi))) with h | h
      · exact absurd h hx
      · rw [h] at e; cases e
    · exact p.keep x o (R.keep x o e hx) hi
  · rcases p.new x hx with h | h | h
    · exact R.new x h
    · rcases R.notin h with z | z
      · exact .inr (.inr z)
      · exact .inr (.inl z)
    · rcases io x (List.mem_append_left _ (h3.mem_iff.mpr (List.mem_append_left _ h))) with z | z
      · exact .inr (.inr z)
      · exact .inr (.inl z)
end

/-! ### calls -/
def allStill (os : List OD) : Bool := os.all OD.still
def mCall (fs : FSem) (qs : List Opd) : M OD := M.bind (args qs) fun hes e => match rds e hes with
  | none => none
  | some os => if allStill os then match fs os with
    | some (r, []) => some (r, e)
    | _ => none
    else none
/-- the j-th argument is a slot's thing that the def may change -/
def mCallIo (j : Nat) (fs : FSem) (qs : List Opd) : M OD := M.bind (args qs) fun hes e => match rds e hes with
  | none => none
  | some os => match hes[j]? with
    | some (.al i) => if allStill (os.eraseIdx j) then match fs os with
      | some (r, [o']) => some (r, e.set i (some o'))
      | _ => none
      else none
    | _ => none
/-- a def that may be called by its name -/
structure CalD (P : Program) (w : World) (K : PySem.W.Frag) (mg : Str → Option Value) (base : Heap) (Z : CXT) (k : Nat) (x : Str) (ps : List Str) (io : Option Nat) (fs : FSem) : Prop where
  ex : ∃ (f : Addr) (fd : FuncData), FnG P w K mg base Z k f fd ps (spD K mg ps.length io fs) ∧ mg x = some (.ref f) ∧ PySem.W.keepIn K (.ref f) = true ∧ Binds K fd ps []
section
variable {X : Cx} {S : Sx} {W : WX} {Z : CXT}
theorem args_len : ∀ {qs : List Opd} {env env' : DEnv} {hes : List HE}, args qs env = some (.ok hes, env') → hes.length = qs.length
  | [], _, _, _, h => by cases h; rfl
  | q :: qs, env, env', hes, h => by
    unfold args M.bind at h
    cases q1 : q.go env with
    | none => rw [q1] at h; cases h
    | some r =>
      obtain ⟨r, e1⟩ := r
      rw [q1] at h
      cases r with
      | ex x => cases h
      | ok he =>
        simp only [M.bind] at h
        cases q2 : args qs e1 with
        | none => rw [q2] at h; cases h
        | some r2 =>
          obtain ⟨r2, e2⟩ := r2
          rw [q2] at h
          cases r2 with
          | ex x => cases h
          | ok hes2 =>
            cases h
            simp [args_len q2]
theorem mt_len {σ : L2.St} {hes vs hvs hos} (m : Mt σ hes vs hvs hos) : hes.length = vs.length := by
  induction m with
  | nil => rfl
  | o _ ih => simp [ih]
  | al _ _ ih => simp [ih]
theorem mt_al {σ : L2.St} {hes vs hvs hos} {j i : Nat} (m : Mt σ hes vs hvs hos) (h : hes[j]? = some (.al i)) : ∃ v, vs[j]? = some v ∧ σ[i]? = some (some v) := by
  induction m generalizing j with
  | nil => simp at h
  | o _ ih =>
    cases j with
    | zero => simp at h
    | succ j => exact ih (by simpa using h)
  | al hh _ ih =>
    cases j with
    | zero =>
      simp at h
      subst h
      exact ⟨_, by simp, hh⟩
    | succ j => exact ih (by simpa using h)
theorem rds_at {env : DEnv} : ∀ {hes : List HE} {os : List OD} {j : Nat} {h : HE}, rds env hes = some os → hes[j]? = some h → ∃ o, os[j]? = some o ∧ h.rd env = some o
  | [], _, _, _, _, h => by simp at h
  | h0 :: hes, os, j, h, e, hj => by
    simp only [rds] at e
    cases q1 : h0.rd env with
    | none => rw [q1] at e; cases e
    | some o =>
      rw [q1] at e
      cases q2 : rds env hes with
      | none => rw [q2] at e; cases e
      | some os' =>
        rw [q2] at e
        cases e
        cases j with
        | zero =>
          simp at hj
          subst hj
          exact ⟨o, by simp, q1⟩
        | succ j => exact (rds_at q2 (by simpa using hj)).imp fun o ho => by simpa using ho
/-- one of the operands owned, the others still -/
theorem rdb_io {K : PySem.W.Frag} {F H : Hp} : ∀ {vs : List V} {os : List OD} {j : Nat} {v : V} {o : OD} {fp : List Addr}, Rdb K F H vs os → vs[j]? = some v → os[j]? = some o → ORp K F H v o fp → (∀ u ∈ os.eraseIdx j, u.still = true) → OReps K F H vs os fp
  | _, _, j, _, _, _, .nil, h, _, _, _ => by simp at h
  | _, _, 0, _, _, fp, .cons h r, h1, h2, h3, hs => by
    simp at h1 h2
    subst h1
    subst h2
    have := h3.cons (rdb_still r (by simpa using hs))
    simpa using this
  | _, _, j + 1, _, _, fp, .cons (o := o) h r, h1, h2, h3, hs => by
    simp only [List.eraseIdx_cons_succ, List.mem_cons, forall_eq_or_imp] at hs
    have r' := rdb_io r (by simpa using h1) (by simpa using h2) h3 hs.2
    have := hs.1
    cases o with
    | d x =>
      have := (ORp.mkd (H := H) (ORp.d_inv h).2).cons r'
      simpa using this
    | s ns =>
      obtain ⟨a, rfl, q⟩ := ORp.s_inv h
      exact .s q r'
    | l os => simp [OD.still] at this
    | m ks os => simp [OD.still] at this
theorem run_g {k : Nat} {f : Addr} {fd : FuncData} {ps : List Str} {sp : Sp} {pins : List (Addr × Obj)} {σ : L2.St} {H : Hp} {s : Shared} {Q : VK} {E : XK} {as : Args} {us : List Value} {vs : List V} (F : FnG X.prog X.w X.K X.mg X.base Z k f fd ps sp) (hr : Room k X.A) (hg : X.A.guards = some [])
    (hx : PassesAt Z X σ E) (I : Inv X pins σ H s) (bt : BindsTo s fd as (ps.zip us)) (r : Vals vs us) (h : sp vs H Q E) : wpAny (model X.prog X.w) X.A (call (.ref f) as.pos as.kw) (EP X pins σ Q) X.xe s := by
  refine wpAny_call (codeAny_mono (F.go hg hr I.env0 bt r h) fun r s' q => ?_)
  match r, q with
  | .error e, q => exact hx pins H s e s' I q
  | .ok (.ret u), q => exact I.after q
/-- f(e, ..) -/
theorem call_core {k : Nat} {x : Str} {ps : List Str} {io : Option Nat} {fs : FSem} {e : Expr} {es : List Expr} {p pos : Pos} {Q : VK} {σ : L2.St} {H : Hp} (C : CalD X.prog X.w X.K X.mg X.base Z k x ps io fs) (hr : Room k X.A) (hg : X.A.guards = some []) (hx : ∀ σ, PassesAt Z X σ fun cls d H => W cls d σ H)
    (hgl : Gl X x) (hdb : (x == ("__debug__" : Str)) = false) (hst : starEach (e :: es) X.env = (false, eval e X.env) :: starEach es X.env) (hpl : (backTo pos (starEach es X.env)).any (·.1) = false)
    (h : WA X (e :: es) σ H fun vs H1 => spD X.K X.mg ps.length io fs vs H1 Q fun cls d H2 => W cls d σ H2) : WE X (.Call (.Name x p) (e :: es) [] pos) σ H Q := by
  obtain ⟨f, fd, F, hm, hk, bd⟩ := C.ex
  refine ⟨fun pins s I => ?_⟩
  refine wpAny_Call_Name_kw (ld_glob I hgl hm ?_ hdb)
  refine PySem.W.callWith_K (h₀ := X.base) I.ok.mod.kin hk (thn ((pa_wa X (e :: es)).run pos pins s σ H _ I h) ?_) hst hpl
  rintro us s1 ⟨vs, H1, I1, r, q⟩
  have hl : (us ++ ([] : List Value)).length = ps.length := by
    rw [List.append_nil, ← r.length]
    exact F.cnt _ _ _ _ q
  refine ⟨I1.kIn, ?_⟩
  have b := bd s1 us I1.kIn hl
  rw [List.append_nil] at b
  exact run_g (as := ⟨us, []⟩) F hr hg (hx σ) I1 b r q
theorem call_end {n : Nat} {fs : FSem} {F F' H' : Hp} {σ : L2.St} {env' : DEnv} {hs hvs : List V} {ho hos : List OD} {hes : List HE} {vs : List V} {Q : VK} (hl : hs.length = ho.length) (hn : vs.length = n) (s : Same F F') (mt : Mt σ hes vs hvs hos) (R : Rel X.K S F' σ H' env' (hs ++ hvs) (ho ++ hos))
    (k : Mwp ((match rds env' hes with
      | none => none
      | some os => if allStill os then match fs os with
        | some (r, []) => some (r, env')
        | _ => none
        else none : Option (Rs OD × DEnv))) (fun o env' => ∀ F' H' v, Same F F' → Rel X.K S F' σ H' env' (hs ++ [v]) (ho ++ [o]) → Q v H') (QX X S W F σ hs ho)) :
    spD X.K X.mg n none fs vs H' Q fun cls d H2 => W cls d σ H2 := by
  cases e : rds env' hes with
  | none => rw [e] at k; exact k.elim
  | some os =>
    rw [e] at k
    simp only at k
    split at k
    · rename_i hst
      have rb := mt.rdb R hl e
      have R0 := R.drop hl
      have hst' : ∀ o ∈ os, o.still = true := by simpa [allStill] using hst
      refine ⟨hn, F', os, [], R.sub, rdb_still rb hst', List.nodup_nil, fun j o ho _ => hst' o (List.mem_of_getElem? ho), ?_⟩
      cases q : fs os with
      | none => rw [q] at k; exact k.elim
      | some p =>
        obtain ⟨r, os'⟩ := p
        rw [q] at k
        cases os' with
        | cons a b => exact k.elim
        | nil =>
          cases r with
          | ok o => exact fun F2 H2 v p => k F2 H2 v (s.trans p.f) (R0.back p)
          | ex x => exact fun F2 H2 cls d p xr => k F2 H2 cls d (s.trans p.f) (by simpa using R0.back p) xr
    · exact k.elim
theorem de_call {k : Nat} {x : Str} {ps : List Str} {fs : FSem} {e : Expr} {es : List Expr} {qs : List Opd} {p pos : Pos} (C : CalD X.prog X.w X.K X.mg X.base Z k x ps none fs) (hr : Room k X.A) (hg : X.A.guards = some []) (hx : ∀ σ, PassesAt Z X σ fun cls d H => W cls d σ H)
    (ha : DAs X S W (e :: es) qs) (hq : qs.length = ps.length) (hgl : Gl X x := by rfl) (hdb : (x == ("__debug__" : Str)) = false := by decide) (hst : starEach (e :: es) X.env = (false, eval e X.env) :: starEach es X.env := by rfl) (hpl : (backTo pos (starEach es X.env)).any (·.1) = false := by rfl) :
    DE X S W (.Call (.Name x p) (e :: es) [] pos) (mCall fs qs) := by
  intro F σ H env hs ho Q R q
  refine call_core C hr hg hx hgl hdb hst hpl (ha.run F σ H env hs ho _ R ((Mwp.bind q).imp (fun hes env' hh k F' H' vs hvs hos s mt R' => ?_) fun _ _ _ z => z))
  exact call_end R.hlen (by rw [← mt_len mt, ← hq]; exact args_len hh) s mt R' k
end
end DL

set_option Elab.async false
set_option linter.all false
set_option autoImplicit false
set_option maxRecDepth 100000
/-! Calls with an own argument, with keywords; a def of the text; the law's own call. -/
namespace DL
open PySem PySem.Spec PyProof.Rows L2
section
variable {X : Cx} {S : Sx} {W : WX} {Z : CXT}
theorem de_callIo {k j : Nat} {x : Str} {ps : List Str} {fs : FSem} {e : Expr} {es : List Expr} {qs : List Opd} {p pos : Pos} (C : CalD X.prog X.w X.K X.mg X.base Z k x ps (some j) fs) (hr : Room k X.A) (hg : X.A.guards = some []) (hx : ∀ σ, PassesAt Z X σ fun cls d H => W cls d σ H)
    (ha : DAs X S W (e :: es) qs) (hq : qs.length = ps.length) (hgl : Gl X x := by rfl) (hdb : (x == ("__debug__" : Str)) = false := by decide) (hst : starEach (e :: es) X.env = (false, eval e X.env) :: starEach es X.env := by rfl) (hpl : (backTo pos (starEach es X.env)).any (·.1) = false := by rfl) :
    DE X S W (.Call (.Name x p) (e :: es) [] pos) (mCallIo j fs qs) := by
  intro F σ H env hs ho Q R q
  refine call_core C hr hg hx hgl hdb hst hpl (ha.run F σ H env hs ho _ R ((Mwp.bind q).imp (fun hes env' hh k F' H' vs hvs hos s mt R' => ?_) fun _ _ _ z => z))
  have hn : vs.length = ps.length := by rw [← mt_len mt, ← hq]; exact args_len hh
  cases e1 : rds env' hes with
  | none => rw [e1] at k; exact k.elim
  | some os =>
    rw [e1] at k
    simp only at k
    cases e2 : hes[j]? with
    | none => rw [e2] at k; exact k.elim
    | some he =>
      rw [e2] at k
      cases he with
      | o y => exact k.elim
      | al i =>
        simp only at k
        split at k
        · rename_i hst'
          have rb := mt.rdb R' R.hlen e1
          have R0 := R'.drop R.hlen
          obtain ⟨v, hv, hσ⟩ := mt_al mt e2
          obtain ⟨o, ho', hrd⟩ := rds_at e1 e2
          simp only [HE.rd] at hrd
          cases q0 : env'[i]? with
          | none => rw [q0] at hrd; cases hrd
          | some oo =>
            rw [q0] at hrd
            simp only [Option.join_some] at hrd
            subst hrd
            obtain ⟨v', fp, h1, h2, nd, bk⟩ := R0.backIo q0
            rw [hσ] at h1
            cases h1
            have hst2 : ∀ u ∈ os.eraseIdx j, u.still = true := by simpa [allStill] using hst'
            refine ⟨hn, F', os, fp, R'.sub, rdb_io rb hv ho' h2 hst2, nd, fun a b hb hne => ?_, ?_⟩
            · refine hst2 b ?_
              have hne' : a ≠ j := fun z => hne (by rw [z])
              rw [List.mem_iff_getElem?]
              rcases Nat.lt_or_ge a j with hlt | hge
              · exact ⟨a, by rw [List.getElem?_eraseIdx_of_lt hlt]; exact hb⟩
              · refine ⟨a - 1, ?_⟩
                rw [List.getElem?_eraseIdx_of_ge (by omega)]
                rw [show a - 1 + 1 = a by omega]
                exact hb
            · cases q : fs os with
              | none => rw [q] at k; exact k.elim
              | some pp =>
                obtain ⟨r, os'⟩ := pp
                rw [q] at k
                match os' with
                | [] => exact k.elim
                | _ :: _ :: _ => exact k.elim
                | [o'] =>
                  cases r with
                  | ok o => exact fun F2 H2 v p => k F2 H2 v (s.trans p.f) (bk F2 H2 vs _ o' _ j hv p)
                  | ex x => exact fun F2 H2 cls d p xr => k F2 H2 cls d (s.trans p.f) (by simpa using bk F2 H2 vs _ o' _ j hv p) xr
        · exact k.elim

/-! ### keywords -/
/-- keywords alone: the arguments as written, then put into the parameters' order -/
def mCallK (perm : List Nat) (fs : FSem) (qs : List Opd) : M OD := M.bind (args qs) fun hes e => match rds e hes with
  | none => none
  | some os => if allStill os then match fs (perm.filterMap fun j => os[j]?) with
    | some (r, []) => some (r, e)
    | _ => none
    else none
structure WKs (X : Cx) (kws : List Keyword) (σ : L2.St) (H : Hp) (Q : List V → Hp → Prop) : Prop where
  run : ∀ (pos : Pos) (pins : List (Addr × Obj)) (s : Shared), Inv X pins σ H s → wpAny (model X.prog X.w) X.A (evalAll ((backToKw pos (keywordEach kws X.env)).map (·.2))) (AP X pins σ Q) X.xe s
def WK (X : Cx) (kws : List Keyword) : TA := fun σ H Q => WKs X kws σ H Q
theorem pk_wk (X : Cx) (kws : List Keyword) : PK X kws (WK X kws) := ⟨fun pos pins s _ _ _ I h => h.run pos pins s I⟩
theorem WK.of {kws : List Keyword} {t : TA} {σ : L2.St} {H : Hp} {Q : List V → Hp → Prop} (h : PK X kws t) (q : t σ H Q) : WK X kws σ H Q := ⟨fun pos pins s I => h.run pos pins s σ H Q I q⟩
def DKs (X : Cx) (S : Sx) (W : WX) (kws : List Keyword) (qs : List Opd) : Prop :=
  ∀ (F : Hp) (σ : L2.St) (H : Hp) (env : DEnv) (hs : List V) (ho : List OD) (Q : List V → Hp → Prop), Rel X.K S F σ H env hs ho →
    Mwp (args qs env) (fun hes env' => ∀ F' H' vs hvs hos, Same F F' → Mt σ hes vs hvs hos → Rel X.K S F' σ H' env' (hs ++ hvs) (ho ++ hos) → Q vs H') (QX X S W F σ hs ho) → WK X kws σ H Q
theorem DKs.nil : DKs X S W [] [] := fun F σ H env hs ho Q R h => WK.of pk_nil (h F H [] [] [] (Same.refl _) .nil (by simpa using R))
theorem DKs.cons {nm : Option Str} {kpos : Pos} {e : Expr} {kws : List Keyword} {q : Opd} {qs : List Opd} (h1 : DO X S W e q) (h2 : DKs X S W kws qs) : DKs X S W (⟨nm, e, kpos⟩ :: kws) (q :: qs) := by
  intro F σ H env hs ho Q R h
  refine WK.of (pk_cons (pe_we X e) (pk_wk X kws)) ?_
  refine h1 F σ H env hs ho _ R ((args_step R.hlen h).imp (fun he env1 _ k F1 H1 v s1 L => ?_) fun _ _ _ x => x)
  obtain ⟨hs1, ho1, R1, k⟩ := k F1 H1 v s1 L
  exact h2 F1 σ H1 env1 hs1 ho1 _ R1 k
/-- how keywords alone bind -/
structure CalK (P : Program) (w : World) (K : PySem.W.Frag) (mg : Str → Option Value) (base : Heap) (Z : CXT) (k : Nat) (x : Str) (ps ks : List Str) (perm : List Nat) (fs : FSem) : Prop where
  ex : ∃ (f : Addr) (fd : FuncData), FnG P w K mg base Z k f fd ps (spD K mg ps.length none fs) ∧ mg x = some (.ref f) ∧ PySem.W.keepIn K (.ref f) = true ∧
    ∀ (s : Shared) (ws : List Value), ws.length = ks.length → BindsTo s fd ⟨[], ks.zip ws⟩ (ps.zip (perm.filterMap fun j => ws[j]?))
theorem vals_perm {vs : List V} {us : List Value} (r : Vals vs us) : ∀ perm : List Nat, Vals (perm.filterMap fun j => vs[j]?) (perm.filterMap fun j => us[j]?)
  | [] => .nil
  | j :: perm => by
    have ih := vals_perm r perm
    simp only [List.filterMap_cons]
    cases q : vs[j]? with
    | none =>
      have : us[j]? = none := by
        rw [List.getElem?_eq_none_iff] at q ⊢
        rw [← r.length]; exact q
      rw [this]
      exact ih
    | some v =>
      obtain ⟨u, hu, ru⟩ := r.get q
      rw [hu]
      exact .cons ru ih
theorem rdb_get {K : PySem.W.Frag} {F H : Hp} : ∀ {vs : List V} {os : List OD} {j : Nat} {o : OD}, Rdb K F H vs os → os[j]? = some o → ∃ v fp, vs[j]? = some v ∧ ORp K F H v o fp
  | _, _, j, _, .nil, h => by simp at h
  | _, _, 0, o, .cons h r, e => by
    simp at e
    subst e
    exact ⟨_, _, by simp, h⟩
  | _, _, j + 1, o, .cons h r, e => by
    obtain ⟨v, fp, h1, h2⟩ := rdb_get r (by simpa using e)
    exact ⟨v, fp, by simpa using h1, h2⟩
theorem rdb_len {K : PySem.W.Frag} {F H : Hp} {vs : List V} {os : List OD} (h : Rdb K F H vs os) : vs.length = os.length := by
  induction h with
  | nil => rfl
  | cons _ _ ih => simp [ih]
theorem rdb_perm {K : PySem.W.Frag} {F H : Hp} {vs : List V} {os : List OD} (r : Rdb K F H vs os) : ∀ perm : List Nat, Rdb K F H (perm.filterMap fun j => vs[j]?) (perm.filterMap fun j => os[j]?)
  | [] => .nil
  | j :: perm => by
    have ih := rdb_perm r perm
    simp only [List.filterMap_cons]
    cases q : os[j]? with
    | none =>
      have : vs[j]? = none := by
        rw [List.getElem?_eq_none_iff] at q ⊢
        rw [rdb_len r]; exact q
      rw [this]
      exact ih
    | some o =>
      obtain ⟨v, fp, hv, rv⟩ := rdb_get r q
      rw [hv]
      exact .cons rv ih
theorem de_callK {k : Nat} {x : Str} {ps ks : List Str} {perm : List Nat} {fs : FSem} {kws : List Keyword} {qs : List Opd} {p pos : Pos} (C : CalK X.prog X.w X.K X.mg X.base Z k x ps ks perm fs) (hr : Room k X.A) (hg : X.A.guards = some []) (hx : ∀ σ, PassesAt Z X σ fun cls d H => W cls d σ H)
    (ha : DKs X S W kws qs) (hq : qs.length = ks.length) (hpm : perm.length = ps.length ∧ ∀ j ∈ perm, j < ks.length) (hall : (backToKw pos (keywordEach kws X.env)).all (·.1.isSome) = true := by rfl) (hks : (backToKw pos (keywordEach kws X.env)).filterMap (·.1) = ks := by rfl)
    (hgl : Gl X x := by rfl) (hdb : (x == ("__debug__" : Str)) = false := by decide) (hpl : ((backTo pos (starEach [] X.env)).any (·.1) || (backToKw pos (keywordEach kws X.env)).any (·.1.isNone)) = false := by rfl) :
    DE X S W (.Call (.Name x p) [] kws pos) (mCallK perm fs qs) := by
  obtain ⟨f, fd, FG, hm, hk, bd⟩ := C.ex
  intro F σ H env hs ho Q R q
  refine ⟨fun pins s I => ?_⟩
  refine wpAny_Call_Name_kw (ld_glob I hgl hm ?_ hdb)
  have main : WK X kws σ H fun zs H1 => zs.length = ks.length ∧ spD X.K X.mg ps.length none fs (perm.filterMap fun j => zs[j]?) H1 Q fun cls d H2 => W cls d σ H2 := by
    refine ha F σ H env hs ho _ R ((Mwp.bind q).imp (fun hes env' hh k F' H' vs hvs hos s mt R' => ?_) fun _ _ _ z => z)
    have hn : vs.length = ks.length := by rw [← mt_len mt, ← hq]; exact args_len hh
    refine ⟨hn, ?_⟩
    cases e : rds env' hes with
    | none => rw [e] at k; exact k.elim
    | some os =>
      rw [e] at k
      simp only at k
      split at k
      · rename_i hst
        have rb := mt.rdb R' R.hlen e
        have R0 := R'.drop R.hlen
        have hst' : ∀ o ∈ os, o.still = true := by simpa [allStill] using hst
        have hst2 : ∀ o ∈ (perm.filterMap fun j => os[j]?), o.still = true := fun o hm => by
          obtain ⟨j, _, hj⟩ := List.mem_filterMap.mp hm
          exact hst' o (List.mem_of_getElem? hj)
        have cntz : ∀ Q' E', spD X.K X.mg ps.length none fs (perm.filterMap fun j => vs[j]?) H' Q' E' → (perm.filterMap fun j => vs[j]?).length = ps.length := fun Q' E' z => z.1
        have hlen : (perm.filterMap fun j => vs[j]?).length = ps.length := by
          rw [← hpm.1]
          have go : ∀ l : List Nat, (∀ j ∈ l, j < vs.length) → (l.filterMap fun j => vs[j]?).length = l.length := by
            intro l
            induction l with
            | nil => intro _; rfl
            | cons j l ih =>
              intro h
              have hj := h j List.mem_cons_self
              simp only [List.filterMap_cons, List.getElem?_eq_getElem hj, List.length_cons]
              rw [ih fun i hi => h i (List.mem_cons_of_mem _ hi)]
          exact go perm fun j hj => by rw [hn]; exact hpm.2 j hj
        refine ⟨hlen, F', _, [], R'.sub, rdb_still (rdb_perm rb perm) hst2, List.nodup_nil, fun j o hj _ => hst2 o (List.mem_of_getElem? hj), ?_⟩
        cases q : fs (perm.filterMap fun j => os[j]?) with
        | none => rw [q] at k; exact k.elim
        | some pp =>
          obtain ⟨r, os'⟩ := pp
          rw [q] at k
          cases os' with
          | cons a b => exact k.elim
          | nil =>
            cases r with
            | ok o => exact fun F2 H2 v p => k F2 H2 v (s.trans p.f) (R0.back p)
            | ex x => exact fun F2 H2 cls d p xr => k F2 H2 cls d (s.trans p.f) (by simpa using R0.back p) xr
      · exact k.elim
  refine PySem.W.callWith_KW0 (h₀ := X.base) I.ok.mod.kin hk hall (thn (main.run pos pins s I) ?_) hpl
  rintro us s1 ⟨zs, H1, I1, r, hz, q⟩
  rw [hks]
  refine ⟨I1.kIn, ?_⟩
  exact run_g (as := ⟨[], ks.zip us⟩) FG hr hg (hx σ) I1 (bd s1 us (by rw [← r.length]; exact hz)) (vals_perm r perm) q
end

/-! ### a def of the text -/
theorem WB.nox {X : Cx} {st : List Stmt} {σ : L2.St} {H : Hp} {D : Ends} (h : WB X.nox st D σ H) : WB X st D σ H := ⟨fun pins s I =>
  wpAny_mono (h.run pins s (I.wish _)) (fun _ _ q => q.unwish) fun _ _ z => False.elim z⟩
/-- the context of its body, where nothing is to be raised -/
abbrev DCx (P : Program) (w : World) (K : PySem.W.Frag) (mg : Str → Option Value) (base : Heap) (N : List Str) (qual : Str) (st : Stmt) (f : Addr) (cd : Value) (A : Around) (outer : List Env) (s : Shared) (H : Hp) (E : XK) : Cx :=
  (cxOf CX0 P w K mg base N qual (defScope st) f cd A outer s H E).nox
theorem cald0 {P : Program} {w : World} {K : PySem.W.Frag} {mg : Str → Option Value} {base : Heap} {k : Nat} {f : Addr} {x qual : Str} {st : Stmt} {kV doc pm cdv ct oc : Value} {an od : Option Addr} {osl : Array (Option Value)} {N ps : List Str} {io : Option Nat} {m : M Fl}
    (lk : K.lookup f = some ⟨oc, od, .func (PySem.W.fnOf x qual (defArgs st) (defBody st) (defScope st) .none kV doc pm an cdv ct), osl⟩) (hcd : PySem.W.codeIn K cdv qual = true) (Sc : FnScope N ps (defScope st)) (hj : ∀ j, io = some j → j < ps.length)
    (hb : ∀ (A : Around) (outer : List Env) (s : Shared) (H : Hp) (vs : List V) (E : XK) (F : Hp) (os : List OD) (fp : List Addr), A.guards = some [] → Room k (A.deeper (envOfC qual (defScope st) s.heap.objs.size f cdv)) → K.In base → Same F H → OReps K F H vs os fp → okArgs io os →
      DB (DCx P w K mg base N qual st f cdv A outer s H E) (entS H F fp io vs) (fun cls d _ H => E cls d H) (defBody st) m) :
    FnG P w K mg base CX0 (k + 1) f (PySem.W.fnOf x qual (defArgs st) (defBody st) (defScope st) .none kV doc pm an cdv ct) ps (spD K mg ps.length io (semD io N.length m)) := by
  have hN : N.length ≥ ps.length := by
    have := congrArg List.length Sc.pre
    rw [List.length_take] at this
    omega
  refine FnG.body lk hcd Sc (fun vs H Q E h => h.1) fun A outer s H vs Q E hg hr kin hsp => WB.nox ?_
  exact body_wb (X := DCx P w K mg base N qual st f cdv A outer s H E) (n := ps.length) hj hN hsp fun F os fp h1 h2 h3 => hb A outer s H vs E F os fp hg hr kin h1 h2 h3

/-! ### the law's call -/
theorem lawCall {P : Program} {w : World} {K : PySem.W.Frag} {mg mb : Str → Option Value} {k : Nat} {fa a : Addr} {fd : FuncData} {x : Str} {fs : FSem} {s₁ : Shared} {vs : List Value} {ns : List Int}
    (KX : K.In s₁.heap) (hns : s₁.heap.Ns mainGlobals mg) (hb : s₁.heap.Ns builtinsNs mb) (hbb : ∀ x : Str, x ≠ "__name__" → mb x = bootBuiltins x) (hlim : s₁.heap.NoLimit) (hg : s₁.gens = #[]) (hsee : ∃ mc, s₁.heap.Ns sysModules mc)
    (ha : s₁.heap.get? a = some { cls := .type "list", data := .seq vs.toArray }) (hi : IntsAre vs ns) (hl : ns.length ≤ sizeLine) (hr : Room k callerA)
    (F : ∀ base : Heap, K.In base → base.Ns mainGlobals mg → (∃ o, base.get? sysModules = some o) → FnG P w K mg base CX0 k fa fd [x] (spD K mg 1 none fs)) (hbind : ∀ (s : Shared) (u : Value), BindsTo s fd ⟨[u], []⟩ [(x, u)])
    (hfs : fs [.s ns] = some (.ok (.d (.bool true)), [])) :
    codeAny (model P w) callerA (.call (.ref fa) ⟨[.ref a], []⟩) (fun r s' => r = .ok (.ret (.bool true)) ∧ OldK s₁.heap s'.heap ∧ s'.os = s₁.os ∧ AllBare s'.gens) s₁ := by
  have rv := vals_ints hi
  have lenV := hi.length
  have main : ∀ H : Hp, Only H → SqL K H a (ns.map V.int) → HOk P w H s₁.heap → (∀ b, H b ≠ none → b = a ∧ K.lookup a = none) →
      codeAny (model P w) callerA (.call (.ref fa) ⟨[.ref a], []⟩) (fun r s' => r = .ok (.ret (.bool true)) ∧ OldK s₁.heap s'.heap ∧ s'.os = s₁.os ∧ AllBare s'.gens) s₁ := by
    intro H only hS hok hA
    have dictFree : ∀ (b : Addr) (o : Obj) (es : Array DictEntry) (ep : Nat), s₁.heap.get? b = some o → o.data = .dict es ep → H b = none := by
      intro b o es ep e d
      cases q : H b with
      | none => rfl
      | some u =>
        obtain ⟨rfl, _⟩ := hA b (by rw [q]; simp)
        rw [ha] at e
        cases e
        simp at d
    have seen : ∀ (b : Addr) (m : Str → Option Value), s₁.heap.Ns b m → (hidT s₁.heap H).Ns b m := by
      intro b m h
      obtain ⟨o, es, ep, e, d, r⟩ := h
      exact ⟨o, es, ep, hidT_get e (dictFree b o es ep e d), d, r⟩
    have kIn : K.In (hidT s₁.heap H) := by
      intro b o e
      refine hidT_get (KX b o e) ?_
      cases q : H b with
      | none => rfl
      | some u =>
        obtain ⟨rfl, z⟩ := hA b (by rw [q]; simp)
        rw [z] at e
        cases e
    have hMod : Mod K mg (hidT s₁.heap H) := by
      refine ⟨kIn, seen _ _ hns, ⟨mb, seen _ _ hb, hbb⟩, ?_⟩
      obtain ⟨mc, h1, h2⟩ := hlim
      exact ⟨mc, seen _ _ h1, h2⟩
    have hsys : ∃ o, (hidT s₁.heap H).get? sysModules = some o := by
      obtain ⟨mc, h1⟩ := hsee
      obtain ⟨o, es, ep, e, _⟩ := seen _ _ h1
      exact ⟨o, e⟩
    have env0 : Env0 P w K mg (hidT s₁.heap H) callerA [] s₁ H := by
      refine ⟨rfl, hMod, fun b o e => of_hidT e, Nat.le_of_eq (hidT_size _ _), trivial, ?_, hok, .of_eq hg⟩
      intro b hb
      cases hb
    have sp : spD K mg 1 none fs [.ref a] H (fun v _ => v = .bl true) fun _ _ _ => False := by
      refine ⟨rfl, H, [.s ns], [], Same.refl _, .s hS .nil, List.nodup_nil, fun j o h _ => ?_, ?_⟩
      · cases j with
        | zero => simp at h; subst h; rfl
        | succ j => simp at h
      · rw [hfs]
        intro F' H' v p
        obtain ⟨f1, f2, _, b, _⟩ := p.reps
        exact Rp.bool_inv (ORp.d_inv b).2
    refine codeAny_mono ((F _ kIn (seen _ _ hns) hsys).go (us := [.ref a]) (vs := [.ref a]) rfl hr env0 (hbind s₁ (.ref a)) (.cons rfl .nil) sp) ?_
    intro r s' h
    match r, h with
    | .ok (.ret u), h =>
      obtain ⟨v, H', os, bare, un, hok', r', q⟩ := h
      have q' : v = .bl true := q
      subst q'
      obtain rfl : u = Value.bool true := r'
      refine ⟨rfl, OldK.of_keep ?_, os, bare⟩
      intro b o e
      rcases only b with q | ⟨ob, xs, q⟩
      · exact un.keep b o e q (fun z => nomatch z) (by simp)
      · obtain ⟨e1, _⟩ := hok b _ q
        obtain ⟨e2, _⟩ := hok' b _ (un.frzs b ob _ q)
        rw [e] at e1
        cases e1
        exact e2
  cases hk : K.lookup a with
  | some o =>
    have e := KX a o hk
    rw [ha] at e
    cases e
    refine main (fun _ => none) (fun _ => .inl rfl) (.inr ⟨_, vs.toArray, _, hk, rfl, rfl, rfl, by rw [List.size_toArray, lenV]; exact hl, by simpa using rv⟩) (fun b u z => ?_) (fun b z => absurd rfl z)
    have z' : (none : Option HO) = some u := z
    cases z'
  | none =>
    let H : Hp := fun b => if b = a then some (.frz { cls := .type "list", data := .seq vs.toArray } (.lst (ns.map V.int))) else none
    have hHa : H a = some (.frz { cls := .type "list", data := .seq vs.toArray } (.lst (ns.map V.int))) := if_pos rfl
    have hHo : ∀ b, b ≠ a → H b = none := fun b hb => if_neg hb
    refine main H (fun b => ?_) (.inl (.inr ⟨_, hHa⟩)) (fun b u z => ?_) (fun b z => ?_)
    · by_cases hb : b = a
      · subst hb; exact .inr ⟨_, _, hHa⟩
      · exact .inl (hHo b hb)
    · by_cases hb : b = a
      · subst hb
        rw [hHa] at z
        cases z
        exact ⟨ha, by rw [List.length_map]; exact hl, vs, _, rv, ha⟩
      · rw [hHo b hb] at z; cases z
    · by_cases hb : b = a
      · exact ⟨hb, hk⟩
      · exact absurd (hHo b hb) z
theorem walk_g {l : PySem.W.OpenLaw} {n k : Nat} {q : Program} {loose : List Str} {XP : (Str → Option Value) → Heap → Prop} {YP : World → Heap → Prop} {d : DefRec} {K : Params → PySem.W.Frag} {fs : FSem} {x : Str}
    (hn : l.most = some n) (hn2 : n ≤ sizeLine) (hdf : d.params.defaults = []) (himp : PyProof.Rows.importsNone q = true) (hr : Room k callerA) (hY : ∀ (w : World) (h : Heap), YP w h → (K w.params).In h)
    (F : ∀ (w : World) (mg : Str → Option Value) (fa : Addr) (h : Heap), (K w.params).In h → h.Ns mainGlobals mg → mg d.name = some (.ref fa) →
      ∃ fd : FuncData, (∀ (s : Shared) (u : Value), BindsTo s fd ⟨[u], []⟩ [(x, u)]) ∧
        ∀ base : Heap, (K w.params).In base → base.Ns mainGlobals mg → (∃ o, base.get? sysModules = some o) → FnG l.prog w (K w.params) mg base CX0 k fa fd [x] (spD (K w.params) mg 1 none fs))
    (hlaw : ∀ ns : List Int, ns.length ≤ n → fs [.s ns] = some (.ok (.d (.bool true)), [])) :
    PySem.W.WalkO q loose XP YP l.row.toRowW d [] (fun f vs => PySem.call f vs) := by
  refine Att.attach_call hn hdf ?_
  intro w s₀ s₁ mg mb fa o pm cd doc a vs ns G Y ho hd hcd hmg hobj hints hlen hg
  obtain ⟨fd, hb, hF⟩ := F w mg fa _ (hY w _ Y) G.T.g hmg
  exact lawCall (hY w _ Y) G.T.g G.T.b G.T.builtins G.T.nolimit hg ((G.T.seer himp).mods.imp fun _ z => z.1) hobj hints (Nat.le_trans hlen hn2) hr hF hb (hlaw ns hlen)
end DL

set_option Elab.async false
set_option linter.all false
set_option autoImplicit false
set_option maxRecDepth 100000
/-! More operations. -/
namespace DL
open PySem PySem.Spec PyProof.Rows L2
section
variable {X : Cx} {S : Sx} {W : WX} {K : PySem.W.Frag} {F H : Hp} {a b c : Expr} {qa qb qc : Opd} {pos : Pos}

theorem rdb1 {vs : List V} {o : OD} (h : Rdb K F H vs [o]) : ∃ x fp, vs = [x] ∧ ORp K F H x o fp := by
  cases h with
  | cons h1 h2 => cases h2; exact ⟨_, _, rfl, h1⟩
theorem rdb2 {vs : List V} {o p : OD} (h : Rdb K F H vs [o, p]) : ∃ x y f g, vs = [x, y] ∧ ORp K F H x o f ∧ ORp K F H y p g := by
  cases h with
  | cons h1 h2 =>
    obtain ⟨y, g, rfl, h3⟩ := rdb1 h2
    exact ⟨_, _, _, _, rfl, h1, h3⟩

/-! ### subscripts -/
def dat : OD → Option OD
  | .d x => some (.d x)
  | _ => none
def gIx : List OD → Option OD
  | [.d (.list xs), .d (.int i)] => (atI xs i).map .d
  | [.d (.tuple xs), .d (.int i)] => (atI xs i).map .d
  | [.d (.str x), .d (.int i)] => (atI x.cps.toList i).map fun c => .d (.str ⟨#[c]⟩)
  | [.l ps, .d (.int i)] => (atI ps i).bind dat
  | [.s ns, .d (.int i)] => (atI ns i).map fun n => .d (.int n)
  | _ => none
theorem atI_rel {α β : Type} {xs : List α} {ys : List β} {i : Int} {y : β} (hl : xs.length = ys.length) (h : atI ys i = some y) : ∃ (j : Nat) (x : α), ys[j]? = some y ∧ xs[j]? = some x ∧ atI xs i = some x := by
  unfold atI at h ⊢
  rw [hl]
  cases q : ixN ys.length i with
  | none => rw [q] at h; cases h
  | some j =>
    rw [q] at h
    have h : ys[j]? = some y := h
    have hj : j < xs.length := by rw [hl]; exact (List.getElem?_eq_some_iff.mp h).1
    exact ⟨j, xs[j], h, List.getElem?_eq_getElem hj, List.getElem?_eq_getElem hj⟩
theorem OReps.at {vs : List V} {os : List OD} {fp : List Addr} {j : Nat} {v : V} {o : OD} (h : OReps K F H vs os fp) (hv : vs[j]? = some v) (ho : os[j]? = some o) : ∃ f, ORp K F H v o f := by
  induction os generalizing vs fp j with
  | nil => simp at ho
  | cons o' os ih =>
    cases vs with
    | nil => simp at hv
    | cons v' vs =>
      obtain ⟨f1, f2, h1, h2, _⟩ := h.inv
      cases j with
      | zero => simp at hv ho; subst hv; subst ho; exact ⟨_, h1⟩
      | succ j => exact ih h2 (by simpa using hv) (by simpa using ho)
theorem os_ixAll : OSpec X S (rr2 (rIx X.K)) gIx := by
  intro F σ H env hs ho vs os o Q R rd e k
  unfold gIx at e
  split at e
  · obtain ⟨x, y, f, g, rfl, h1, h2⟩ := rdb2 rd
    cases (ORp.d_inv h2).2.int_inv
    obtain ⟨p, ws, rfl, e1, e2⟩ := (ORp.d_inv h1).2.list_inv
    obtain ⟨d, hd, rfl⟩ := Option.map_eq_some_iff.mp e
    obtain ⟨j, w, h3, h4, h5⟩ := atI_rel e2.len hd
    exact .inl ⟨p, ws, _, w, rfl, rfl, .inl (.inl (R.sub _ _ e1)), h5, fin_d R k (e2.get h4 h3)⟩
  · obtain ⟨x, y, f, g, rfl, h1, h2⟩ := rdb2 rd
    cases (ORp.d_inv h2).2.int_inv
    obtain ⟨p, ws, rfl, e1, e2⟩ := (ORp.d_inv h1).2.tuple_inv
    obtain ⟨d, hd, rfl⟩ := Option.map_eq_some_iff.mp e
    obtain ⟨j, w, h3, h4, h5⟩ := atI_rel e2.len hd
    exact .inr (.inl ⟨p, ws, _, w, rfl, rfl, DL.Same.sqt R.sub e1, h5, fin_d R k (e2.get h4 h3)⟩)
  · obtain ⟨x, y, f, g, rfl, h1, h2⟩ := rdb2 rd
    cases (ORp.d_inv h2).2.int_inv
    obtain ⟨rfl, hz⟩ := (ORp.d_inv h1).2.str_inv
    obtain ⟨ch, hd, rfl⟩ := Option.map_eq_some_iff.mp e
    exact .inr (.inr ⟨_, _, ch, rfl, rfl, hz, hd, fin_d R k (.str _ (by show 1 ≤ sizeLine; decide) .nil)⟩)
  · rename_i ps i
    obtain ⟨x, y, f, g, rfl, h1, h2⟩ := rdb2 rd
    cases (ORp.d_inv h2).2.int_inv
    obtain ⟨p, ws, f1, rfl, _, e1, e2, _⟩ := ORp.l_inv h1
    cases hd : atI ps i with
    | none => rw [hd] at e; cases e
    | some u =>
      rw [hd] at e
      cases u with
      | d d =>
        cases e
        obtain ⟨j, w, h3, h4, h5⟩ := atI_rel e2.len hd
        obtain ⟨f2, h6⟩ := OReps.at e2 h4 h3
        exact .inl ⟨p, ws, _, w, rfl, rfl, .inl (.inl e1), h5, fin_d R k (ORp.d_inv h6).2⟩
      | _ => cases e
  · rename_i ns i
    obtain ⟨x, y, f, g, rfl, h1, h2⟩ := rdb2 rd
    cases (ORp.d_inv h2).2.int_inv
    obtain ⟨p, rfl, e1⟩ := ORp.s_inv h1
    obtain ⟨n, hd, rfl⟩ := Option.map_eq_some_iff.mp e
    obtain ⟨j, w, h3, h4, h5⟩ := atI_rel (xs := ns.map V.int) (by simp) hd
    rw [List.getElem?_map, h3] at h4
    cases h4
    exact .inl ⟨p, _, _, _, rfl, rfl, DL.Same.sql R.sub e1, h5, fin_d R k (.int n .nil)⟩
  · cases e

/-! ### len -/
def gLen : List OD → Option OD
  | [.d (.list xs)] => some (.d (.int xs.length))
  | [.d (.tuple xs)] => some (.d (.int xs.length))
  | [.d (.str x)] => some (.d (.int x.length))
  | [.l ps] => some (.d (.int ps.length))
  | [.s ns] => some (.d (.int ns.length))
  | _ => none
theorem os_len : OSpec X S (fun xs H Q => ∃ x n, xs = [x] ∧ LenV X.K x H n ∧ Q (.int n) H) gLen := by
  intro F σ H env hs ho vs os o Q R rd e k
  unfold gLen at e
  split at e
  · obtain ⟨x, f, rfl, h1⟩ := rdb1 rd
    cases e
    obtain ⟨p, ws, rfl, e1, e2⟩ := (ORp.d_inv h1).2.list_inv
    exact ⟨_, _, rfl, .inl ⟨ws, .inl (.inl (R.sub _ _ e1)), e2.len.symm⟩, fin_d R k (.int _ .nil)⟩
  · obtain ⟨x, f, rfl, h1⟩ := rdb1 rd
    cases e
    obtain ⟨p, ws, rfl, e1, e2⟩ := (ORp.d_inv h1).2.tuple_inv
    exact ⟨_, _, rfl, .inr ⟨ws, DL.Same.sqt R.sub e1, e2.len.symm⟩, fin_d R k (.int _ .nil)⟩
  · obtain ⟨x, f, rfl, h1⟩ := rdb1 rd
    cases e
    obtain ⟨rfl, hz⟩ := (ORp.d_inv h1).2.str_inv
    exact ⟨_, _, rfl, ⟨hz, rfl⟩, fin_d R k (.int _ .nil)⟩
  · obtain ⟨x, f, rfl, h1⟩ := rdb1 rd
    cases e
    obtain ⟨p, ws, f1, rfl, _, e1, e2, _⟩ := ORp.l_inv h1
    exact ⟨_, _, rfl, .inl ⟨ws, .inl (.inl e1), e2.len.symm⟩, fin_d R k (.int _ .nil)⟩
  · obtain ⟨x, f, rfl, h1⟩ := rdb1 rd
    cases e
    obtain ⟨p, rfl, e1⟩ := ORp.s_inv h1
    exact ⟨_, _, rfl, .inl ⟨_, DL.Same.sql R.sub e1, by simp⟩, fin_d R k (.int _ .nil)⟩
  · cases e

/-! ### abs, max, min of ints -/
def gAbs : List OD → Option OD
  | [.d (.int i)] => some (.d (.int (if i < 0 then -i else i)))
  | _ => none
theorem os_abs : OSpec X S (fun xs H Q => ∃ i, xs = [.int i] ∧ Q (.int (if i < 0 then -i else i)) H) gAbs := by
  intro F σ H env hs ho vs os o Q R rd e k
  unfold gAbs at e
  split at e
  · cases e
    obtain ⟨x, f, rfl, h1⟩ := rdb1 rd
    cases (ORp.d_inv h1).2.int_inv
    exact ⟨_, rfl, fin_d R k (.int _ .nil)⟩
  · cases e
def gMax2 : List OD → Option OD
  | [.d (.int i), .d (.int j)] => some (.d (.int (if j > i then j else i)))
  | _ => none
theorem os_max2 : OSpec X S (fun xs H Q => ∃ i j, xs = [.int i, .int j] ∧ Q (.int (if j > i then j else i)) H) gMax2 := by
  intro F σ H env hs ho vs os o Q R rd e k
  unfold gMax2 at e
  split at e
  · cases e
    obtain ⟨x, y, f, g, rfl, h1, h2⟩ := rdb2 rd
    cases (ORp.d_inv h1).2.int_inv
    cases (ORp.d_inv h2).2.int_inv
    exact ⟨_, _, rfl, fin_d R k (.int _ .nil)⟩
  · cases e
def gMin2 : List OD → Option OD
  | [.d (.int i), .d (.int j)] => some (.d (.int (if j < i then j else i)))
  | _ => none
theorem os_min2 : OSpec X S (fun xs H Q => ∃ i j, xs = [.int i, .int j] ∧ Q (.int (if j < i then j else i)) H) gMin2 := by
  intro F σ H env hs ho vs os o Q R rd e k
  unfold gMin2 at e
  split at e
  · cases e
    obtain ⟨x, y, f, g, rfl, h1, h2⟩ := rdb2 rd
    cases (ORp.d_inv h1).2.int_inv
    cases (ORp.d_inv h2).2.int_inv
    exact ⟨_, _, rfl, fin_d R k (.int _ .nil)⟩
  · cases e

theorem up1 {r : List V → Hp → VK → Prop} {g : List OD → Option OD} (h : OSpec X S (rr1 fun x H Q => r [x] H Q) g) : OSpec X S r g := fun F σ H env hs ho vs os o Q R rd e k => by
  have := h F σ H env hs ho vs os o Q R rd e k
  unfold rr1 at this
  split at this
  · exact this
  · exact this.elim
/-! ### all, any of truth values -/
def bools : List PyData → Option (List Bool)
  | [] => some []
  | .bool b :: ds => (bools ds).map (b :: ·)
  | _ => none
theorem bools_rep : ∀ {ds : List PyData} {vs : List V} {bs : List Bool}, Reps K F vs ds → bools ds = some bs → vs = bs.map V.bl
  | [], [], _, _, e => by cases e; rfl
  | [], _ :: _, _, h, _ => nomatch h
  | d :: ds, [], _, h, _ => nomatch h
  | d :: ds, v :: vs, bs, h, e => by
    obtain ⟨h1, h2⟩ := h.inv
    cases d with
    | bool b =>
      simp only [bools] at e
      obtain ⟨cs, q, rfl⟩ := Option.map_eq_some_iff.mp e
      rw [bools_rep h2 q, h1.bool_inv]
      rfl
    | _ => cases e
def gBs (f : List Bool → Bool) : PyData → Option OD
  | .list ds => (bools ds).map fun bs => .d (.bool (f bs))
  | _ => none
theorem os_allB : OSpec X S (rAll X.K) (sh1 (gBs fun bs => bs.all id)) := up1 (os_sh1 fun F σ H env hs ho x d o Q R h1 hf k => by
  unfold gBs at hf
  split at hf
  · obtain ⟨bs, q, rfl⟩ := Option.map_eq_some_iff.mp hf
    obtain ⟨p, ws, rfl, e1, e2⟩ := h1.list R.sub
    have := bools_rep e2 q
    subst this
    exact ⟨p, bs, rfl, .inl (.inl e1), fin_d R k (.bl _ .nil)⟩
  · cases hf)
theorem os_anyB : OSpec X S (rAny X.K) (sh1 (gBs fun bs => bs.any id)) := up1 (os_sh1 fun F σ H env hs ho x d o Q R h1 hf k => by
  unfold gBs at hf
  split at hf
  · obtain ⟨bs, q, rfl⟩ := Option.map_eq_some_iff.mp hf
    obtain ⟨p, ws, rfl, e1, e2⟩ := h1.list R.sub
    have := bools_rep e2 q
    subst this
    exact ⟨p, bs, rfl, .inl (.inl e1), fin_d R k (.bl _ .nil)⟩
  · cases hf)

/-! ### tuple(x), list(x) -/
def gTupOf : PyData → Option OD
  | .list xs => some (.d (.tuple xs))
  | .tuple xs => some (.d (.tuple xs))
  | _ => none
def rTupOf (K : PySem.W.Frag) : List V → Hp → VK → Prop := fun xs H Q => ∃ p ys, xs = [.ref p] ∧ ((SqL K H p ys ∧ ∀ l, H l = none → Q (.ref l) (upd H l (.tup ys))) ∨ (SqT K H p ys ∧ Q (.ref p) H))
theorem os_tupOf : OSpec X S (rTupOf X.K) (sh1 gTupOf) := up1 (os_sh1 fun F σ H env hs ho x d o Q R h1 hf k => by
  unfold gTupOf at hf
  split at hf
  · cases hf
    obtain ⟨p, ws, rfl, e1, e2⟩ := h1.list R.sub
    exact ⟨p, ws, rfl, .inl ⟨.inl (.inl e1), fun l hl => fin_t R k e2 hl⟩⟩
  · cases hf
    obtain ⟨p, ws, rfl, e1, e1', e2⟩ := h1.tuple R.sub
    exact ⟨p, ws, rfl, .inr ⟨e1, fin_d R k (.tup e1' e2 .nil)⟩⟩
  · cases hf)
def gListOf : PyData → Option OD
  | .list xs => some (.l (xs.map .d))
  | .tuple xs => some (.l (xs.map .d))
  | _ => none
def rListOf (K : PySem.W.Frag) : List V → Hp → VK → Prop := fun xs H Q => ∃ p ys, xs = [.ref p] ∧ (SqL K H p ys ∨ SqT K H p ys) ∧ ∀ l, H l = none → Q (.ref l) (upd H l (.lst ys))
theorem os_listOf : OSpec X S (rListOf X.K) (sh1 gListOf) := up1 (os_sh1 fun F σ H env hs ho x d o Q R h1 hf k => by
  unfold gListOf at hf
  split at hf
  · cases hf
    obtain ⟨p, ws, rfl, e1, e2⟩ := h1.list R.sub
    exact ⟨p, ws, rfl, .inl (.inl (.inl e1)), fun l hl => fin_l R k e2 hl⟩
  · cases hf
    obtain ⟨p, ws, rfl, e1, e1', e2⟩ := h1.tuple R.sub
    exact ⟨p, ws, rfl, .inr e1, fun l hl => fin_l R k e2 hl⟩
  · cases hf)

/-! ### isinstance of a built-in type -/
def tyName : PyData → String
  | .none => "NoneType"
  | .bool _ => "bool"
  | .int _ => "int"
  | .str _ => "str"
  | .list _ => "list"
  | .tuple _ => "tuple"
  | _ => "dict"
theorem rp_ty {x : V} {d : PyData} (h : Rp K H x d) : TyX K H x (.type (tyName d)) := by
  cases h with
  | non h => exact .base .non
  | bl b h => exact .base (.bl b)
  | int i h => exact .base (.int i)
  | str y h1 h => exact .base (.str y)
  | lst h1 h2 h => exact .base (.lst h1)
  | tup h1 h2 h =>
    rcases h1 with h1 | ⟨o, its, n, e1, e2, _⟩
    · rcases h1 with h1 | ⟨o, h1⟩
      · exact .base (.tup h1)
      · exact .fTuple h1
    · exact .kTuple e1 e2
  | dic h1 h2 h3 h =>
    rcases h1 with h1 | ⟨o, h1⟩
    · exact .base (.dK h1)
    · exact .fDict h1
/-- the answers for one type -/
def isTy (T : String) (f : PyData → Bool) : Prop := ∀ d : PyData, kitB (tyName d) T = some (f d)
def gIsI (f : PyData → Bool) (d : PyData) : Option OD := some (.d (.bool (f d)))
theorem pe_ty {x : Str} {T : String} {p : Pos} (hg : Gl X x) (hm : X.mg x = none) (hv : bootBuiltins x = some (.type T)) (hn : x ≠ "__name__" := by decide) (hdb : (x == ("__debug__" : Str)) = false := by decide) : PE X (.Name x p) (fun σ H Q => Q (.ty T) H) :=
  ⟨fun pins s σ H Q I h => ld_blt I hg hm hv ⟨.ty T, H, I, rfl, h⟩ hn hdb⟩
theorem de_isI {x : Str} {T : String} {f : PyData → Bool} {p p2 : Pos} (hT : isTy T f) (h1 : DO X S W a qa) (hm : X.mg "isinstance" = none) (hm2 : X.mg x = none) (hv : bootBuiltins x = some (.type T)) (hb : bootBuiltins "isinstance" = some (.builtin "isinstance")) (hg : Gl X "isinstance" := by rfl) (hg2 : Gl X x := by rfl)
    (hn : x ≠ "__name__" := by decide) (hdb : (x == ("__debug__" : Str)) = false := by decide)
    (hst : starEach [a, .Name x p2] X.env = (false, eval a X.env) :: starEach [.Name x p2] X.env := by rfl) (hst2 : starEach [.Name x p2] X.env = (false, eval (.Name x p2) X.env) :: starEach [] X.env := by rfl) (hpl : (backTo pos (starEach [.Name x p2] X.env)).any (·.1) = false := by rfl) :
    DE X S W (.Call (.Name "isinstance" p) [a, .Name x p2] [] pos) (prim (dp1 (gIsI f)) [qa]) := by
  intro F σ H env hs hos Q R h
  refine WE.of (pe_callB call_isi hg hm hb (pa_cons (pe_we X a) (pa_cons (pe_ty hg2 hm2 hv hn hdb) pa_nil hst2) hst) (by decide) (by decide) hst hpl) (DA1 h1 R ((Mwp.bind h).imp (fun hes env' _ k F' H' x hvs hos' s mt R' => ?_) fun _ _ _ x => x))
  refine prim_fin (r := rr1 fun x H Q => rIsi X.K [x, .ty T] H Q) (os_dp1 fun F σ H env hs ho x d o Q R h1 hf k => ?_) R.hlen s mt R' k
  cases hf
  exact ⟨x, .ty T, .type (tyName d), .type T, f d, rfl, .ty T, rp_ty h1, kit_ty (hT d), fin_d R k (.bl _ .nil)⟩
theorem isTy_int : isTy "int" fun d => match d with
    | .int _ => true
    | .bool _ => true
    | _ => false := fun d => by cases d <;> (first | decide +kernel | (show kitB "dict" "int" = some false; decide +kernel) | (show kitB "int" "int" = some true; decide +kernel) | (show kitB "bool" "int" = some true; decide +kernel) | (show kitB "str" "int" = some false; decide +kernel) | (show kitB "list" "int" = some false; decide +kernel) | (show kitB "tuple" "int" = some false; decide +kernel))
theorem isTy_bool : isTy "bool" fun d => match d with
    | .bool _ => true
    | _ => false := fun d => by cases d <;> (first | decide +kernel | (show kitB "dict" "bool" = some false; decide +kernel) | (show kitB "int" "bool" = some false; decide +kernel) | (show kitB "bool" "bool" = some true; decide +kernel) | (show kitB "str" "bool" = some false; decide +kernel) | (show kitB "list" "bool" = some false; decide +kernel) | (show kitB "tuple" "bool" = some false; decide +kernel))
theorem isTy_str : isTy "str" fun d => match d with
    | .str _ => true
    | _ => false := fun d => by cases d <;> (first | decide +kernel | (show kitB "dict" "str" = some false; decide +kernel) | (show kitB "int" "str" = some false; decide +kernel) | (show kitB "bool" "str" = some false; decide +kernel) | (show kitB "str" "str" = some true; decide +kernel) | (show kitB "list" "str" = some false; decide +kernel) | (show kitB "tuple" "str" = some false; decide +kernel))
theorem isTy_tuple : isTy "tuple" fun d => match d with
    | .tuple _ => true
    | _ => false := fun d => by cases d <;> (first | decide +kernel | (show kitB "dict" "tuple" = some false; decide +kernel) | (show kitB "int" "tuple" = some false; decide +kernel) | (show kitB "bool" "tuple" = some false; decide +kernel) | (show kitB "str" "tuple" = some false; decide +kernel) | (show kitB "list" "tuple" = some false; decide +kernel) | (show kitB "tuple" "tuple" = some true; decide +kernel))
theorem isTy_list : isTy "list" fun d => match d with
    | .list _ => true
    | _ => false := fun d => by cases d <;> (first | decide +kernel | (show kitB "dict" "list" = some false; decide +kernel) | (show kitB "int" "list" = some false; decide +kernel) | (show kitB "bool" "list" = some false; decide +kernel) | (show kitB "str" "list" = some false; decide +kernel) | (show kitB "list" "list" = some true; decide +kernel) | (show kitB "tuple" "list" = some false; decide +kernel))
end
end DL

set_option Elab.async false
set_option linter.all false
set_option autoImplicit false
set_option maxRecDepth 100000
/-! Displays, chains, methods, stores, repr, sorted. -/
namespace DL
open PySem PySem.Spec PyProof.Rows L2
section
variable {X : Cx} {S : Sx} {W : WX} {K : PySem.W.Frag} {F H : Hp} {a b c : Expr} {qa qb qc : Opd} {pos : Pos} {σ : L2.St} {env : DEnv}

/-! ### displays -/
def allO : List HE → Option (List OD)
  | [] => some []
  | .o x :: hes => (allO hes).map (x :: ·)
  | .al _ :: _ => none
theorem mt_allO : ∀ {hes : List HE} {vs hvs : List V} {hos os : List OD}, Mt σ hes vs hvs hos → allO hes = some os → vs = hvs ∧ hos = os
  | [], _, _, _, _, .nil, e => by cases e; exact ⟨rfl, rfl⟩
  | .o x :: hes, _, _, _, _, .o m, e => by
    simp only [allO] at e
    obtain ⟨os, q, rfl⟩ := Option.map_eq_some_iff.mp e
    obtain ⟨rfl, rfl⟩ := mt_allO m q
    exact ⟨rfl, rfl⟩
  | .al i :: hes, _, _, _, _, m, e => by cases e
def mList (qs : List Opd) : M OD := M.bind (args qs) fun hes e => match allO hes with
  | some os => if os.length ≤ sizeLine then some (.ok (.l os), e) else none
  | none => none
theorem de_list {es : List Expr} {qs : List Opd} (ha : DAs X S W es qs) : DE X S W (.List es pos) (mList qs) := by
  intro F σ H env hs ho Q R q
  refine WE.of (pe_lst (pa_wa X es)) (ha.run F σ H env hs ho _ R ((Mwp.bind q).imp (fun hes e' _ k F' H' vs hvs hos s mt R' => ?_) fun _ _ _ x => x))
  cases e : allO hes with
  | none => rw [e] at k; exact k.elim
  | some os =>
    rw [e] at k
    simp only at k
    split at k
    · rename_i hz
      obtain ⟨rfl, rfl⟩ := mt_allO mt e
      refine ⟨by rw [mt.hlen]; exact hz, fun p hp => ?_⟩
      exact k F' _ _ s (R'.newL R.hlen hp)
    · exact k.elim
def allD : List HE → Option (List PyData)
  | [] => some []
  | .o (.d x) :: hes => (allD hes).map (x :: ·)
  | _ => none
theorem mt_allD : ∀ {hes : List HE} {vs hvs : List V} {hos : List OD} {ds : List PyData}, Mt σ hes vs hvs hos → allD hes = some ds → vs = hvs ∧ hos = ds.map .d
  | [], _, _, _, _, .nil, e => by cases e; exact ⟨rfl, rfl⟩
  | .o x :: hes, _, _, _, _, .o m, e => by
    cases x with
    | d x =>
      simp only [allD] at e
      obtain ⟨os, q, rfl⟩ := Option.map_eq_some_iff.mp e
      obtain ⟨rfl, rfl⟩ := mt_allD m q
      exact ⟨rfl, rfl⟩
    | _ => cases e
  | .al i :: hes, _, _, _, _, m, e => by cases e
def mTup (qs : List Opd) : M OD := M.bind (args qs) fun hes e => match allD hes with
  | some ds => if ds.length ≤ sizeLine then some (.ok (.d (.tuple ds)), e) else none
  | none => none
theorem all_isD (ds : List PyData) : (ds.map OD.d).all OD.isD = true := by
  rw [List.all_map]
  exact List.all_eq_true.mpr fun _ _ => rfl
theorem erase_ds (ds : List PyData) : (ds.map OD.d).map OD.erase = ds := by
  rw [List.map_map]
  exact (List.map_congr_left fun d _ => by simp [OD.erase]).trans (List.map_id _)
theorem de_tup {es : List Expr} {qs : List Opd} {kk : Nat} (ha : DAs X S W es qs) : DE X S W (.Tuple es kk pos) (mTup qs) := by
  intro F σ H env hs ho Q R q
  refine WE.of (pe_tup (pa_wa X es)) (ha.run F σ H env hs ho _ R ((Mwp.bind q).imp (fun hes e' _ k F' H' vs hvs hos s mt R' => ?_) fun _ _ _ x => x))
  cases e : allD hes with
  | none => rw [e] at k; exact k.elim
  | some ds =>
    rw [e] at k
    simp only at k
    split at k
    · rename_i hz
      obtain ⟨rfl, rfl⟩ := mt_allD mt e
      obtain ⟨fp, r⟩ := R'.heldReps R.hlen
      have rp := (r.toReps (all_isD ds)).2
      rw [erase_ds] at rp
      refine ⟨by rw [mt.hlen, List.length_map]; exact hz, fun p hp => ?_⟩
      exact fin_t (R'.drop R.hlen) (fun F2 H2 v s2 R2 => k F2 H2 v (s.trans s2) R2) rp hp
    · exact k.elim

/-! ### a op b op c -/
theorem mt_snoc {hes : List HE} {vs hvs : List V} {hos : List OD} (m : Mt σ hes vs hvs hos) {v : V} : ∀ {he : HE}, (match he with
    | .o x => Mt σ (hes ++ [.o x]) (vs ++ [v]) (hvs ++ [v]) (hos ++ [x])
    | .al i => σ[i]? = some (some v) → Mt σ (hes ++ [.al i]) (vs ++ [v]) hvs hos)
  | .o x => by
    induction m with
    | nil => exact .o .nil
    | o _ ih => exact .o ih
    | al h _ ih => exact .al h ih
  | .al i => fun hi => by
    induction m with
    | nil => exact .al hi .nil
    | o _ ih => exact .o ih
    | al h _ ih => exact .al h ih
def mChain (g g' : List OD → Option OD) (qa qb qc : Opd) : M OD := M.bind (args [qa, qb]) fun hes e => match rds e hes with
  | none => none
  | some os => match g os with
    | some (.d (.bool true)) => M.bind qc.go (fun hc e2 => match rds e2 (hes ++ [hc]) with
      | none => none
      | some us => match g' (us.drop 1) with
        | none => none
        | some o => some (.ok o, e2)) e
    | some (.d (.bool false)) => some (.ok (.d (.bool false)), e)
    | _ => none
theorem rdb_drop {vs : List V} {os : List OD} (h : Rdb K F H vs os) : Rdb K F H (vs.drop 1) (os.drop 1) := by
  cases h with
  | nil => exact .nil
  | cons _ h => exact h
theorem de_chain {op op' : CmpOp} {r r' : R2} {g g' : List OD → Option OD} (ho : OpR X (compareOp op) r) (ho' : OpR X (compareOp op') r') (sp : OSpec X S (rr2 r) g) (sp' : OSpec X S (rr2 r') g') (h1 : DO X S W a qa) (h2 : DO X S W b qb) (h3 : DO X S W c qc)
    (hm : lastMarks [op, op'] [b, c] = false := by with_unfolding_all rfl) : DE X S W (.Compare a [op, op'] [b, c] pos) (mChain g g' qa qb qc) := by
  intro F σ H env hs hos Q R h
  refine WE.of (pe_chain ho ho' (pe_we X a) (pe_we X b) (pe_we X c) hm) (DA2 h1 h2 R ((Mwp.bind h).imp (fun hes env' _ k F' H' x y hvs hos' s mt R' => ?_) fun _ _ _ x => x))
  cases e : rds env' hes with
  | none => rw [e] at k; exact k.elim
  | some os =>
    rw [e] at k
    simp only at k
    have rb := mt.rdb R' R.hlen e
    have hl2 : (hs ++ hvs).length = (hos ++ hos').length := by simp [R.hlen, mt.hlen]
    cases e2 : g os with
    | none => rw [e2] at k; exact k.elim
    | some o =>
      rw [e2] at k
      refine sp F' σ H' env' (hs ++ hvs) (hos ++ hos') [x, y] os o _ R' rb e2 fun F2 H2 z s2 R2 => ?_
      cases o with
      | d d =>
        cases d with
        | bool t =>
          have ez := bool_held R2 hl2
          subst ez
          have R3 := R2.drop hl2
          refine ⟨t, rfl, ?_⟩
          cases t with
          | false => exact k F2 H2 _ (s.trans s2) ((R3.drop R.hlen).push (.bl _ .nil))
          | true =>
            refine h3 F2 σ H2 env' (hs ++ hvs) (hos ++ hos') _ R3 ((Mwp.bind k).imp (fun hc env3 _ k3 F3 H3 w s3 L => ?_) fun _ _ _ q => q.mono (s.trans s2) R.hlen)
            have s03 : Same F F3 := (s.trans s2).trans s3
            cases e4 : rds env3 (hes ++ [hc]) with
            | none => rw [e4] at k3; exact k3.elim
            | some us =>
              rw [e4] at k3
              simp only at k3
              cases e5 : g' (us.drop 1) with
              | none => rw [e5] at k3; exact k3.elim
              | some o' =>
                rw [e5] at k3
                have fin : ∀ {hvs2 hos2}, Mt σ (hes ++ [hc]) [x, y, w] hvs2 hos2 → Rel X.K S F3 σ H3 env3 (hs ++ hvs2) (hos ++ hos2) → r' y w H3 Q := fun {hvs2 hos2} mt2 R4 => by
                  have rb2 := rdb_drop (mt2.rdb R4 R.hlen e4)
                  exact sp' F3 σ H3 env3 hs hos [y, w] (us.drop 1) o' Q (R4.drop R.hlen) rb2 e5 fun F5 H5 v s5 R5 => k3 F5 H5 v (s03.trans s5) R5
                cases hc with
                | o u =>
                  have L' : Rel X.K S F3 σ H3 env3 (hs ++ hvs ++ [w]) (hos ++ hos' ++ [u]) := L
                  exact fin (mt_snoc mt (he := .o u)) (by rw [← List.append_assoc, ← List.append_assoc]; exact L')
                | al i => exact fin (mt_snoc mt (he := .al i) L.1) L.2
        | _ => exact k.elim
      | _ => exact k.elim

/-! ### repr -/
def gRepr (d : PyData) : Option OD := if d.showable && decide (d.depth ≤ 60) && decide (d.shown.length ≤ sizeLine) then some (.d (.str d.shown)) else none
def rRepr (K : PySem.W.Frag) : V → Hp → VK → Prop := fun x H Q => ∃ d, Rp K H x d ∧ d.showable = true ∧ d.depth ≤ 60 ∧ d.shown.length ≤ sizeLine ∧ Q (.str d.shown) H
theorem cr_reprD (ok : Ok1 X) : CallR X (.builtin "repr") (rr1 (rRepr X.K)) := by
  intro pins s σ H xs us Q I r h
  unfold rr1 at h
  split at h
  · rename_i x
    obtain ⟨u, rfl, r1⟩ := vals1 r
    obtain ⟨d, rp, h1, h2, h3, q⟩ := h
    obtain ⟨as, ra, ns⟩ := Reps.reads ok.sysm I rp [u] (.cons r1 .nil)
    cases ra with
    | cons rd rn =>
      cases rn
      cases rp with
      | non _ => cases r1; exact PySem.P.repr_of_none ⟨.str _, H, I.tok _, ⟨_, rfl⟩, q⟩
      | bl b _ => cases r1; exact PySem.P.repr_of_bool ⟨.str _, H, I.tok _, ⟨_, rfl⟩, q⟩
      | int i _ =>
        obtain ⟨t, rfl⟩ := r1
        exact PySem.P.repr_of_int (by simpa [PyData.showable] using h1) ⟨.str _, H, I.tok _, ⟨_, rfl⟩, q⟩
      | str y _ _ =>
        obtain ⟨t, rfl⟩ := r1
        exact PySem.P.repr_of_str ⟨.str _, H, I.tok _, ⟨_, rfl⟩, q⟩ h3
      | lst z1 z2 _ =>
        cases r1
        exact repr_of_reads' rd h1 (fun _ z => ns (by simp [z])) ok.grd (by have := ok.un; omega) (fun b o e => e) (fun h' u tk hk => ⟨.str _, H, I.kept hk, ⟨_, rfl⟩, q⟩) h3
      | tup z1 z2 _ =>
        cases r1
        exact repr_of_reads' rd h1 (fun _ z => ns (by simp [z])) ok.grd (by have := ok.un; omega) (fun b o e => e) (fun h' u tk hk => ⟨.str _, H, I.kept hk, ⟨_, rfl⟩, q⟩) h3
      | dic z1 z2 z3 _ =>
        cases r1
        exact repr_of_reads' rd h1 (fun _ z => ns (by simp [z])) ok.grd (by have := ok.un; omega) (fun b o e => e) (fun h' u tk hk => ⟨.str _, H, I.kept hk, ⟨_, rfl⟩, q⟩) h3
  · exact h.elim
theorem os_repr : OSpec X S (rr1 (rRepr X.K)) (dp1 gRepr) := os_dp1 fun F σ H env hs ho x d o Q R h1 hf k => by
  unfold gRepr at hf
  split at hf
  · rename_i hz
    cases hf
    simp only [Bool.and_eq_true, decide_eq_true_eq] at hz
    exact ⟨d, h1, hz.1.1, hz.1.2, hz.2, fin_d R k (.str _ hz.2 .nil)⟩
  · cases hf

/-! ### sorted -/
def sortB (xs : List PyData) : Bool := (xs.all fun d => xs.all fun e => PySem.W.alike d e) && ((xs.all fun d => match d with
    | .tuple (_ :: _) => true
    | _ => false) || (xs.all fun d => match d with
    | .tuple _ => false
    | .none => false
    | _ => true)) && (xs.all fun d => decide (d.depth ≤ 50))
def sortD (xs : List PyData) : List PyData := xs.mergeSort (PySem.W.dataLe false id)
def gSorted : PyData → Option OD
  | .list xs => if sortB xs then some (.l ((sortD xs).map .d)) else none
  | _ => none
def rSortedD (K : PySem.W.Frag) : V → Hp → VK → Prop := fun x H Q => ∃ F a ws xs, Same F H ∧ x = .ref a ∧ H a = some (.lst ws) ∧ Reps K F ws xs ∧ sortB xs = true ∧ ∀ ws' p, Reps K F ws' (sortD xs) → H p = none → Q (.ref p) (upd H p (.lst ws'))
theorem each_reps {R : Value → PyData → Prop} {F : Hp} : ∀ {out : List Value} {ds : List PyData}, PySem.W.EachIs R out ds → (∀ v d, R v d → ∃ x, RelV x v ∧ Rp K F x d) → ∃ ws, Vals ws out ∧ Reps K F ws ds
  | _, _, .nil, _ => ⟨[], .nil, .nil⟩
  | _, _, .cons h t, k => by
    obtain ⟨x, h1, h2⟩ := k _ _ h
    obtain ⟨ws, h3, h4⟩ := each_reps t k
    exact ⟨x :: ws, .cons h1 h3, h2.cons h4⟩
theorem reps_each {F : Hp} : ∀ {ws : List V} {out : List Value} {ds : List PyData}, Vals ws out → Reps K F ws ds → PySem.W.EachIs (fun v d => ∃ x, RelV x v ∧ Rp K F x d) out ds
  | _, _, [], .nil, _ => .nil
  | _, _, [], .cons _ _, h => nomatch h
  | _, _, d :: ds, .nil, h => nomatch h
  | _, _, d :: ds, .cons r t, h => .cons ⟨_, r, h.inv.1⟩ (reps_each t h.inv.2)
theorem sortB_iff {xs : List PyData} (h : sortB xs = true) : PySem.W.AllAlike (xs.map id) ∧ PySem.W.Sortable (xs.map id) ∧ ∀ d ∈ xs, d.depth ≤ 50 := by
  rw [List.map_id]
  simp only [sortB, Bool.and_eq_true, Bool.or_eq_true, List.all_eq_true, decide_eq_true_eq] at h
  obtain ⟨⟨h1, h2⟩, h3⟩ := h
  refine ⟨fun d hd e he => h1 d hd e he, ?_, h3⟩
  rcases h2 with h2 | h2
  · refine .inl fun d hd => ?_
    have := h2 d hd
    split at this
    · exact ⟨_, _, rfl⟩
    · cases this
  · refine .inr fun d hd => ?_
    have := h2 d hd
    constructor
    · rintro rfl
      cases this
    · rintro ys rfl
      cases this
theorem cr_sortedD (ok : Ok1 X) : CallR X (.builtin "sorted") (rr1 (rSortedD X.K)) := by
  intro pins s σ H vs us Q I r h
  unfold rr1 at h
  split at h
  · rename_i x
    obtain ⟨F, a, ws, xs, sF, rfl, ha, rp, hb, q⟩ := h
    obtain ⟨its, rv, hl, hz⟩ := I.list (.inl (.inl ha))
    rw [Vals.ref1 r]
    obtain ⟨h1, h2, h3⟩ := sortB_iff hb
    obtain ⟨as, ra, _⟩ := Reps.reads ok.sysm I (rp.mono sF) its rv
    have er := PySem.W.readsAll_each (β := PyData) id (vs := its) (bs := xs) (as := as) (by rw [List.map_id]; exact ra)
    have hlen : xs.length = ws.length := rp.len.symm
    refine PySem.W.sorted_data (enc := id) (bs := xs) hl.isList (reps_each rv rp) er h1 h2 (by rw [hlen]; simpa [rv.length] using hz) (fun b hm => by have := h3 b hm; have := ok.un; show _ + 2 + b.depth < _; omega) fun out ho eo => ?_
    obtain ⟨ws', v1, v2⟩ := each_reps (K := X.K) (F := F) eo fun v d z => z
    obtain ⟨ep, he'⟩ := PyProof.Rows.sortedAll_at s.heap its out.toArray
    have hn : ws'.length ≤ sizeLine := by rw [v1.length, ho, hlen]; simpa [rv.length] using hz
    exact ⟨.ref _, upd H (s.heap.objs.size + 1) (.lst ws'), I.laid (t' := s.toks) (fun _ _ => PyProof.Rows.sortedAll_old) (Nat.le_succ _) ⟨hn, out, ep, v1, he'⟩, rfl, q ws' _ v2 (I.hok.fresh (Nat.le_succ _))⟩
  · exact h.elim
theorem os_sorted : OSpec X S (rr1 (rSortedD X.K)) (sh1 gSorted) := os_sh1 fun F σ H env hs ho x d o Q R h1 hf k => by
  unfold gSorted at hf
  split at hf
  · split at hf
    · rename_i hz
      cases hf
      obtain ⟨a, ws, rfl, e1, e2⟩ := h1.list R.sub
      exact ⟨F, a, ws, _, R.sub, rfl, e1, e2, hz, fun ws' p hw hp => fin_l R k hw hp⟩
    · cases hf
  · cases hf

end
end DL

set_option Elab.async false
set_option linter.all false
set_option autoImplicit false
set_option maxRecDepth 100000
/-! Own lists in slots: methods, stores. -/
namespace DL
open PySem PySem.Spec PyProof.Rows L2
section
variable {K : PySem.W.Frag} {S : Sx} {F F' H H' : Hp} {σ : L2.St} {env : DEnv} {hs ws : List V} {ho os : List OD}
/-- the list in slot i is changed, other things are held behind it -/
theorem Rel.mutLH {i : Nat} {ps : List OD} {us : List V} {us' : List OD} (R : Rel K S F σ H env (hs ++ us) (ho ++ us')) (hl : hs.length = ho.length) (e : env[i]? = some (some (.l ps))) :
    ∃ a ws, σ[i]? = some (some (.ref a)) ∧ H a = some (.lst ws) ∧ ws.length = ps.length ∧
      ∀ (ws' : List V) (ps' : List OD) (ys : List V) (ys' : List OD), (∀ F2 H2 fp fq, OReps K F2 H2 ws ps fp → OReps K F2 H2 us us' fq → ∃ fr fy l, OReps K F2 H2 ws' ps' fr ∧ OReps K F2 H2 ys ys' fy ∧ (fp ++ fq).Perm (l ++ (fr ++ fy))) →
        Rel K S F σ (upd H a (.lst ws')) (env.set i (some (.l ps'))) (hs ++ ys) (ho ++ ys') := by
  obtain ⟨f1, f2, a, b, nd, io⟩ := R.rep
  obtain ⟨g1, g2, c, d, rfl⟩ := OReps.split hl b
  obtain ⟨v, fpi, rest, h1, h2, h3, h4⟩ := a.at e
  obtain ⟨p, ws, fp1, rfl, hFp, hHp, hw, rfl⟩ := h2.l_inv
  refine ⟨p, ws, h1, hHp, hw.len, fun ws' ps' ys ys' hch => ?_⟩
  have nd' := nodup_perm_app nd h3
  have nd0 : (p :: (fp1 ++ rest ++ (g1 ++ g2))).Nodup := by simpa [List.append_assoc] using nd'
  have np : ∀ x ∈ fp1 ++ rest ++ (g1 ++ g2), x ≠ p := fun x hx z => (List.nodup_cons.mp nd0).1 (z ▸ hx)
  have hu : ∀ x, x ≠ p → upd H p (.lst ws') x = H x := fun x hx => upd_ne hx
  have w2 := hw.change (F' := F) (H' := upd H p (.lst ws')) (Same.refl _) fun x hx => ⟨(hw.fnone x hx).1, hu x (np x (by simp [hx]))⟩
  have d2 := d.change (F' := F) (H' := upd H p (.lst ws')) (Same.refl _) fun x hx => ⟨(d.fnone x hx).1, hu x (np x (by simp [hx]))⟩
  obtain ⟨fr, fy, l, r1, r3, r2⟩ := hch F _ _ _ w2 d2
  have rst : ∀ x ∈ rest, F x = none ∧ upd H p (.lst ws') x = H x := fun x hx => ⟨(a.fnone x (h3.mem_iff.mpr (by simp [hx]))).1, hu x (np x (by simp [hx]))⟩
  obtain ⟨fp', q1, q2⟩ := h4 F (upd H p (.lst ws')) (.ref p) (.l ps') (p :: fr) (Same.refl _) rst (ORp.mkl hFp upd_same r1)
  have hσ : σ.set i (some (.ref p)) = σ := List.ext_getElem? fun j => by
    rw [List.getElem?_set]
    by_cases hj : i = j
    · subst hj
      rw [if_pos rfl, h1]
      have := (List.getElem?_eq_some_iff.mp h1).1
      rw [if_pos this]
    · rw [if_neg hj]
  rw [hσ] at q1
  have pm : (p :: (fp1 ++ rest ++ (g1 ++ g2))).Perm (l ++ (p :: fr ++ rest ++ (g1 ++ fy))) := by
    have e1 : (fp1 ++ rest ++ (g1 ++ g2)).Perm ((fp1 ++ g2) ++ (rest ++ g1)) := by
      rw [List.append_assoc, List.append_assoc]
      refine List.Perm.append_left fp1 ?_
      have : (rest ++ (g1 ++ g2)).Perm (g2 ++ (rest ++ g1)) := by
        rw [← List.append_assoc]
        exact List.perm_append_comm
      exact this
    have e2 := e1.trans (r2.append_right (rest ++ g1))
    have e3 : (l ++ (fr ++ fy) ++ (rest ++ g1)).Perm (l ++ (fr ++ rest ++ (g1 ++ fy))) := by
      rw [List.append_assoc, List.append_assoc, List.append_assoc]
      refine List.Perm.append_left l (List.Perm.append_left fr ?_)
      rw [← List.append_assoc rest]
      exact List.perm_append_comm
    refine ((e2.trans e3).cons p).trans ?_
    have : (p :: (l ++ (fr ++ rest ++ (g1 ++ fy)))).Perm (l ++ p :: (fr ++ rest ++ (g1 ++ fy))) := List.perm_middle.symm
    simpa using this
  have pm2 : (fp' ++ (g1 ++ fy)).Perm (p :: fr ++ rest ++ (g1 ++ fy)) := q2.append_right _
  refine ⟨fun x o hx => ?_, ⟨fp', g1 ++ fy, q1, (c.change (Same.refl _) fun x hx => ⟨(c.fnone x hx).1, hu x (np x (by simp [hx]))⟩).app r3, ?_, fun x hx => io x ?_⟩, fun x o hx hi => ?_, R.new, R.f0, R.pin⟩
  · rw [hu x fun z => by rw [z, hFp] at hx; cases hx]
    exact R.sub x o hx
  · exact (pm2.nodup_iff).mpr (List.nodup_append.mp ((pm.nodup_iff).mp nd0)).2.1
  · have m1 := pm.mem_iff.mpr (List.mem_append_right l (pm2.mem_iff.mp hx))
    have : x ∈ f1 ++ (g1 ++ g2) := by
      rcases List.mem_cons.mp m1 with rfl | m1
      · exact List.mem_append_left _ (h3.mem_iff.mpr (by simp))
      · simp only [List.mem_append] at m1 ⊢
        rcases m1 with (m1 | m1) | m1 | m1
        · exact .inl (h3.mem_iff.mpr (by simp [m1]))
        · exact .inl (h3.mem_iff.mpr (by simp [m1]))
        · exact .inr (.inl m1)
        · exact .inr (.inr m1)
    exact this
  · have := R.keep x o hx hi
    by_cases hxp : x = p
    · subst hxp
      rcases io x (List.mem_append_left _ (h3.mem_iff.mpr (by simp))) with h | h
      · exact absurd h hi
      · rw [h] at hx; cases hx
    · rw [hu x hxp]; exact this

theorem OReps.erase {H : Hp} : ∀ {ws : List V} {ps : List OD} {fp : List Addr} {j : Nat} {v : V} {o : OD}, OReps K F H ws ps fp → ws[j]? = some v → ps[j]? = some o → ∃ f1 f2, OReps K F H (ws.eraseIdx j) (ps.eraseIdx j) f1 ∧ ORp K F H v o f2 ∧ fp.Perm (f1 ++ f2)
  | [], _, _, j, _, _, _, h, _ => by simp at h
  | _ :: _, [], _, j, _, _, _, _, h => by simp at h
  | w :: ws, p :: ps, fp, j, v, o, r, h1, h2 => by
    obtain ⟨g1, g2, a, b, rfl⟩ := r.inv
    cases j with
    | zero =>
      simp at h1 h2
      subst h1
      subst h2
      exact ⟨g2, g1, b, a, List.perm_append_comm⟩
    | succ j =>
      obtain ⟨f1, f2, c, d, pm⟩ := OReps.erase b (by simpa using h1) (by simpa using h2)
      refine ⟨g1 ++ f1, f2, a.cons c, d, ?_⟩
      rw [List.append_assoc]
      exact pm.append_left g1
theorem OReps.setAt {H : Hp} : ∀ {ws : List V} {ps : List OD} {fp fq : List Addr} {j : Nat} {v : V} {o : OD}, OReps K F H ws ps fp → ORp K F H v o fq → ∃ f1 l, OReps K F H (ws.set j v) (ps.set j o) f1 ∧ (fp ++ fq).Perm (l ++ f1)
  | [], [], _, fq, j, v, o, .nil, _ => ⟨[], fq, by simpa using OReps.nil, by simp⟩
  | [], _ :: _, _, _, _, _, _, r, _ => by have := r.len; simp at this
  | _ :: _, [], _, _, _, _, _, r, _ => by have := r.len; simp at this
  | w :: ws, p :: ps, fp, fq, j, v, o, r, q => by
    obtain ⟨g1, g2, a, b, rfl⟩ := r.inv
    cases j with
    | zero =>
      refine ⟨fq ++ g2, g1, q.cons b, ?_⟩
      rw [List.append_assoc]
      exact List.Perm.append_left g1 List.perm_append_comm
    | succ j =>
      obtain ⟨f1, l, c, pm⟩ := OReps.setAt (j := j) b q
      refine ⟨g1 ++ f1, l, a.cons c, ?_⟩
      rw [List.append_assoc]
      refine (pm.append_left g1).trans ?_
      rw [← List.append_assoc, ← List.append_assoc]
      exact List.perm_append_comm.append_right f1
/-- the first of the last held things goes to the end -/
theorem Rel.rot {v : V} {o : OD} (R : Rel K S F σ H env (hs ++ v :: ws) (ho ++ o :: os)) (hl : hs.length = ho.length) : Rel K S F σ H env (hs ++ ws ++ [v]) (ho ++ os ++ [o]) := by
  obtain ⟨f1, f2, a, b, nd, io⟩ := R.rep
  obtain ⟨g1, g2, c, d, rfl⟩ := OReps.split hl b
  obtain ⟨k1, k2, e1, e2, rfl⟩ := d.inv
  have pm : (f1 ++ (g1 ++ (k1 ++ k2))).Perm (f1 ++ (g1 ++ k2 ++ k1)) := by
    refine List.Perm.append_left f1 ?_
    rw [List.append_assoc]
    exact List.Perm.append_left g1 List.perm_append_comm
  exact ⟨R.sub, ⟨f1, g1 ++ k2 ++ k1, a, (c.app e2).app e1, pm.nodup_iff.mp nd, fun x hx => io x (pm.mem_iff.mpr hx)⟩, R.keep, R.new, R.f0, R.pin⟩
/-- held things are stored, one after another -/
def setAll : List Nat → List V → L2.St → L2.St
  | i :: is, v :: vs, σ => setAll is vs (σ.set i (some v))
  | _, _, σ => σ
def putAll : List Nat → List OD → DEnv → Option DEnv
  | [], [], e => some e
  | i :: is, o :: os, e => if i < e.length then putAll is os (e.set i (some o)) else none
  | _, _, _ => none
theorem Rel.storeAll : ∀ {is : List Nat} {vs : List V} {us : List OD} {σ : L2.St} {env env' : DEnv}, Rel K S F σ H env (hs ++ vs) (ho ++ us) → hs.length = ho.length → vs.length = us.length → putAll is us env = some env' → (∀ p ∈ S.pin, p.1 ∉ is) → Rel K S F (setAll is vs σ) H env' hs ho
  | [], [], [], σ, env, env', R, _, _, e, _ => by cases e; simpa [setAll] using R
  | [], _, _ :: _, _, _, _, _, _, _, e, _ => by cases e
  | [], _ :: _, [], _, _, _, _, _, h, _, _ => by simp at h
  | _ :: _, _, [], _, _, _, _, _, _, e, _ => by cases e
  | _ :: _, [], _ :: _, _, _, _, _, _, h, _, _ => by simp at h
  | i :: is, v :: vs, u :: us, σ, env, env', R, hl, h, e, hp => by
    simp only [putAll] at e
    split at e
    · rename_i hi
      have R1 := R.rot hl
      have hl2 : (hs ++ vs).length = (ho ++ us).length := by simp at h; simp [hl, h]
      have R2 := R1.store hl2 (by rw [R.len]; exact hi) (fun p hp' z => hp p hp' (by simp [z]))
      exact R2.storeAll hl (by simpa using h) e fun p hp' z => hp p hp' (List.mem_cons_of_mem _ z)
    · cases e
end
section
variable {X : Cx} {S : Sx} {W : WX} {K : PySem.W.Frag} {F H : Hp} {a b c : Expr} {qa qb qc : Opd} {pos : Pos} {σ : L2.St} {env : DEnv}

/-! ### xs.append(y), xs.pop(i), xs.pop() -/
def isL (e : DEnv) (i : Nat) : Bool := match e[i]? with
  | some (some (.l _)) => true
  | _ => false
theorem isL_of {i : Nat} (h : isL env i = true) : ∃ ps, env[i]? = some (some (.l ps)) := by
  unfold isL at h
  split at h
  · exact ⟨_, by assumption⟩
  · cases h
theorem slot_ref {ps : List OD} {i : Nat} {hs : List V} {ho : List OD} (R : Rel K S F σ H env hs ho) (e : env[i]? = some (some (.l ps))) : ∃ p ws, σ[i]? = some (some (.ref p)) ∧ H p = some (.lst ws) ∧ ws.length = ps.length := by
  obtain ⟨v, fp, h1, h2⟩ := R.slot e
  obtain ⟨p, ws, f1, rfl, _, h3, h4, _⟩ := ORp.l_inv h2
  exact ⟨p, ws, h1, h3, h4.len⟩
def mMeth1 (i : Nat) (q : Opd) (f : List OD → HE → DEnv → Option (OD × List OD)) : M OD := fun e0 => if isL e0 i then M.bind q.go (fun he e => match e[i]? with
  | some (some (.l ps)) => match f ps he e with
    | some (r, ps') => some (.ok r, e.set i (some (.l ps')))
    | none => none
  | _ => none) e0 else none
theorem de_meth1 {i : Nat} {x nm : Str} {id : String} {e : Expr} {q : Opd} {apos cpos p : Pos} {r : V → List V → Hp → VK → Prop} {f : List OD → HE → DEnv → Option (OD × List OD)} (hm : MtR X id r) (slot : Slot "list" nm id) (hty : typeOf (.builtin id) = pure (.type "method_descriptor"))
    (spec : ∀ F σ H env hs ho ps he v o ps' Q, Left X.K S F σ H env hs ho v he → hs.length = ho.length → env[i]? = some (some (.l ps)) → f ps he env = some (o, ps') → (∀ p, σ[i]? = some (some (.ref p)) → (∀ H' v, Rel X.K S F σ H' (env.set i (some (.l ps'))) (hs ++ [v]) (ho ++ [o]) → Q v H') → r (.ref p) [v] H Q))
    (h : DO X S W e q) (hN : X.N[i]? = some x := by rfl) (hv : Vis X.env.scope x := by first | exact Or.inl rfl | exact Or.inr (Or.inl rfl) | exact Or.inr (Or.inr rfl)) (hd : (x == ("__debug__" : Str)) = false := by decide)
    (hcd : (x == ("__classdict__" : Str)) = false := by decide) (hbase : attributeBase (.Name x p) nm X.env (eval (.Name x p) X.env) = eval (.Name x p) X.env := by rfl)
    (hfew : ((backTo cpos (starEach [e] X.env)).all (fun x => !x.1) && (backToKw cpos (keywordEach [] X.env)).all (fun x => x.1.isSome)
      && decide (([e] : List Expr).length + ([] : List Keyword).length + (if ([] : List Keyword).isEmpty then 0 else 1) < 30)) = true := by rfl)
    (hline : (apos.endLine == cpos.line) = true := by rfl) (hs : starEach [e] X.env = (false, eval e X.env) :: starEach [] X.env := by rfl) (hplain : (backTo cpos (starEach [] X.env)).any (·.1) = false := by rfl) :
    DE X S W (.Call (.Attribute (.Name x p) nm apos) [e] [] cpos) (mMeth1 i q f) := by
  intro F σ H env hs' ho Q R hq
  unfold mMeth1 at hq
  split at hq
  · rename_i hL
    obtain ⟨ps0, e0⟩ := isL_of hL
    obtain ⟨p0, ws0, s0, h0, _⟩ := slot_ref R e0
    refine WE.of (pe_bm PySem.F.plainAttrs_list slot hty hm (pe_var hN hv hd hcd) (pa_cons (pe_we X e) pa_nil hs) hbase hfew hline hs hplain) ⟨_, s0, .inl ⟨rfl, ws0, .inl (.inl h0)⟩, ?_⟩
    refine h F σ H env hs' ho _ R ((Mwp.bind hq).imp (fun he e' _ k F' H' v s L => ?_) fun _ _ _ z => z)
    have R' : ∃ hs1 ho1, Rel X.K S F' σ H' e' hs1 ho1 := by
      cases he with
      | o u => exact ⟨_, _, L⟩
      | al j => exact ⟨_, _, L.2⟩
    split at k
    · rename_i ps e1
      cases ef : f ps he e' with
      | none => rw [ef] at k; exact k.elim
      | some rp =>
        obtain ⟨o, ps'⟩ := rp
        rw [ef] at k
        exact spec F' σ H' e' hs' ho ps he v o ps' Q L R.hlen e1 ef p0 s0 fun H2 v2 R2 => k F' H2 v2 s R2
    · exact k.elim
  · exact hq.elim
def fApp (ps : List OD) (he : HE) (e : DEnv) : Option (OD × List OD) := match he with
  | .o x => if ps.length < sizeLine then some (.d .none, ps ++ [x]) else none
  | _ => none
theorem sp_app {i : Nat} : ∀ F σ H env hs ho ps he v o ps' Q, Left K S F σ H env hs ho v he → hs.length = ho.length → env[i]? = some (some (.l ps)) → fApp ps he env = some (o, ps') → (∀ p, σ[i]? = some (some (.ref p)) → (∀ H' v, Rel K S F σ H' (env.set i (some (.l ps'))) (hs ++ [v]) (ho ++ [o]) → Q v H') → rAppend (.ref p) [v] H Q) := by
  intro F σ H env hs ho ps he v o ps' Q L hl e1 ef p hp k
  cases he with
  | al j => cases ef
  | o x =>
    simp only [fApp] at ef
    split at ef
    · rename_i hz
      cases ef
      obtain ⟨a, ws, h1, h2, h3, h4⟩ := Rel.mutLH (us := [v]) (us' := [x]) L hl e1
      rw [hp] at h1
      cases h1
      refine ⟨p, ws, v, rfl, rfl, h2, by omega, k _ .non ?_⟩
      have z := h4 (ws ++ [v]) (ps ++ [x]) [] [] fun F2 H2 fp fq c d => ⟨fp ++ fq, [], [], c.app d, .nil, by simp⟩
      rw [List.append_nil, List.append_nil] at z
      exact z.push (.non .nil)
    · cases ef
theorem de_append {i : Nat} {x : Str} {e : Expr} {q : Opd} {apos cpos p : Pos} (h : DO X S W e q) (hN : X.N[i]? = some x := by rfl) (hv : Vis X.env.scope x := by first | exact Or.inl rfl | exact Or.inr (Or.inl rfl) | exact Or.inr (Or.inr rfl)) (hd : (x == ("__debug__" : Str)) = false := by decide)
    (hcd : (x == ("__classdict__" : Str)) = false := by decide) (hbase : attributeBase (.Name x p) "append" X.env (eval (.Name x p) X.env) = eval (.Name x p) X.env := by rfl)
    (hfew : ((backTo cpos (starEach [e] X.env)).all (fun x => !x.1) && (backToKw cpos (keywordEach [] X.env)).all (fun x => x.1.isSome)
      && decide (([e] : List Expr).length + ([] : List Keyword).length + (if ([] : List Keyword).isEmpty then 0 else 1) < 30)) = true := by rfl)
    (hline : (apos.endLine == cpos.line) = true := by rfl) (hs : starEach [e] X.env = (false, eval e X.env) :: starEach [] X.env := by rfl) (hplain : (backTo cpos (starEach [] X.env)).any (·.1) = false := by rfl) :
    DE X S W (.Call (.Attribute (.Name x p) "append" apos) [e] [] cpos) (mMeth1 i q fApp) :=
  de_meth1 mt_append PySem.F.slot_list_append PySem.F.type_list_append sp_app h hN hv hd hcd hbase hfew hline hs hplain
def intAt (he : HE) (e : DEnv) : Option Int := match he.rd e with
  | some (.d (.int i)) => some i
  | _ => none
def fPopAt (ps : List OD) (he : HE) (e : DEnv) : Option (OD × List OD) := match intAt he e with
  | some i => if -(2 ^ 63) ≤ i ∧ i < 2 ^ 63 then match seqIndex? i ps.length with
    | some k => match ps[k]? with
      | some o => some (o, ps.eraseIdx k)
      | none => none
    | none => none
    else none
  | none => none
theorem left_int {he : HE} {v : V} {i : Int} {hs : List V} {ho : List OD} (L : Left K S F σ H env hs ho v he) (hl : hs.length = ho.length) (h : intAt he env = some i) : v = .int i ∧ Rel K S F σ H env hs ho := by
  unfold intAt at h
  split at h
  · rename_i j e
    cases h
    cases he with
    | o x =>
      cases e
      have L : Rel K S F σ H env (hs ++ [v]) (ho ++ [.d (.int i)]) := L
      obtain ⟨fp, r⟩ := L.heldReps hl
      exact ⟨(ORp.d_inv r).2.int_inv, L.drop hl⟩
    | al j =>
      obtain ⟨L1, L⟩ := L
      simp only [HE.rd] at e
      cases q0 : env[j]? with
      | none => rw [q0] at e; cases e
      | some oo =>
        rw [q0] at e
        simp only [Option.join_some] at e
        subst e
        obtain ⟨v', fp, h1, h2⟩ := L.slot q0
        rw [h1] at L1
        cases L1
        exact ⟨(ORp.d_inv h2).2.int_inv, L⟩
  · cases h
theorem sp_popAt {i : Nat} : ∀ F σ H env hs ho ps he v o ps' Q, Left K S F σ H env hs ho v he → hs.length = ho.length → env[i]? = some (some (.l ps)) → fPopAt ps he env = some (o, ps') → (∀ p, σ[i]? = some (some (.ref p)) → (∀ H' v, Rel K S F σ H' (env.set i (some (.l ps'))) (hs ++ [v]) (ho ++ [o]) → Q v H') → rPopAt (.ref p) [v] H Q) := by
  intro F σ H env hs ho ps he v o ps' Q L hl e1 ef p hp k
  unfold fPopAt at ef
  split at ef
  · rename_i j ej
    obtain ⟨rfl, R⟩ := left_int L hl ej
    split at ef
    · rename_i hz
      split at ef
      · rename_i k' ek
        split at ef
        · rename_i o' eo
          cases ef
          obtain ⟨a, ws, h1, h2, h3, h4⟩ := Rel.mutLH (us := []) (us' := []) (by simpa using R) hl e1
          rw [hp] at h1
          cases h1
          have hk : k' < ws.length := by rw [h3]; exact (List.getElem?_eq_some_iff.mp eo).1
          refine ⟨p, ws, j, k', ws[k'], rfl, rfl, h2, hz.1, hz.2, by rw [h3]; exact ek, List.getElem?_eq_getElem hk, k _ _ ?_⟩
          refine h4 (ws.eraseIdx k') (ps.eraseIdx k') [ws[k']] [o] fun F2 H2 fp fq c d => ?_
          obtain ⟨f1, f2, c1, c2, pm⟩ := OReps.erase c (List.getElem?_eq_getElem hk) eo
          cases d
          exact ⟨f1, f2, [], c1, c2, by simpa using pm⟩
        · cases ef
      · cases ef
    · cases ef
  · cases ef
theorem de_popAt {i : Nat} {x : Str} {e : Expr} {q : Opd} {apos cpos p : Pos} (h : DO X S W e q) (hN : X.N[i]? = some x := by rfl) (hv : Vis X.env.scope x := by first | exact Or.inl rfl | exact Or.inr (Or.inl rfl) | exact Or.inr (Or.inr rfl)) (hd : (x == ("__debug__" : Str)) = false := by decide)
    (hcd : (x == ("__classdict__" : Str)) = false := by decide) (hbase : attributeBase (.Name x p) "pop" X.env (eval (.Name x p) X.env) = eval (.Name x p) X.env := by rfl)
    (hfew : ((backTo cpos (starEach [e] X.env)).all (fun x => !x.1) && (backToKw cpos (keywordEach [] X.env)).all (fun x => x.1.isSome)
      && decide (([e] : List Expr).length + ([] : List Keyword).length + (if ([] : List Keyword).isEmpty then 0 else 1) < 30)) = true := by rfl)
    (hline : (apos.endLine == cpos.line) = true := by rfl) (hs : starEach [e] X.env = (false, eval e X.env) :: starEach [] X.env := by rfl) (hplain : (backTo cpos (starEach [] X.env)).any (·.1) = false := by rfl) :
    DE X S W (.Call (.Attribute (.Name x p) "pop" apos) [e] [] cpos) (mMeth1 i q fPopAt) :=
  de_meth1 mt_popAt PySem.F.slot_list_pop PySem.F.type_list_pop sp_popAt h hN hv hd hcd hbase hfew hline hs hplain

/-! ### xs[k] = y -/
theorem WE.imp {e : Expr} {Q Q' : VK} (h : WE X e σ H Q) (k : ∀ v H', Q v H' → Q' v H') : WE X e σ H Q' := ⟨fun pins s I =>
  wpAny_mono (h.run pins s I) (fun _ _ ⟨v, H', J, r, q⟩ => ⟨v, H', J, r, k v H' q⟩) fun _ _ z => z⟩
def mSetL (i : Nat) (qv qi : Opd) : M Fl := fun e0 => if isL e0 i then M.bind (args [qv, qi]) (fun hes e => match hes with
  | [.o x, hi] => match intAt hi e, e[i]? with
    | some k, some (some (.l ps)) => match ixN ps.length k with
      | some j => some (.ok .nx, e.set i (some (.l (ps.set j x))))
      | none => none
    | _, _ => none
  | _ => none) e0 else none
theorem ds_setL {i : Nat} {x : Str} {ix e : Expr} {qv qi : Opd} {p pos' : Pos} (h1 : DO X S W e qv) (h2 : DO X S W ix qi) (hN : X.N[i]? = some x := by rfl) (hv : Vis X.env.scope x := by first | exact Or.inl rfl | exact Or.inr (Or.inl rfl) | exact Or.inr (Or.inr rfl)) (hd : (x == ("__debug__" : Str)) = false := by decide)
    (hcd : (x == ("__classdict__" : Str)) = false := by decide)
    (ha : ∀ v, assign (.Subscript (.Name x p) ix pos') X.env v = (do
      let ov ← holding [v] (eval (.Name x p) X.env)
      let iv ← holding [v, ov] (eval ix X.env)
      standAt pos'
      holding [v, ov, iv] (setItem ov iv v)
      release [v, ov, iv] []) := by intro _; rfl)
    (hs : swapsWithSole [.Subscript (.Name x p) ix pos'] e pos.line X.env = pure false := by rfl) (hw : swappedStores [.Subscript (.Name x p) ix pos'] e X.env = pure none := by rfl)
    (h0 : (assignEach [.Subscript (.Name x p) ix pos'] X.env).map (·.2) = [assign (.Subscript (.Name x p) ix pos') X.env] := by rfl) :
    DS X S W (.Assign [.Subscript (.Name x p) ix pos'] e pos) (mSetL i qv qi) := by
  intro F σ H env D R q
  refine WS.of (ps_asg (pe_we X e) (pg_sub (pe_var hN hv hd hcd) (pe_we X ix) set_list ha) hs hw h0) ?_
  unfold mSetL at q
  split at q
  · rename_i hL
    obtain ⟨ps0, e0⟩ := isL_of hL
    obtain ⟨p0, ws0, s0, _, _⟩ := slot_ref R e0
    refine WE.imp (DA2 (Q := fun v y H' => rSetL (.ref p0) y v H' fun H4 => D.nx σ H4) h1 h2 R ((Mwp.bind q).imp (fun hes e' _ k F' H' v y hvs hos s mt R' => ?_) fun _ _ _ z => z.q)) fun v H1 z => ⟨_, s0, z⟩
    match hes, mt, k with
    | [.o u, hi], mt, k =>
      simp only at k
      cases hk : intAt hi e' with
      | none => rw [hk] at k; exact k.elim
      | some kk =>
        rw [hk] at k
        cases eo : e'[i]? with
        | none => rw [eo] at k; exact k.elim
        | some oo =>
          rw [eo] at k
          cases oo with
          | none => exact k.elim
          | some o =>
            cases o with
            | l ps =>
              simp only at k
              cases ej : ixN ps.length kk with
              | none => rw [ej] at k; exact k.elim
              | some j =>
                rw [ej] at k
                have R1 : Rel X.K S F' σ H' e' [v] [u] ∧ y = .int kk := by
                  cases mt with
                  | o m2 =>
                    cases m2 with
                    | @o u2 _ _ _ hvs2 hos2 m3 =>
                      cases m3
                      have L : Left X.K S F' σ H' e' [v] [u] y (.o u2) := R'
                      exact ⟨(left_int L rfl hk).2, (left_int L rfl hk).1⟩
                    | @al i2 _ _ _ hvs2 hos2 hσ m3 =>
                      cases m3
                      have L : Left X.K S F' σ H' e' [v] [u] y (.al i2) := ⟨hσ, R'⟩
                      exact ⟨(left_int L rfl hk).2, (left_int L rfl hk).1⟩
                obtain ⟨R1, rfl⟩ := R1
                obtain ⟨a, ws, z1, z2, z3, z4⟩ := Rel.mutLH (hs := []) (ho := []) (us := [v]) (us' := [u]) R1 rfl eo
                rw [s0] at z1
                cases z1
                refine ⟨p0, ws, kk, j, rfl, rfl, z2, by rw [z3]; exact ej, k F' σ _ s ?_⟩
                refine z4 (ws.set j v) (ps.set j u) [] [] fun F2 H2 fp fq c d => ?_
                obtain ⟨f1, l, c1, pm⟩ := OReps.setAt (j := j) c d
                exact ⟨f1, [], l, c1, .nil, by simpa using pm⟩
            | d _ => exact k.elim
            | m _ _ => exact k.elim
            | s _ => exact k.elim
  · exact q.elim

/-! ### a, b = e, f : the values held, then stored -/
def mStores (is : List Nat) (qs : List Opd) : M Fl := M.bind (args qs) fun hes e => match allO hes with
  | some os => match putAll is os e with
    | some e' => some (.ok .nx, e')
    | none => none
  | none => none
theorem ds_par {i j : Nat} {x y : Str} {qs : List Opd} {px py pt : Pos} {kt k2 pt2} (hc : X.calm = true) (ha : DAs X S W [a, b] qs) (hN : X.N.Nodup) (hp : ∀ p ∈ S.pin, p.1 ∉ [i, j]) (hij : i ≠ j) (hi : X.N[i]? = some x := by rfl) (hj : X.N[j]? = some y := by rfl)
    (hx : X.env.scope.names.lookup x = some .local := by rfl) (hy : X.env.scope.names.lookup y = some .local := by rfl)
    (hw : swappedStores [.Tuple [.Name x px, .Name y py] kt pt] (.Tuple [a, b] k2 pt2) X.env = pure (some [x, y]) := by rfl)
    (hs : swapsWithSole [.Tuple [.Name x px, .Name y py] kt pt] (.Tuple [a, b] k2 pt2) pos.line X.env = pure false := by rfl) :
    DS X S W (.Assign [.Tuple [.Name x px, .Name y py] kt pt] (.Tuple [a, b] k2 pt2) pos) (mStores [i, j] qs) := by
  intro F σ H env D R q
  refine WS.of (ps_par hc hN hi hj hij hx hy (pa_wa X _) hw hs) (ha.run F σ H env [] [] _ R ((Mwp.bind q).imp (fun hes e' _ k F' H' vs hvs hos s mt R' => ?_) fun _ _ _ z => z.q))
  cases e : allO hes with
  | none => rw [e] at k; exact k.elim
  | some os =>
    rw [e] at k
    simp only at k
    obtain ⟨rfl, rfl⟩ := mt_allO mt e
    have hlen := mt.hlen
    cases e2 : putAll [i, j] hos e' with
    | none => rw [e2] at k; exact k.elim
    | some e3 =>
      rw [e2] at k
      have R1 := Rel.storeAll (hs := []) (ho := []) R' rfl hlen e2 hp
      match hos, e2, hlen with
      | [o1, o2], e2, hlen =>
        match vs, hlen with
        | [v, w], _ => exact ⟨v, w, rfl, k F' _ H' s R1⟩
      | [], e2, _ => cases e2
      | [_], e2, _ =>
        simp only [putAll] at e2
        split at e2 <;> cases e2
      | _ :: _ :: _ :: _, e2, _ =>
        simp only [putAll] at e2
        split at e2
        · split at e2 <;> cases e2
        · cases e2
/-- any length, names that are cells too -/
theorem ds_tupAsg {es tgs : List Expr} {is : List Nat} {n : Nat} {gs : TGs} {qs : List Opd} {kt k2 : Nat} {pt pt2 : Pos} (hc : X.calm = true) (ha : DAs X S W es qs) (hgs : PGs X tgs gs) (hn : is.length = n) (hp : ∀ p ∈ S.pin, p.1 ∉ is)
    (hg : ∀ vs σ H Q, vs.length = n → Q (setAll is vs σ) H → gs vs σ H Q) (hz : n ≤ 1000)
    (hlen : (assignEach tgs X.env).length = n := by rfl) (hst : (assignEach tgs X.env).findIdx? (·.1) = none := by rfl)
    (hs : swapsWithSole [.Tuple tgs kt pt] (.Tuple es k2 pt2) pos.line X.env = pure false := by rfl) (hw : swappedStores [.Tuple tgs kt pt] (.Tuple es k2 pt2) X.env = pure none := by rfl)
    (h1 : (assignEach [.Tuple tgs kt pt] X.env).map (·.2) = [assign (.Tuple tgs kt pt) X.env] := by rfl) :
    DS X S W (.Assign [.Tuple tgs kt pt] (.Tuple es k2 pt2) pos) (mStores is qs) := by
  intro F σ H env D R q
  refine WS.of (ps_asg (pe_tup (pa_wa X es)) (pg_tup hc hgs hlen hst) hs hw h1) (ha.run F σ H env [] [] _ R ((Mwp.bind q).imp (fun hes e' _ k F' H' vs hvs hos s mt R' => ?_) fun _ _ _ z => z.q))
  cases e : allO hes with
  | none => rw [e] at k; exact k.elim
  | some os =>
    rw [e] at k
    simp only at k
    obtain ⟨rfl, rfl⟩ := mt_allO mt e
    have hlen' := mt.hlen
    cases e2 : putAll is hos e' with
    | none => rw [e2] at k; exact k.elim
    | some e3 =>
      rw [e2] at k
      have cnt : ∀ (is : List Nat) (os : List OD) (e e' : DEnv), putAll is os e = some e' → is.length = os.length := by
        intro is
        induction is with
        | nil =>
          intro os e e' h
          cases os with
          | nil => rfl
          | cons => cases h
        | cons i is ih =>
          intro os e e' h
          cases os with
          | nil => cases h
          | cons o os =>
            simp only [putAll] at h
            split at h
            · simp [ih _ _ _ h]
            · cases h
      have hl2 : vs.length = n := by rw [hlen', ← cnt _ _ _ _ e2, hn]
      refine ⟨by rw [hl2]; exact Nat.le_trans hz (by decide), fun p hp' => ⟨p, vs, rfl, .inl (.inl upd_same), hl2, hg vs σ _ _ hl2 ?_⟩⟩
      have R1 := (R'.grow (u := .tup vs) hp').storeAll (hs := []) (ho := []) rfl hlen' e2 hp
      exact k F' _ _ s R1

/-! ### x op= e -/
def mAug (i : Nat) (g : List OD → Option OD) (q : Opd) : M Fl := fun e0 => match e0[i]? with
  | some (some (.d x)) => M.bind q.go (fun he e => match he.rd e with
    | none => none
    | some o => match g [.d x, o] with
      | none => none
      | some r => if i < e.length then some (.ok .nx, e.set i (some r)) else none) e0
  | _ => none
theorem ds_aug {i : Nat} {x : Str} {e : Expr} {op : Operator} {r : R2} {g : List OD → Option OD} {q : Opd} {pos' : Pos} (ho : OpR X (inplaceOp op) r) (sp : OSpec X S (rr2 r) g) (h : DO X S W e q) (hN : X.N.Nodup) (hp : ∀ p ∈ S.pin, p.1 ≠ i) (hi : X.N[i]? = some x := by rfl)
    (hx : Loc X.env.scope x := by first | exact Or.inl rfl | exact Or.inr rfl) (hf : X.fn x = true ∨ X.env.scope.names.lookup x = some .local := by first | exact .inl rfl | exact .inr rfl | assumption) : DS X S W (.AugAssign (.Name x pos') op e pos) (mAug i g q) := by
  intro F σ H env D R hq
  unfold mAug at hq
  split at hq
  · rename_i d e0
    obtain ⟨v, fp, h1, h2⟩ := R.slot e0
    have rp := (ORp.d_inv h2).2
    refine WS.of (ps_aug hN hi hx (pe_we X e) (fun pins s σ H x y v u Q I r1 r2 t => ho pins s σ H x y v u Q I r1 r2 t) hf) ⟨v, h1, ?_⟩
    refine h F σ H env [] [] _ R ((Mwp.bind hq).imp (fun he e' _ k F' H' w s L => ?_) fun _ _ _ z => z.q)
    cases e1 : he.rd e' with
    | none => rw [e1] at k; exact k.elim
    | some o =>
      rw [e1] at k
      simp only at k
      cases e2 : g [.d d, o] with
      | none => rw [e2] at k; exact k.elim
      | some r' =>
        rw [e2] at k
        simp only at k
        split at k
        · rename_i hlt
          have both : Rel X.K S F' σ H' e' [] [] ∧ ∃ fp, ORp X.K F' H' w o fp := by
            cases he with
            | o u =>
              cases e1
              have L : Rel X.K S F' σ H' e' ([] ++ [w]) ([] ++ [o]) := L
              exact ⟨L.drop rfl, L.heldReps rfl⟩
            | al j =>
              obtain ⟨L1, L⟩ := L
              simp only [HE.rd] at e1
              cases q0 : e'[j]? with
              | none => rw [q0] at e1; cases e1
              | some oo =>
                rw [q0] at e1
                simp only [Option.join_some] at e1
                subst e1
                obtain ⟨v', fp, g1, g2⟩ := L.slot q0
                rw [g1] at L1
                cases L1
                exact ⟨L, fp, g2⟩
          obtain ⟨R', fp2, rw2⟩ := both
          refine sp F' σ H' e' [] [] [v, w] [.d d, o] r' _ R' (.cons (ORp.mkd (rp.mono s)) (.cons rw2 .nil)) e2 fun F2 H2 z s2 R2 => ?_
          exact k F2 _ H2 (s.trans s2) (R2.store (hs := []) (ho := []) rfl (by rw [R2.len]; exact hlt) hp)
        · exact k.elim
  · exact hq.elim
end
end DL

set_option Elab.async false
set_option linter.all false
set_option autoImplicit false
set_option maxRecDepth 100000
/-! How many different texts: len(set(xs)). -/
namespace DL
open PySem PySem.Spec PyProof.Rows L2

def nubN (xs : List Str) : Nat := xs.eraseDups.length
theorem nubN_snoc (xs : List Str) (x : Str) : nubN (xs ++ [x]) = if decide (x ∈ xs) then nubN xs else nubN xs + 1 := by
  unfold nubN
  rw [List.eraseDups_append, List.length_append]
  by_cases h : x ∈ xs
  · have : [x].removeAll xs = [] := by simp [List.removeAll, h]
    rw [this]
    simp [h]
  · have : [x].removeAll xs = [x] := by simp [List.removeAll, h]
    rw [this]
    simp [h, List.eraseDups_cons]
section
variable {prog : Program} {w : World} {A : Around} {R : Result → Shared → Prop} {I : Addr} {fp wr : List Addr} {G : Array GenState → Array GenState → Prop} {n : Nat} {P : Nat → Value → Prop} {St : Nat → Shared → Prop}
/-- the loop of set(xs), from turn i on -/
theorem nub_loop (W : WalksS prog w A.in1 I fp wr G n P St) (D : Addr) (hD : D ∉ fp) (xs : List Str) (hsz : xs.length = n) (hb : n + 1 < scanBound) (hval : ∀ i v, P i v → ∃ t, v = .str (xs.getD i Str.empty) t) (k : Nat) :
    ∀ (i : Nat) (s : Shared), i + k = n → St i s → s.heap.SetOf (PySem.strKind prog w) D (fun y => decide (y ∈ xs.take i)) (nubN (xs.take i)) →
      (∀ s', Moved (D :: wr) G s s' → s'.heap.SetOf (PySem.strKind prog w) D (fun y => decide (y ∈ xs)) (nubN xs) → R (.ok (.ret .none)) s') →
      codeAny (model prog w) A (.builtin "set.update.loop" ⟨[.ref D, .ref I], []⟩) R s := by
  have out : D ∉ wr := fun h => hD (W.sub _ h)
  have wide : ∀ b ∈ wr, b ∈ D :: wr := fun b h => List.mem_cons_of_mem _ h
  have carry : ∀ {h h' : Heap} {S : Str → Bool} {m : Nat}, (∀ b o, b ∉ wr → h.get? b = some o → h'.get? b = some o) → h.SetOf (PySem.strKind prog w) D S m → h'.SetOf (PySem.strKind prog w) D S m := by
    rintro h h' S m mv ⟨o, es, ep, tb, ho, rest⟩
    exact ⟨o, es, ep, tb, mv D _ out ho, rest⟩
  have small : ∀ i : Nat, nubN (xs.take i) ≤ i := by
    intro i
    induction i with
    | zero => simp [nubN]
    | succ i ih =>
      by_cases hi : i < xs.length
      · rw [List.take_succ_eq_append_getElem hi, nubN_snoc]
        split <;> omega
      · have e1 : xs.take (i + 1) = xs.take i := by rw [List.take_of_length_le (by omega), List.take_of_length_le (by omega)]
        rw [e1]
        omega
  induction k with
  | zero =>
    intro i s hk hst hS hR
    have hin : i = n := by omega
    subst hin
    rw [← hsz, List.take_length] at hS
    refine codeAny_builtin PyProof.Rows.F.entry_set_update_loop ?_
    rw [Around.under_plainId PyProof.Rows.F.plain_set_update_loop _]
    show wpAny _ A.in1 (pyNext (.ref I) >>= _) _ _ s
    refine wpAny_bind (W.done s _ _ hst fun s' mv => wpAny_pure (hR s' (mv.mono wide) (carry mv.heap hS)))
  | succ k ih =>
    intro i s hk hst hS hR
    have hi : i < xs.length := by omega
    refine codeAny_builtin PyProof.Rows.F.entry_set_update_loop ?_
    rw [Around.under_plainId PyProof.Rows.F.plain_set_update_loop _]
    show wpAny _ A.in1 (pyNext (.ref I) >>= _) _ _ s
    refine wpAny_bind (W.item i s _ _ (by omega) hst fun v s' hP hst' mv => ?_)
    obtain ⟨t, rfl⟩ := hval i v hP
    have gx : xs.getD i Str.empty = xs[i] := by rw [List.getD_eq_getElem?_getD, List.getElem?_eq_getElem hi]; rfl
    rw [gx]
    have hS' := carry mv.heap hS
    show wpAny _ A.in1 (holding [Value.str xs[i] t] (setAdd D (.str xs[i] t)) >>= _) _ _ s'
    refine wpAny_bind (wpAny_holding ?_)
    unfold setAdd
    refine wpAny_holding (wpAny_bind ((PySem.strKind prog w).pyHash (k := xs[i]) (strKind_is _ _ _ _) ?_))
    have room : nubN (xs.take i) + 1 < scanBound := by have := small i; omega
    refine wpAny_setAddHashed_of (knd := PySem.strKind prog w) (s := { s' with toks := s'.toks + 1 }) (strKind_is _ _ _ _) rfl hS' room fun h' but hS2 => ?_
    have hS3 : h'.SetOf (PySem.strKind prog w) D (fun y => decide (y ∈ xs.take (i + 1))) (nubN (xs.take (i + 1))) := by
      rw [List.take_succ_eq_append_getElem hi]
      refine SetOf_congr hS2 (fun y => ?_) (nubN_snoc _ _).symm
      simp only [List.mem_append, List.mem_singleton, Bool.decide_or]
    refine wpAny_pure ⟨plainId_quiet PyProof.Rows.F.plain_set_update_loop _, ih (i + 1) _ (by omega) (W.frame _ s' _ _ hst' (Nat.le_succ _) fun b hb o e => ?_) hS3 fun s'' mv2 hS4 => ?_⟩
    · rw [but.2 b fun z => hD (z ▸ hb)]
      exact e
    · refine hR s'' (Moved.trans W.gtrans ((mv.mono wide).then_heap (Nat.le_succ _) fun b o hb e => ?_) mv2) hS4
      rw [but.2 b fun z => hb (z ▸ List.mem_cons_self)]
      exact e
end
section
variable {prog : Program} {w : World} {A : Around} {E : Value → Shared → Prop} {s : Shared}

set_option maxHeartbeats 3200000 in
/-- set(xs), xs at l a list or a tuple (T) -/
theorem set_made {T : String} {l : Addr} {items : Array Value} {xs : List Str} {Q : Value → Shared → Prop} (hh : A.handled = none) (hl : ∃ o n, s.heap.get? l = some o ∧ o.cls = .type T ∧ o.data = .seq items n)
    (t1 : isSubtype (.type T) (.type "set") = pure false) (t2 : isSubtype (.type T) (.type "frozenset") = pure false) (t3 : (Value.type T == Value.type "dict") = false) (itc : String)
    (iter : ∀ (A : Around) (E : Value → Shared → Prop) (s : Shared) (Q : Value → Shared → Prop), (∃ o n, s.heap.get? l = some o ∧ o.cls = .type T ∧ o.data = .seq items n) →
      Q (.ref s.heap.objs.size) { s with heap := s.heap.push { cls := .type itc, data := .fields #[.ref l, .int 0 0] } } → wpAny (model prog w) A (pyIter (.ref l)) Q E s)
    (wk : ∀ (A : Around) (I : Addr), A.handled = none → l ≠ I → ∃ St : Nat → Heap → Prop, Walks prog w A I [I, l] [I] items.size (fun i v => items[i]? = some v) St ∧ ∀ h : Heap, h.get? I = some { cls := .type itc, data := .fields #[.ref l, .int 0 0] } → (∃ o n, h.get? l = some o ∧ o.cls = .type T ∧ o.data = .seq items n) → St 0 h)
    (hi : PyProof.Rows.StrsAre items.toList xs) (hb : xs.length + 1 < scanBound)
    (h : ∀ (h' : Heap) (tk : Nat), h'.SetOf (PySem.strKind prog w) s.heap.objs.size (fun y => decide (y ∈ xs)) (nubN xs) → (∀ b o, b < s.heap.objs.size → s.heap.get? b = some o → h'.get? b = some o) → Q (.ref s.heap.objs.size) { s with heap := h', toks := tk }) :
    wpAny (model prog w) A (call (.type "set") [.ref l]) Q E s := by
  have f1 := PySem.F.called_set.made
  have f2 := PySem.F.called_set.sub
  have f3 := PySem.F.called_set.notType
  have f4 := PySem.F.called_set.canCreate
  have f5 := PySem.F.typeCall_set_1 (.ref l)
  obtain ⟨mc, mt, f6⟩ := PySem.F.called_set.mro
  refine wpAny_call (codeAny_of_tree ?_)
  show wpAny _ _ (callAny (.type "set") _) _ _ _
  refine wpAny_pure ⟨Code.quiet_builtin _ (by decide +kernel), codeAny_builtin PySem.F.entry_type_call ?_⟩
  rw [Around.under_plain (weight_type_call_type "set" [.ref l] []) rfl]
  repeat (any_goals (first | assumption | wp_step))
  refine codeAny_mono (code_set_new_1 (.ref l) (E := E) (Q₁ := fun obj s₁ => ∃ led : Bool, obj = .ref s.heap.objs.size ∧ s₁ = { s with heap := s.heap.push { cls := .type "set", dict := none, data := .set #[] 0 (.fresh 0 0 led) } }) fun led => ⟨led, rfl, rfl⟩) fun r s₁ made => ?_
  match r, made with
  | .ok (.ret obj), made =>
    obtain ⟨led, rfl, rfl⟩ := made
    have atS : (s.heap.push { cls := .type "set", dict := none, data := .set #[] 0 (.fresh 0 0 led) }).get? s.heap.objs.size = some { cls := .type "set", dict := none, data := .set #[] 0 (.fresh 0 0 led) } := Heap.get?_push_size _ rfl
    have tyS : Shared.TypeIs { s with heap := s.heap.push { cls := .type "set", dict := none, data := .set #[] 0 (.fresh 0 0 led) } } (.ref s.heap.objs.size) "set" := ⟨_, atS, rfl⟩
    have f7 := PySem.F.called_set.init.lookup
    have f8 := PySem.F.called_set.init.bind (.ref s.heap.objs.size)
    repeat (any_goals (first | assumption | wp_step))
    refine codeAny_mono (codeAny_call_builtin (R := wants (fun r s₂ => r = .none ∧ ∃ h' tk, s₂ = { s with heap := h', toks := tk } ∧ h'.SetOf (PySem.strKind prog w) s.heap.objs.size (fun y => decide (y ∈ xs)) (nubN xs) ∧
      (∀ b o, b < s.heap.objs.size → s.heap.get? b = some o → h'.get? b = some o)) E) PySem.F.called_set.init.plain PySem.F.entry_set_init (check_set_init_1 tyS ?_)) fun r₂ s₂ fin => ?_
    · obtain ⟨ol, nl, ol1, ol2, ol3⟩ := hl
      obtain ⟨oc, odi, oda, osl⟩ := ol
      simp only at ol2 ol3
      subst ol2
      subst ol3
      have lS : l < s.heap.objs.size := Heap.lt_size ol1
      have atl : (s.heap.push { cls := .type "set", dict := none, data := .set #[] 0 (.fresh 0 0 led) }).get? l = some { cls := .type T, dict := odi, data := .seq items nl, slots := osl } := Heap.get?_push_of_some _ ol1
      unfold Builtin.«set.__init__» noKeywords Builtin.Frozenset.updateFrom
      generalize hPI : pyIter = PI
      wp_walk
      subst hPI
      refine iter _ _ { s with heap := s.heap.push { cls := .type "set", dict := none, data := .set #[] 0 (.fresh 0 0 led) } } _ ⟨{ cls := .type T, dict := odi, data := .seq items nl, slots := osl }, nl, atl, rfl, rfl⟩ ?_
      refine wpAny_bind (wpAny_runValue ?_)
      have nI : l ≠ (s.heap.push { cls := .type "set", dict := none, data := .set #[] 0 (.fresh 0 0 led) }).objs.size := by rw [Heap.size_push]; exact Nat.ne_of_lt (Nat.lt_succ_of_lt lS)
      have nS : s.heap.objs.size ∉ [(s.heap.push { cls := .type "set", dict := none, data := .set #[] 0 (.fresh 0 0 led) }).objs.size, l] := by
        rw [Heap.size_push]
        simp only [List.mem_cons, List.not_mem_nil, or_false, not_or]
        exact ⟨Nat.ne_of_lt (Nat.lt_succ_self _), Nat.ne_of_gt lS⟩
      have cnt : xs.length = items.size := by rw [← StrsAre.len_eq hi, Array.length_toList]
      obtain ⟨St, Wk, st0⟩ := wk A.in1.in1.in1 (s.heap.push { cls := .type "set", dict := none, data := .set #[] 0 (.fresh 0 0 led) }).objs.size (by simp [hh]) nI
      refine nub_loop (Wk.toS) s.heap.objs.size nS xs cnt (by rw [← cnt]; exact hb) (fun i v hv => SS.strs_at hi i v (by rw [Array.getElem?_toList]; exact hv)) items.size 0 _ (by omega)
        (st0 _ (Heap.get?_push_size _ rfl) ⟨{ cls := .type T, dict := odi, data := .seq items nl, slots := osl }, nl, Heap.get?_push_of_some _ atl, rfl, rfl⟩) ?_ ?_
      · have g : ((s.heap.push { cls := .type "set", dict := none, data := .set #[] 0 (.fresh 0 0 led) }).push { cls := .type itc, data := .fields #[.ref l, .int 0 0] }).get? s.heap.objs.size = some { cls := .type "set", dict := none, data := .set #[] 0 (.fresh 0 0 led) } := Heap.get?_push_of_some _ atS
        exact PyProof.Rows.SetOf_congr ((PyProof.Rows.setObjOf_fresh (knd := PySem.strKind prog w) led).setOf g (by unfold scanBound; omega)) (fun _ => by simp) (by simp [nubN])
      · intro s' mv set'
        obtain ⟨h', g', d', tk', os'⟩ := s'
        obtain rfl : g' = s.gens := mv.gens
        obtain rfl : d' = s.drawn := mv.drawn
        obtain rfl : os' = s.os := mv.os
        refine wpAny_pure (wpAny_pure ⟨rfl, h', tk', rfl, set', fun b o hb' e => ?_⟩)
        refine mv.heap b o ?_ (Heap.get?_push_of_some _ (Heap.get?_push_of_some _ e))
        simp only [List.mem_cons, List.not_mem_nil, or_false, not_or]
        rw [Heap.size_push]
        exact ⟨Nat.ne_of_lt hb', Nat.ne_of_lt (Nat.lt_succ_of_lt hb')⟩
    · match r₂, fin with
      | .ok (.ret r), fin =>
        obtain ⟨rfl, h', tk, rfl, set', kp⟩ := fin
        repeat (any_goals (first | assumption | wp_step))
        exact h _ _ set' kp
      | .error e, fin => exact fin
  | .error e, made => exact made
theorem set_list {l : Addr} {items : Array Value} {xs : List Str} {Q : Value → Shared → Prop} (hh : A.handled = none) (hl : s.heap.IsList l items) (hi : PyProof.Rows.StrsAre items.toList xs) (hb : xs.length + 1 < scanBound)
    (h : ∀ (h' : Heap) (tk : Nat), h'.SetOf (PySem.strKind prog w) s.heap.objs.size (fun y => decide (y ∈ xs)) (nubN xs) → (∀ b o, b < s.heap.objs.size → s.heap.get? b = some o → h'.get? b = some o) → Q (.ref s.heap.objs.size) { s with heap := h', toks := tk }) :
    wpAny (model prog w) A (call (.type "set") [.ref l]) Q E s := by
  have un : ∀ {h : Heap}, h.IsList l items ↔ ∃ o n, h.get? l = some o ∧ o.cls = .type "list" ∧ o.data = .seq items n := fun {h} => ⟨fun ⟨o, a, b, n, c⟩ => ⟨o, n, a, b, c⟩, fun ⟨o, n, a, b, c⟩ => ⟨o, a, b, n, c⟩⟩
  exact set_made hh (un.mp hl) PySem.F.sub_list_set PySem.F.sub_list_frozenset (by decide) "list_iterator" (fun A E s Q h q => wpAny_pyIter_list (un.mpr h) q)
    (fun A I ha ne => ⟨_, Walks.list ha I l ne items, fun h h1 h2 => ⟨⟨_, h1, rfl, rfl⟩, un.mpr h2⟩⟩) hi hb h
theorem set_tuple {l : Addr} {items : Array Value} {xs : List Str} {Q : Value → Shared → Prop} (hh : A.handled = none) (hl : s.heap.IsTuple l items) (hi : PyProof.Rows.StrsAre items.toList xs) (hb : xs.length + 1 < scanBound)
    (h : ∀ (h' : Heap) (tk : Nat), h'.SetOf (PySem.strKind prog w) s.heap.objs.size (fun y => decide (y ∈ xs)) (nubN xs) → (∀ b o, b < s.heap.objs.size → s.heap.get? b = some o → h'.get? b = some o) → Q (.ref s.heap.objs.size) { s with heap := h', toks := tk }) :
    wpAny (model prog w) A (call (.type "set") [.ref l]) Q E s := by
  have un : ∀ {h : Heap}, h.IsTuple l items ↔ ∃ o n, h.get? l = some o ∧ o.cls = .type "tuple" ∧ o.data = .seq items n := fun {h} => ⟨fun ⟨o, a, b, n, c⟩ => ⟨o, n, a, b, c⟩, fun ⟨o, n, a, b, c⟩ => ⟨o, a, b, n, c⟩⟩
  exact set_made hh (un.mp hl) PySem.F.sub_tuple_set PySem.F.sub_tuple_frozenset (by decide) "tuple_iterator" (fun A E s Q h q => wpAny_pyIter_tuple (un.mpr h) q)
    (fun A I ha ne => ⟨_, Walks.tuple ha I l ne items, fun h h1 h2 => ⟨⟨_, h1, rfl, rfl⟩, un.mpr h2⟩⟩) hi hb h
end

/-! ### len(set(e)) -/
def strsOf : List PyData → Option (List Str)
  | [] => some []
  | .str x :: ds => (strsOf ds).map (x :: ·)
  | _ => none
theorem strs_rep {K : PySem.W.Frag} {F : Hp} : ∀ {ds : List PyData} {vs : List V} {xs : List Str}, Reps K F vs ds → strsOf ds = some xs → vs = xs.map V.str
  | [], [], _, _, e => by cases e; rfl
  | [], _ :: _, _, h, _ => nomatch h
  | d :: ds, [], _, h, _ => nomatch h
  | d :: ds, v :: vs, bs, h, e => by
    obtain ⟨h1, h2⟩ := h.inv
    cases d with
    | str b =>
      simp only [strsOf] at e
      obtain ⟨cs, q, rfl⟩ := Option.map_eq_some_iff.mp e
      rw [strs_rep h2 q, h1.str_inv.1]
      rfl
    | _ => cases e
def gLenSet : PyData → Option OD
  | .list ds => (strsOf ds).bind fun xs => if xs.length ≤ 1000 then some (.d (.int (nubN xs))) else none
  | .tuple ds => (strsOf ds).bind fun xs => if xs.length ≤ 1000 then some (.d (.int (nubN xs))) else none
  | _ => none
def rLenSet (K : PySem.W.Frag) : V → Hp → VK → Prop := fun x H Q => ∃ l, ∃ xs : List Str, x = .ref l ∧ (SqL K H l (xs.map V.str) ∨ SqT K H l (xs.map V.str)) ∧ xs.length ≤ 1000 ∧ Q (.int (nubN xs)) H
section
variable {X : Cx} {S : Sx} {W : WX} {a : Expr} {qa : Opd}
theorem strsAre' : ∀ {ys : List Str} {us : List Value}, Vals (ys.map V.str) us → StrsAre us ys
  | [], _, .nil => .nil
  | y :: ys, _, .cons r t => by
    obtain ⟨k, rfl⟩ := r
    exact .cons y k (strsAre' t)
theorem nub_le (xs : List Str) : nubN xs ≤ xs.length := by
  have small : ∀ i : Nat, nubN (xs.take i) ≤ i := by
    intro i
    induction i with
    | zero => simp [nubN]
    | succ i ih =>
      by_cases hi : i < xs.length
      · rw [List.take_succ_eq_append_getElem hi, nubN_snoc]
        split <;> omega
      · have e1 : xs.take (i + 1) = xs.take i := by rw [List.take_of_length_le (by omega), List.take_of_length_le (by omega)]
        rw [e1]
        omega
  have := small xs.length
  rw [List.take_length] at this
  exact this
theorem pe_lenSetN {ta : TE} {p p2 q pos : Pos} (hc : X.calm = true) (hg : Gl X "len") (hm : X.mg "len" = none) (hg2 : Gl X "set") (hm2 : X.mg "set" = none) (ha : PE X a ta)
    (na : starEach [a] X.env = (false, eval a X.env) :: starEach [] X.env := by rfl) : PE X (.Call (.Name "len" p) [.Call (.Name "set" p2) [a] [] q] [] pos) (fun σ H Q => ta σ H fun x H1 => rLenSet X.K x H1 Q) := by
  refine ⟨?_⟩
  intro pins s σ H Q I h
  refine Call_ (ld_blt I hg hm boot_len (PyProof.Rows.callWith_builtin1 (PyProof.Rows.args_cons ?_ rfl) rfl rfl))
  refine Call_ (ld_blt I hg2 hm2 boot_set (PyProof.Rows.callWith_type1 (PyProof.Rows.args_cons (thn (ha.run pins s σ H _ I h) ?_) na) na rfl))
  rintro v s1 ⟨x, H1, I1, r1, l, xs, rfl, hq, hz, k⟩
  refine PyProof.Rows.args_nil ?_
  obtain rfl : v = Value.ref l := r1
  have big : (2 : Int) ^ 63 > 1000 := by decide
  have last : ∀ (h' : Heap) (tk : Nat), h'.SetOf (PySem.strKind X.prog X.w) s1.heap.objs.size (fun y => decide (y ∈ xs)) (nubN xs) → (∀ b o, b < s1.heap.objs.size → s1.heap.get? b = some o → h'.get? b = some o) →
      wpAny (model X.prog X.w) X.A (spliced (backTo pos (starEach [] X.env))) (fun vs s₂ => wpAny (model X.prog X.w) X.A (call (.builtin "len") (Value.ref s1.heap.objs.size :: vs)) (EP X pins σ Q) X.xe s₂) X.xe { s1 with heap := h', toks := tk } := by
    intro h' tk st kp
    refine PyProof.Rows.args_nil ?_
    have I2 : Inv X pins σ H1 { s1 with heap := h', toks := tk } := I1.kept fun b o e => kp b o (Heap.lt_size e) e
    obtain ⟨o, es, ep, t, ho, hex, hd, _, _, _, hf, hn⟩ := st
    have := nub_le xs
    exact call_len_set ho hex hd hf (by rw [hn]; omega) ⟨.int (nubN xs), H1, I2.tok _, ⟨_, by rw [hn]⟩, k⟩
  have sb : xs.length + 1 < scanBound := by unfold scanBound; omega
  rcases hq with hq | hq
  · obtain ⟨its, rv, pl, _⟩ := I1.list hq
    exact DL.set_list (I1.ok.hd hc) pl.isList (strsAre' rv) sb last
  · obtain ⟨its, rv, pl, _⟩ := I1.tuple hq
    exact DL.set_tuple (I1.ok.hd hc) pl (strsAre' rv) sb last
theorem de_lenSet {p p2 q pos : Pos} (hc : X.calm = true) (h1 : DO X S W a qa) (hm : X.mg "len" = none) (hm2 : X.mg "set" = none) (hg : Gl X "len" := by rfl) (hg2 : Gl X "set" := by rfl)
    (na : starEach [a] X.env = (false, eval a X.env) :: starEach [] X.env := by rfl) : DE X S W (.Call (.Name "len" p) [.Call (.Name "set" p2) [a] [] q] [] pos) (prim (sh1 gLenSet) [qa]) := by
  intro F σ H env hs hos Q R h
  refine WE.of (pe_lenSetN hc hg hm hg2 hm2 (pe_we X a) na) (DA1 h1 R ((Mwp.bind h).imp (fun hes env' _ k F' H' x hvs hos' s mt R' => ?_) fun _ _ _ x => x))
  refine prim_fin (r := rr1 (rLenSet X.K)) (os_sh1 fun F σ H env hs ho x d o Q R h1 hf k => ?_) R.hlen s mt R' k
  unfold gLenSet at hf
  split at hf
  · rename_i ds
    cases e : strsOf ds with
    | none => rw [e] at hf; cases hf
    | some xs =>
      rw [e] at hf
      simp only [Option.bind_some] at hf
      split at hf
      · cases hf
        obtain ⟨p, ws, rfl, e1, e2⟩ := h1.list R.sub
        have := strs_rep e2 e
        subst this
        exact ⟨p, xs, rfl, .inl (.inl (.inl e1)), by assumption, fin_d R k (.int _ .nil)⟩
      · cases hf
  · rename_i ds
    cases e : strsOf ds with
    | none => rw [e] at hf; cases hf
    | some xs =>
      rw [e] at hf
      simp only [Option.bind_some] at hf
      split at hf
      · cases hf
        obtain ⟨p, ws, rfl, e1, e1', e2⟩ := h1.tuple R.sub
        have := strs_rep e2 e
        subst this
        exact ⟨p, xs, rfl, .inr e1, by assumption, fin_d R k (.int _ .nil)⟩
      · cases hf
  · cases hf
end
end DL

set_option Elab.async false
set_option linter.all false
set_option autoImplicit false
set_option maxRecDepth 100000
/-! tuple and list of a text; a chain as a test; words for printed proofs. -/
namespace DL
open PySem PySem.Spec PyProof.Rows L2

section
variable {prog : Program} {w : World} {A : Around} {E : Value → Shared → Prop} {s : Shared}
theorem tuple_of_str {x : Str} {t : Tok} {Q : Value → Shared → Prop} (hh : A.handled = none) (hz : x.cps.size ≤ sizeLine)
    (h : ∀ (s' : Shared) (acc : Array Value), (∀ b o, s.heap.get? b = some o → s'.heap.get? b = some o) → s'.gens = s.gens → s'.drawn = s.drawn → s'.os = s.os → ItemsOf (SignAt x) acc x.cps.size →
      Q (.ref s'.heap.objs.size) { s' with heap := s'.heap.push { cls := .type "tuple", data := .seq acc } }) : wpAny (model prog w) A (call (.type "tuple") [.str x t]) Q E s := by
  have made : codeAny (model prog w) A.in1 (.call (.builtin "tuple.__new__") ⟨[.type "tuple", .str x t], []⟩) (wants (fun obj s₁ => s₁.TypeIs obj "tuple" ∧ Q obj s₁) E) s := by
    apply codeAny_of_tree
    show wpAny _ A.in1.in1 (do checkBuiltinCall "tuple.__new__" ⟨[.type "tuple", .str x t], []⟩; again (.builtin "tuple.__new__" ⟨[.type "tuple", .str x t], []⟩)) _ _ s
    refine wpAny_bind (wpAny_of_eq (F.newCall_tuple_1 _) (wpAny_pure ⟨plainId_quiet F.plain_tuple_new _, codeAny_builtin F.entry_tuple_new ?_⟩))
    rw [Around.under_plainId F.plain_tuple_new _]
    have g1 := sub_tuple_self
    have g2 := init_tuple_lookup
    have g3 := madeHere_tuple
    have g4 : s.TypeIs (.str x t) "str" := typeIs_str s x t
    have g5 : A.in1.in1.handled = none := hh
    wp_walk using wpAny_typeOf g4, wpAny_collect_str (hn := hz) (A := A.in1.in1) g5 x t
    intro s' acc k1 k2 k3 k4 hacc
    show wpAny _ _ (Builtin.Tuple.tupleExact acc.toList.toArray >>= fun v => ret v) _ _ _
    unfold Builtin.Tuple.tupleExact
    have e : acc.toList.toArray = acc := by simp
    rw [e]
    refine wpAny_bind (wpAny_newObj_type (wpAny_pure ?_) (by show acc.size ≤ sizeLine; rw [hacc.1]; exact hz))
    exact ⟨⟨_, Heap.get?_push_size _ rfl, rfl⟩, h s' acc k1 k2 k3 k4 hacc⟩
  refine callType_codes (Q₁ := fun obj s₁ => s₁.TypeIs obj "tuple" ∧ Q obj s₁) F.called_tuple (F.typeCall_tuple_1 _) F.entry_object_init made ?_
  rintro obj s₁ ⟨z1, z2⟩
  exact ⟨z1, F.args_object_init_2 obj _, object_init_meets F.called_tuple.init.lookup F.called_tuple.made (by decide) prog w A.in1 _ s₁ ⟨z1, rfl, z2⟩⟩
end
theorem signs_vals {x : Str} {acc : Array Value} (h : ItemsOf (SignAt x) acc x.cps.size) : Vals (x.cps.toList.map fun c => V.str ⟨#[c]⟩) acc.toList := by
  have go : ∀ (l : List Nat) (us : List Value), us.length = l.length → (∀ (j : Nat) (v : Value), us[j]? = some v → ∃ c u, l[j]? = some c ∧ v = .str ⟨#[c]⟩ u) → Vals (l.map fun c => V.str ⟨#[c]⟩) us := by
    intro l
    induction l with
    | nil =>
      intro us hl _
      have : us = [] := List.eq_nil_of_length_eq_zero hl
      subst this
      exact .nil
    | cons c l ih =>
      intro us hl hk
      cases us with
      | nil => simp at hl
      | cons u us =>
        obtain ⟨c', t, h1, h2⟩ := hk 0 u (by simp)
        simp at h1
        subst h1
        refine .cons ⟨t, h2⟩ (ih us (by simpa using hl) fun j v hv => ?_)
        simpa using hk (j + 1) v (by simpa using hv)
  refine go _ _ (by simp [h.1]) fun j v hv => ?_
  obtain ⟨c, u, h1, h2⟩ := h.2 j v (by simpa using hv)
  exact ⟨c, u, by simpa using h1, h2⟩
section
variable {X : Cx} {S : Sx} {W : WX} {a b c : Expr} {qa qb qc : Opd} {pos : Pos}
theorem chars_rep {K : PySem.W.Frag} {F : Hp} (x : Str) : Reps K F (x.cps.toList.map fun c => V.str ⟨#[c]⟩) (chars x) := by
  unfold chars
  generalize x.cps.toList = l
  induction l with
  | nil => exact .nil
  | cons c l ih => exact .str _ (by show 1 ≤ sizeLine; decide) ih
def rTupStr : V → Hp → VK → Prop := fun x H Q => ∃ z : Str, x = .str z ∧ z.length ≤ sizeLine ∧ ∀ l, H l = none → Q (.ref l) (upd H l (.tup (z.cps.toList.map fun c => V.str ⟨#[c]⟩)))
theorem cr_tupStr (hc : X.calm = true) : CallR X (.type "tuple") (rr1 rTupStr) := by
  intro pins s σ H xs us Q I r h
  unfold rr1 at h
  split at h
  · rename_i x
    obtain ⟨u, rfl, r1⟩ := vals1 r
    obtain ⟨z, rfl, hz, k⟩ := h
    obtain ⟨t, rfl⟩ := r1
    refine tuple_of_str (I.ok.hd hc) hz fun s' acc k1 k2 k3 k4 hacc => ?_
    obtain ⟨h', g', d', t', o'⟩ := s'
    obtain rfl : g' = s.gens := k2
    obtain rfl : d' = s.drawn := k3
    obtain rfl : o' = s.os := k4
    have I1 : Inv X pins σ H { s with heap := h', toks := t' } := I.kept k1
    have rv := signs_vals hacc
    have hlen : (z.cps.toList.map fun c => V.str ⟨#[c]⟩).length ≤ sizeLine := by simpa [Str.length] using hz
    have I2 : Inv X pins σ (upd H h'.objs.size (.tup (z.cps.toList.map fun c => V.str ⟨#[c]⟩))) { s with heap := h'.push { cls := .type "tuple", data := .seq acc }, toks := t' } :=
      I1.laid (t' := t') (fun b o e => Heap.get?_push_of_some _ e) (Nat.le_refl _) (show ObjOk X.prog X.w _ _ _ (.tup _) from ⟨hlen, acc.toList, rv, by simpa using IsTup.new h' acc⟩)
    exact ⟨.ref h'.objs.size, _, I2, rfl, k _ (I1.hok.fresh (Nat.le_refl _))⟩
  · exact h.elim
def gTupStr : PyData → Option OD
  | .str x => some (.d (.tuple (chars x)))
  | _ => none
theorem os_tupStr : OSpec X S (rr1 rTupStr) (sh1 gTupStr) := os_sh1 fun F σ H env hs ho x d o Q R h1 hf k => by
  unfold gTupStr at hf
  split at hf
  · cases hf
    obtain ⟨rfl, hz⟩ := h1.str
    exact ⟨_, rfl, hz, fun l hl => fin_t R k (chars_rep _) hl⟩
  · cases hf

/-! ### a op b op c as a test -/
theorem dt_chain {op op' : CmpOp} {r r' : R2} {g g' : List OD → Option OD} (ho : OpR X (compareOp op) r) (ho' : OpR X (compareOp op') r') (sp : OSpec X S (rr2 r) g) (sp' : OSpec X S (rr2 r') g') (h1 : DO X S W a qa) (h2 : DO X S W b qb) (h3 : DO X S W c qc)
    (hm : lastMarks [op, op'] [b, c] = false := by with_unfolding_all rfl) : DT X S W (.Compare a [op, op'] [b, c] pos) (mTest (mChain g g' qa qb qc)) := by
  intro F σ H env hs hos Q R h
  have hb := Mwp.bind h
  refine WT.of (pt_chain ho ho' (pe_we X a) (pe_we X b) (pe_we X c) hm) (DA2 h1 h2 R ((Mwp.bind hb).imp (fun hes env' _ k F' H' x y hvs hos' s mt R' => ?_) fun _ _ _ x => x))
  cases e : rds env' hes with
  | none => rw [e] at k; exact k.elim
  | some os =>
    rw [e] at k
    simp only at k
    have rb := mt.rdb R' R.hlen e
    have hl2 : (hs ++ hvs).length = (hos ++ hos').length := by simp [R.hlen, mt.hlen]
    cases e2 : g os with
    | none => rw [e2] at k; exact k.elim
    | some o =>
      rw [e2] at k
      refine sp F' σ H' env' (hs ++ hvs) (hos ++ hos') [x, y] os o _ R' rb e2 fun F2 H2 z s2 R2 => ?_
      cases o with
      | d d =>
        cases d with
        | bool t =>
          have ez := bool_held R2 hl2
          subst ez
          have R3 := R2.drop hl2
          refine ⟨t, rfl, ?_⟩
          cases t with
          | false => exact ⟨false, rfl, k F2 H2 (s.trans s2) (R3.drop R.hlen)⟩
          | true =>
            refine h3 F2 σ H2 env' (hs ++ hvs) (hos ++ hos') _ R3 ((Mwp.bind k).imp (fun hc env3 _ k3 F3 H3 w s3 L => ?_) fun _ _ _ q => q.mono (s.trans s2) R.hlen)
            have s03 : Same F F3 := (s.trans s2).trans s3
            cases e4 : rds env3 (hes ++ [hc]) with
            | none => rw [e4] at k3; exact k3.elim
            | some us =>
              rw [e4] at k3
              simp only at k3
              cases e5 : g' (us.drop 1) with
              | none => rw [e5] at k3; exact k3.elim
              | some o' =>
                rw [e5] at k3
                have fin : ∀ {hvs2 hos2}, Mt σ (hes ++ [hc]) [x, y, w] hvs2 hos2 → Rel X.K S F3 σ H3 env3 (hs ++ hvs2) (hos ++ hos2) → r' y w H3 fun v H4 => ∃ k, v = .bl k ∧ Q k H4 := fun {hvs2 hos2} mt2 R4 => by
                  have rb2 := rdb_drop (mt2.rdb R4 R.hlen e4)
                  refine sp' F3 σ H3 env3 hs hos [y, w] (us.drop 1) o' _ (R4.drop R.hlen) rb2 e5 fun F5 H5 v s5 R5 => ?_
                  cases o' with
                  | d d' =>
                    cases d' with
                    | bool t' =>
                      have ev := bool_held R5 R.hlen
                      subst ev
                      exact ⟨t', rfl, k3 F5 H5 (s03.trans s5) (R5.drop R.hlen)⟩
                    | _ => exact k3.elim
                  | _ => exact k3.elim
                cases hc with
                | o u =>
                  have L' : Rel X.K S F3 σ H3 env3 (hs ++ hvs ++ [w]) (hos ++ hos' ++ [u]) := L
                  exact fin (mt_snoc mt (he := .o u)) (by rw [← List.append_assoc, ← List.append_assoc]; exact L')
                | al i => exact fin (mt_snoc mt (he := .al i) L.1) L.2
        | _ => exact k.elim
      | _ => exact k.elim

/-! ### words for printed proofs -/
theorem Ok1.blk (ok : Ok1 X) {s : Shared} {H : Hp} {scope : Scope} {ce : Env} {fp : List Addr} : Ok1 (X.blk s H scope ce fp) := ⟨ok.calm, ok.nd, ok.grd, ok.sysm, ok.un⟩
theorem passC0 {σ : L2.St} {E : XK} : PassesAt CX0 X σ E := fun _ _ _ _ _ _ z => z.elim
theorem ent_pinsL {H F : Hp} {fp : List Addr} {io : Option Nat} {vs : List V} {l : List Nat} (h : ∀ j ∈ l, io ≠ some j) : ∀ p ∈ (entS H F fp io vs).pin, p.1 ∉ l := fun p hp hm => ent_pins (h p.1 hm) p hp rfl
theorem gsAll2 {i j : Nat} : ∀ vs σ H Q, vs.length = 2 → Q (setAll [i, j] vs σ) H → gCons (gName i) (gCons (gName j) gNil) vs σ H Q := by
  intro vs σ H Q hl q
  match vs, hl with
  | [u, v], _ => exact ⟨u, [v], rfl, v, [], rfl, rfl, q⟩
theorem gsAll3 {i j k : Nat} : ∀ vs σ H Q, vs.length = 3 → Q (setAll [i, j, k] vs σ) H → gCons (gName i) (gCons (gName j) (gCons (gName k) gNil)) vs σ H Q := by
  intro vs σ H Q hl q
  match vs, hl with
  | [u, v, w], _ => exact ⟨u, [v, w], rfl, v, [w], rfl, w, [], rfl, rfl, q⟩
theorem gsAll4 {i j k l : Nat} : ∀ vs σ H Q, vs.length = 4 → Q (setAll [i, j, k, l] vs σ) H → gCons (gName i) (gCons (gName j) (gCons (gName k) (gCons (gName l) gNil))) vs σ H Q := by
  intro vs σ H Q hl q
  match vs, hl with
  | [u, v, w, x], _ => exact ⟨u, [v, w, x], rfl, v, [w, x], rfl, w, [x], rfl, x, [], rfl, rfl, q⟩
def is_int (d : PyData) : Bool := match d with
  | .int _ => true
  | .bool _ => true
  | _ => false
def is_bool (d : PyData) : Bool := match d with
  | .bool _ => true
  | _ => false
def is_str (d : PyData) : Bool := match d with
  | .str _ => true
  | _ => false
def is_tuple (d : PyData) : Bool := match d with
  | .tuple _ => true
  | _ => false
def is_list (d : PyData) : Bool := match d with
  | .list _ => true
  | _ => false
theorem ty_int : isTy "int" is_int := isTy_int
theorem ty_bool : isTy "bool" is_bool := isTy_bool
theorem ty_str : isTy "str" is_str := isTy_str
theorem ty_tuple : isTy "tuple" is_tuple := isTy_tuple
theorem ty_list : isTy "list" is_list := isTy_list
def gAddI : PyData → PyData → Option OD
  | .int i, .int j => some (.d (.int (i + j)))
  | _, _ => none
theorem os_addI : OSpec X S (rr2 (rI0 fun i j => .int (i + j))) (sh2 gAddI) := os_sh2 fun F σ H env hs ho x y d e o Q R h1 h2 hf k => by
  unfold gAddI at hf
  split at hf
  · cases hf
    rw [h1.int, h2.int]
    exact ⟨_, _, rfl, rfl, fin_d R k (.int _ .nil)⟩
  · cases hf
def gMulI : PyData → PyData → Option OD
  | .int i, .int j => if i.natAbs < 2 ^ 64 ∨ j.natAbs < 2 ^ 64 then some (.d (.int (i * j))) else none
  | _, _ => none
theorem os_mulI : OSpec X S (rr2 (rI CMul fun i j => .int (i * j))) (sh2 gMulI) := os_sh2 fun F σ H env hs ho x y d e o Q R h1 h2 hf k => by
  unfold gMulI at hf
  split at hf
  · split at hf
    · rename_i hz
      cases hf
      rw [h1.int, h2.int]
      refine ⟨_, _, rfl, rfl, ?_, fin_d R k (.int _ .nil)⟩
      unfold CMul
      omega
    · cases hf
  · cases hf
theorem ok1_of {P : Program} {w : World} {K : PySem.W.Frag} {mg : Str → Option Value} {base : Heap} {N : List Str} {qual : Str} {st : Stmt} {f : Addr} {cd : Value} {A : Around} {outer : List Env} {s : Shared} {H : Hp} {E : XK} {k : Nat}
    (hN : N.Nodup) (hg : A.guards = some []) (hr : Room k (A.deeper (envOfC qual (defScope st) s.heap.objs.size f cd))) (hs : ∃ o, base.get? sysModules = some o) : Ok1 (DCx P w K mg base N qual st f cd A outer s H E) :=
  ⟨rfl, hN, hg, hs, by have := hr.un; show (A.deeper _).units + 100 < _; omega⟩
theorem de_globIe {x : Str} {i : Int} {pos : Pos} (hm : ∃ t, X.mg x = some (.int i t)) (hg : Gl X x := by rfl) (hd : (x == ("__debug__" : Str)) = false := by decide) : DE X S W (.Name x pos) (mC (.int i)) :=
  let ⟨_, h⟩ := hm
  de_globI h hg hd
theorem de_globSe {x y : Str} {pos : Pos} (hm : ∃ t, X.mg x = some (.str y t)) (hg : Gl X x := by rfl) (hy : y.length ≤ sizeLine := by decide) (hd : (x == ("__debug__" : Str)) = false := by decide) : DE X S W (.Name x pos) (mC (.str y)) :=
  let ⟨_, h⟩ := hm
  de_globS h hg hy hd
end
end DL

set_option Elab.async false
set_option linter.all false
set_option autoImplicit false
set_option maxRecDepth 100000
/-! The evaluator's laws, for plain proofs. -/
namespace DL
open PySem PySem.Spec PyProof.Rows L2
section
variable {α β : Type} {e : DEnv} {Q : α → DEnv → Prop} {Qx : Xn → DEnv → Prop}
theorem w_bind {m : M β} {f : β → M α} : Mwp (M.bind m f e) Q Qx ↔ Mwp (m e) (fun a e' => Mwp (f a e') Q Qx) Qx := by
  unfold M.bind
  cases m e with
  | none => exact Iff.rfl
  | some r =>
    obtain ⟨r, e'⟩ := r
    cases r <;> exact Iff.rfl
theorem w_ret {a : α} : Mwp (M.ret a e) Q Qx ↔ Q a e := Iff.rfl
theorem w_ok {a : α} : Mwp (some (.ok a, e)) Q Qx ↔ Q a e := Iff.rfl
theorem w_ex {x : Xn} : Mwp (some (.ex x, e) : Option (Rs α × DEnv)) Q Qx ↔ Qx x e := Iff.rfl
theorem w_none : Mwp (none : Option (Rs α × DEnv)) Q Qx ↔ False := Iff.rfl
theorem mwp_congr {r : Option (Rs α × DEnv)} {Q' : α → DEnv → Prop} (h : ∀ a e, Q a e ↔ Q' a e) : Mwp r Q Qx ↔ Mwp r Q' Qx :=
  ⟨fun z => z.imp (fun a e _ q => (h a e).mp q) fun _ _ _ q => q, fun z => z.imp (fun a e _ q => (h a e).mpr q) fun _ _ _ q => q⟩
theorem w_noX {m : M α} : Mwp (M.noX m e) Q Qx ↔ Mwp (m e) Q (fun _ _ => False) := by
  unfold M.noX
  cases m e with
  | none => exact Iff.rfl
  | some r =>
    obtain ⟨r, e'⟩ := r
    cases r <;> exact Iff.rfl
end
section
variable {e : DEnv} {Qx : Xn → DEnv → Prop}
theorem w_seq {m n : M Fl} {Q : Fl → DEnv → Prop} : Mwp (mSeq m n e) Q Qx ↔ Mwp (m e) (fun fl e' => match fl with
    | .nx => Mwp (n e') Q Qx
    | f => Q f e') Qx := by
  unfold mSeq
  rw [w_bind]
  refine mwp_congr fun fl e' => ?_
  cases fl <;> exact Iff.rfl
theorem w_if {t : M Bool} {m n : M Fl} {Q : Fl → DEnv → Prop} : Mwp (mIf t m n e) Q Qx ↔ Mwp (t e) (fun k e' => if k = true then Mwp (m e') Q Qx else Mwp (n e') Q Qx) Qx := by
  unfold mIf
  rw [w_bind]
  refine mwp_congr fun k e' => ?_
  cases k <;> exact Iff.rfl
theorem w_ifE {t : M Bool} {m n : M OD} {Q : OD → DEnv → Prop} : Mwp (mIfE t m n e) Q Qx ↔ Mwp (t e) (fun k e' => if k = true then Mwp (m e') Q Qx else Mwp (n e') Q Qx) Qx := by
  unfold mIfE
  rw [w_bind]
  refine mwp_congr fun k e' => ?_
  cases k <;> exact Iff.rfl
theorem w_test {m : M OD} {Q : Bool → DEnv → Prop} : Mwp (mTest m e) Q Qx ↔ Mwp (m e) (fun o e' => ∃ b, boolOf o = some b ∧ Q b e') Qx := by
  unfold mTest
  rw [w_bind]
  refine mwp_congr fun o e' => ?_
  unfold M.of
  cases boolOf o with
  | none => simp [Mwp]
  | some b => simp [Mwp]
theorem w_and {m n : M Bool} {Q : Bool → DEnv → Prop} : Mwp (mAnd m n e) Q Qx ↔ Mwp (m e) (fun k e' => if k = true then Mwp (n e') Q Qx else Q false e') Qx := by
  unfold mAnd
  rw [w_bind]
  refine mwp_congr fun k e' => ?_
  cases k <;> exact Iff.rfl
theorem w_or {m n : M Bool} {Q : Bool → DEnv → Prop} : Mwp (mOr m n e) Q Qx ↔ Mwp (m e) (fun k e' => if k = true then Q true e' else Mwp (n e') Q Qx) Qx := by
  unfold mOr
  rw [w_bind]
  refine mwp_congr fun k e' => ?_
  cases k <;> exact Iff.rfl
theorem w_not {m : M Bool} {Q : Bool → DEnv → Prop} : Mwp (mNot m e) Q Qx ↔ Mwp (m e) (fun k e' => Q (!k) e') Qx := by
  unfold mNot
  rw [w_bind]
  exact Iff.rfl
theorem w_andV {m n : M OD} {Q : OD → DEnv → Prop} : Mwp (mAndV m n e) Q Qx ↔ Mwp (m e) (fun o e' => ∃ b, boolOf o = some b ∧ if b = true then Mwp (n e') Q Qx else Q (.d (.bool false)) e') Qx := by
  unfold mAndV
  rw [w_bind, w_test]
  refine mwp_congr fun o e' => ?_
  refine (exists_congr fun b => and_congr_right fun _ => ?_)
  cases b <;> exact Iff.rfl
theorem w_orV {m n : M OD} {Q : OD → DEnv → Prop} : Mwp (mOrV m n e) Q Qx ↔ Mwp (m e) (fun o e' => ∃ b, boolOf o = some b ∧ if b = true then Q (.d (.bool true)) e' else Mwp (n e') Q Qx) Qx := by
  unfold mOrV
  rw [w_bind, w_test]
  refine mwp_congr fun o e' => ?_
  refine (exists_congr fun b => and_congr_right fun _ => ?_)
  cases b <;> exact Iff.rfl
theorem w_notV {m : M OD} {Q : OD → DEnv → Prop} : Mwp (mNotV m e) Q Qx ↔ Mwp (m e) (fun o e' => ∃ b, boolOf o = some b ∧ Q (.d (.bool (!b))) e') Qx := by
  unfold mNotV
  rw [w_bind, w_test]
  exact Iff.rfl
theorem w_do {m : M OD} {Q : Fl → DEnv → Prop} : Mwp (mDo m e) Q Qx ↔ Mwp (m e) (fun _ e' => Q .nx e') Qx := by
  unfold mDo
  rw [w_bind]
  exact Iff.rfl
theorem w_rt {m : M OD} {Q : Fl → DEnv → Prop} : Mwp (mRet m e) Q Qx ↔ Mwp (m e) (fun o e' => Q (.rt o) e') Qx := by
  unfold mRet
  rw [w_bind]
  exact Iff.rfl
theorem w_asg {m : M OD} {a : OD → DEnv → Option DEnv} {Q : Fl → DEnv → Prop} : Mwp (mAsg m a e) Q Qx ↔ Mwp (m e) (fun o e' => ∃ e2, a o e' = some e2 ∧ Q .nx e2) Qx := by
  unfold mAsg
  rw [w_bind]
  refine mwp_congr fun o e' => ?_
  cases a o e' <;> simp [Mwp]
theorem w_C {x : PyData} {Q : OD → DEnv → Prop} : Mwp (mC x e) Q Qx ↔ Q (.d x) e := Iff.rfl
theorem w_var {i : Nat} {Q : OD → DEnv → Prop} : Mwp (mVar i e) Q Qx ↔ ∃ o, e[i]? = some (some o) ∧ o.noS = true ∧ Q (.d o.erase) (e.set i (some (.d o.erase))) := by
  unfold mVar
  cases h : e[i]? with
  | none => simp [Mwp]
  | some oo =>
    cases oo with
    | none => simp [Mwp]
    | some o =>
      cases h2 : o.noS <;> simp [Mwp, h2]
theorem w_args0 {Q : List HE → DEnv → Prop} : Mwp (args [] e) Q Qx ↔ Q [] e := Iff.rfl
theorem w_args1 {q : Opd} {qs : List Opd} {Q : List HE → DEnv → Prop} : Mwp (args (q :: qs) e) Q Qx ↔ Mwp (q.go e) (fun h e1 => Mwp (args qs e1) (fun hs e2 => Q (h :: hs) e2) Qx) Qx := by
  show Mwp (M.bind q.go _ e) Q Qx ↔ _
  rw [w_bind]
  refine mwp_congr fun h e1 => ?_
  exact w_bind
theorem w_plc {i : Nat} {Q : HE → DEnv → Prop} : Mwp (Opd.go (.plc i) e) Q Qx ↔ ∃ o, e[i]? = some (some o) ∧ Q (.al i) e := by
  simp only [Opd.go]
  cases h : e[i]? with
  | none => simp [Mwp]
  | some oo => cases oo <;> simp [Mwp]
theorem w_own {m : M OD} {Q : HE → DEnv → Prop} : Mwp (Opd.go (.own m) e) Q Qx ↔ Mwp (m e) (fun o e' => Q (.o o) e') Qx := by
  show Mwp (M.bind m _ e) Q Qx ↔ _
  rw [w_bind]
  exact Iff.rfl
theorem w_val {m : M OD} {Q : HE → DEnv → Prop} : Mwp (Opd.go (.val m) e) Q Qx ↔ Mwp (m e) (fun o e' => o.noS = true ∧ Q (.o (.d o.erase)) e') Qx := by
  show Mwp (M.bind m _ e) Q Qx ↔ _
  rw [w_bind]
  refine mwp_congr fun o e' => ?_
  cases h : o.noS <;> simp [Mwp, M.ret]
theorem w_prim {g : List OD → Option OD} {qs : List Opd} {Q : OD → DEnv → Prop} : Mwp (prim g qs e) Q Qx ↔ Mwp (args qs e) (fun hes e' => ∃ os, rds e' hes = some os ∧ ∃ o, g os = some o ∧ Q o e') Qx := by
  unfold prim
  rw [w_bind]
  refine mwp_congr fun hes e' => ?_
  cases rds e' hes with
  | none => simp [Mwp]
  | some os => cases h : g os <;> simp [Mwp, h]
theorem w_list {qs : List Opd} {Q : OD → DEnv → Prop} : Mwp (mList qs e) Q Qx ↔ Mwp (args qs e) (fun hes e' => ∃ os, allO hes = some os ∧ os.length ≤ sizeLine ∧ Q (.l os) e') Qx := by
  unfold mList
  rw [w_bind]
  refine mwp_congr fun hes e' => ?_
  cases allO hes with
  | none => simp [Mwp]
  | some os => by_cases h : os.length ≤ sizeLine <;> simp [Mwp, h]
theorem w_tup {qs : List Opd} {Q : OD → DEnv → Prop} : Mwp (mTup qs e) Q Qx ↔ Mwp (args qs e) (fun hes e' => ∃ ds, allD hes = some ds ∧ ds.length ≤ sizeLine ∧ Q (.d (.tuple ds)) e') Qx := by
  unfold mTup
  rw [w_bind]
  refine mwp_congr fun hes e' => ?_
  cases allD hes with
  | none => simp [Mwp]
  | some os => by_cases h : os.length ≤ sizeLine <;> simp [Mwp, h]
theorem w_call {fs : FSem} {qs : List Opd} {Q : OD → DEnv → Prop} : Mwp (mCall fs qs e) Q Qx ↔ Mwp (args qs e) (fun hes e' => ∃ os, rds e' hes = some os ∧ allStill os = true ∧ FWp (fs os) (fun o l => l = [] ∧ Q o e') (fun x l => l = [] ∧ Qx x e')) Qx := by
  unfold mCall
  rw [w_bind]
  refine mwp_congr fun hes e' => ?_
  cases rds e' hes with
  | none => simp [Mwp]
  | some os =>
    cases h : allStill os with
    | false => simp [Mwp, h]
    | true =>
      cases h2 : fs os with
      | none => simp [Mwp, FWp, h, h2]
      | some p =>
        obtain ⟨r, l⟩ := p
        cases l with
        | nil => cases r <;> simp [Mwp, FWp, h, h2]
        | cons a b => cases r <;> simp [Mwp, FWp, h, h2]
theorem w_callIo {j : Nat} {fs : FSem} {qs : List Opd} {Q : OD → DEnv → Prop} : Mwp (mCallIo j fs qs e) Q Qx ↔ Mwp (args qs e) (fun hes e' => ∃ os, rds e' hes = some os ∧ ∃ i, hes[j]? = some (.al i) ∧ allStill (os.eraseIdx j) = true ∧
    FWp (fs os) (fun o l => ∃ o', l = [o'] ∧ Q o (e'.set i (some o'))) (fun x l => ∃ o', l = [o'] ∧ Qx x (e'.set i (some o')))) Qx := by
  unfold mCallIo
  rw [w_bind]
  refine mwp_congr fun hes e' => ?_
  cases rds e' hes with
  | none => simp [Mwp]
  | some os =>
    cases h0 : hes[j]? with
    | none => simp [Mwp]
    | some he =>
      cases he with
      | o x => simp [Mwp]
      | al i =>
        cases h : allStill (os.eraseIdx j) with
        | false => simp [Mwp, h]
        | true =>
          cases h2 : fs os with
          | none => simp [Mwp, FWp, h, h2]
          | some p =>
            obtain ⟨r, l⟩ := p
            match l with
            | [] => cases r <;> simp [Mwp, FWp, h, h2]
            | [o'] => cases r <;> simp [Mwp, FWp, h, h2]
            | _ :: _ :: _ => cases r <;> simp [Mwp, FWp, h, h2]
theorem w_callK {perm : List Nat} {fs : FSem} {qs : List Opd} {Q : OD → DEnv → Prop} : Mwp (mCallK perm fs qs e) Q Qx ↔ Mwp (args qs e) (fun hes e' => ∃ os, rds e' hes = some os ∧ allStill os = true ∧ FWp (fs (perm.filterMap fun j => os[j]?)) (fun o l => l = [] ∧ Q o e') (fun x l => l = [] ∧ Qx x e')) Qx := by
  unfold mCallK
  rw [w_bind]
  refine mwp_congr fun hes e' => ?_
  cases rds e' hes with
  | none => simp [Mwp]
  | some os =>
    cases h : allStill os with
    | false => simp [Mwp, h]
    | true =>
      cases h2 : fs (perm.filterMap fun j => os[j]?) with
      | none => simp [Mwp, FWp, h, h2]
      | some p =>
        obtain ⟨r, l⟩ := p
        cases l with
        | nil => cases r <;> simp [Mwp, FWp, h, h2]
        | cons a b => cases r <;> simp [Mwp, FWp, h, h2]
theorem w_chain {g g' : List OD → Option OD} {qa qb qc : Opd} {Q : OD → DEnv → Prop} : Mwp (mChain g g' qa qb qc e) Q Qx ↔ Mwp (args [qa, qb] e) (fun hes e' => ∃ os, rds e' hes = some os ∧ ∃ b, g os = some (.d (.bool b)) ∧
    if b = true then Mwp (qc.go e') (fun hc e2 => ∃ us, rds e2 (hes ++ [hc]) = some us ∧ ∃ o, g' (us.drop 1) = some o ∧ Q o e2) Qx else Q (.d (.bool false)) e') Qx := by
  unfold mChain
  rw [w_bind]
  refine mwp_congr fun hes e' => ?_
  cases rds e' hes with
  | none => simp [Mwp]
  | some os =>
    cases h : g os with
    | none => simp [Mwp, h]
    | some o =>
      cases o with
      | d d =>
        cases d with
        | bool b =>
          cases b with
          | false => simp [Mwp, h]
          | true =>
            simp only [h]
            rw [w_bind]
            refine (mwp_congr (Q' := fun hc e2 => ∃ us, rds e2 (hes ++ [hc]) = some us ∧ ∃ o, g' (us.drop 1) = some o ∧ Q o e2) fun hc e2 => ?_).trans (by simp [h])
            cases rds e2 (hes ++ [hc]) with
            | none => simp [Mwp]
            | some us =>
              simp only [Option.some.injEq, exists_eq_left']
              generalize us.drop 1 = z
              cases h3 : g' z <;> simp [Mwp, h3]
        | _ => simp [Mwp, h]
      | _ => simp [Mwp, h]

/-! ### loops -/
theorem w_for {mi : M (List PyData)} {a : OD → DEnv → Option DEnv} {mb : M Fl} {Q : Fl → DEnv → Prop} : Mwp (mFor mi a mb e) Q Qx ↔ Mwp (mi e) (fun ds e' => Mwp (mEach a mb ds e') Q Qx) Qx := by
  unfold mFor
  rw [w_bind]
theorem w_each0 {a : OD → DEnv → Option DEnv} {mb : M Fl} {Q : Fl → DEnv → Prop} : Mwp (mEach a mb [] e) Q Qx ↔ Q .nx e := Iff.rfl
theorem w_each1 {a : OD → DEnv → Option DEnv} {mb : M Fl} {d : PyData} {ds : List PyData} {Q : Fl → DEnv → Prop} : Mwp (mEach a mb (d :: ds) e) Q Qx ↔ ∃ e1, a (.d d) e = some e1 ∧ Mwp (mb e1) (fun fl e2 => match fl with
    | .nx => Mwp (mEach a mb ds e2) Q Qx
    | .ct => Mwp (mEach a mb ds e2) Q Qx
    | .bk => Q .nx e2
    | .rt o => Q (.rt o) e2) Qx := by
  show Mwp (match a (.d d) e with
    | some e' => mFlow mb (mEach a mb ds) e'
    | none => none) Q Qx ↔ _
  cases h : a (.d d) e with
  | none => simp [Mwp]
  | some e1 =>
    simp only [Option.some.injEq, exists_eq_left']
    unfold mFlow
    rw [w_bind]
    refine mwp_congr fun fl e2 => ?_
    cases fl <;> exact Iff.rfl
/-- a loop by its invariant -/
theorem each_by {a : OD → DEnv → Option DEnv} {mb : M Fl} {Q : Fl → DEnv → Prop} (I : Nat → DEnv → Prop) : ∀ {ds : List PyData} (k : Nat) {e : DEnv}, I k e →
    (∀ j d e, ds[j]? = some d → I (k + j) e → ∃ e1, a (.d d) e = some e1 ∧ Mwp (mb e1) (fun fl e2 => match fl with
      | .nx => I (k + j + 1) e2
      | .ct => I (k + j + 1) e2
      | .bk => Q .nx e2
      | .rt o => Q (.rt o) e2) Qx) → (∀ e, I (k + ds.length) e → Q .nx e) → Mwp (mEach a mb ds e) Q Qx
  | [], k, e, h, _, q => w_each0.mpr (q e h)
  | d :: ds, k, e, h, s, q => by
    rw [w_each1]
    obtain ⟨e1, h1, h2⟩ := s 0 d e (by simp) h
    refine ⟨e1, h1, h2.imp (fun fl e2 _ z => ?_) fun _ _ _ z => z⟩
    cases fl with
    | nx => exact each_by I (k + 1) z (fun j d e hj hI => by
        have := s (j + 1) d e (by simpa using hj) (by rw [show k + (j + 1) = k + 1 + j by omega]; exact hI)
        rw [show k + (j + 1) + 1 = k + 1 + j + 1 by omega] at this
        exact this) fun e hI => q e (by rw [List.length_cons, show k + (ds.length + 1) = k + 1 + ds.length by omega]; exact hI)
    | ct => exact each_by I (k + 1) z (fun j d e hj hI => by
        have := s (j + 1) d e (by simpa using hj) (by rw [show k + (j + 1) = k + 1 + j by omega]; exact hI)
        rw [show k + (j + 1) + 1 = k + 1 + j + 1 by omega] at this
        exact this) fun e hI => q e (by rw [List.length_cons, show k + (ds.length + 1) = k + 1 + ds.length by omega]; exact hI)
    | bk => exact z
    | rt o => exact z
theorem w_items {q : Opd} {Q : List PyData → DEnv → Prop} : Mwp (mItems q e) Q Qx ↔ Mwp (q.go e) (fun he e' => ∃ o, he.rd e' = some o ∧ ∃ ds, itemsOf o = some ds ∧ Q ds e') Qx := by
  unfold mItems
  rw [w_bind]
  refine mwp_congr fun he e' => ?_
  cases he.rd e' with
  | none => simp [Mwp]
  | some o => cases h : itemsOf o <;> simp [Mwp, h]
theorem w_rng {f : List OD → Option (List PyData)} {qs : List Opd} {Q : List PyData → DEnv → Prop} : Mwp (mRng f qs e) Q Qx ↔ Mwp (args qs e) (fun hes e' => ∃ os, rds e' hes = some os ∧ ∃ ds, f os = some ds ∧ Q ds e') Qx := by
  unfold mRng
  rw [w_bind]
  refine mwp_congr fun hes e' => ?_
  cases rds e' hes with
  | none => simp [Mwp]
  | some os => cases h : f os <;> simp [Mwp, h]
theorem w_lc {mi : M (List PyData)} {a : OD → DEnv → Option DEnv} {mt : M Bool} {me : M OD} {vs : List Nat} {Q : OD → DEnv → Prop} : Mwp (mLc mi a mt me vs e) Q Qx ↔ Mwp (mi e) (fun ds e' => ds.length ≤ sizeLine ∧ Mwp (mMap vs a mt me ds [] e') (fun os e2 => Q (.l os) (wipeE e2 vs)) Qx) Qx := by
  unfold mLc
  rw [w_bind]
  refine mwp_congr fun ds e' => ?_
  by_cases h : ds.length ≤ sizeLine
  · simp only [h, if_true, true_and]
    rw [w_bind]
    exact Iff.rfl
  · simp [h, Mwp, mStuck]
theorem w_map0 {a : OD → DEnv → Option DEnv} {mt : M Bool} {me : M OD} {vs : List Nat} {acc : List OD} {Q : List OD → DEnv → Prop} : Mwp (mMap vs a mt me [] acc e) Q Qx ↔ Q acc e := Iff.rfl
theorem w_map1 {a : OD → DEnv → Option DEnv} {mt : M Bool} {me : M OD} {vs : List Nat} {d : PyData} {ds : List PyData} {acc : List OD} {Q : List OD → DEnv → Prop} : Mwp (mMap vs a mt me (d :: ds) acc e) Q Qx ↔ ∃ e1, a (.d d) (wipeE e vs) = some e1 ∧
    Mwp (mt e1) (fun k e2 => if k = true then Mwp (me e2) (fun o e3 => Mwp (mMap vs a mt me ds (acc ++ [o]) e3) Q Qx) (fun _ _ => False) else Mwp (mMap vs a mt me ds acc e2) Q Qx) (fun _ _ => False) := by
  show Mwp (match a (.d d) (wipeE e vs) with
    | some e' => M.bind (M.noX mt) (fun k => if k then M.bind (M.noX me) (fun o => mMap vs a mt me ds (acc ++ [o])) else mMap vs a mt me ds acc) e'
    | none => none) Q Qx ↔ _
  cases h : a (.d d) (wipeE e vs) with
  | none => simp [Mwp]
  | some e1 =>
    simp only [Option.some.injEq, exists_eq_left']
    rw [w_bind, w_noX]
    refine mwp_congr fun k e2 => ?_
    cases k with
    | false => exact Iff.rfl
    | true =>
      skip
      show Mwp (M.bind (M.noX me) (fun o => mMap vs a mt me ds (acc ++ [o])) e2) Q Qx ↔ _
      rw [w_bind, w_noX]
      exact Iff.rfl
/-- a comprehension by its invariant -/
theorem map_by {a : OD → DEnv → Option DEnv} {me : M OD} {vs : List Nat} {Q : List OD → DEnv → Prop} (I : Nat → List OD → DEnv → Prop) : ∀ {ds : List PyData} (k : Nat) {acc : List OD} {e : DEnv}, I k acc e →
    (∀ (j : Nat) d acc e, ds[j]? = some d → I (k + j) acc e → ∃ e1, a (.d d) (wipeE e vs) = some e1 ∧ Mwp (me e1) (fun o e2 => I (k + j + 1) (acc ++ [o]) e2) (fun _ _ => False)) →
    (∀ acc e, I (k + ds.length) acc e → Q acc e) → Mwp (mMap vs a mYes me ds acc e) Q Qx
  | [], k, acc, e, h, _, q => w_map0.mpr (q acc e h)
  | d :: ds, k, acc, e, h, s, q => by
    rw [w_map1]
    obtain ⟨e1, h1, h2⟩ := s 0 d acc e (by simp) h
    refine ⟨e1, h1, ?_⟩
    show Mwp (me e1) _ _
    refine h2.imp (fun o e2 _ z => ?_) fun _ _ _ z => z
    exact map_by I (k + 1) z (fun j d acc e hj hI => by
      have := s (j + 1) d acc e (by simpa using hj) (by rw [show k + (j + 1) = k + 1 + j by omega]; exact hI)
      rw [show k + (j + 1) + 1 = k + 1 + j + 1 by omega] at this
      exact this) fun acc e hI => q acc e (by rw [List.length_cons, show k + (ds.length + 1) = k + 1 + ds.length by omega]; exact hI)

/-! ### own lists -/
theorem w_meth1 {i : Nat} {q : Opd} {f : List OD → HE → DEnv → Option (OD × List OD)} {Q : OD → DEnv → Prop} : Mwp (mMeth1 i q f e) Q Qx ↔ isL e i = true ∧ Mwp (q.go e) (fun he e' => ∃ ps, e'[i]? = some (some (.l ps)) ∧ ∃ r ps', f ps he e' = some (r, ps') ∧ Q r (e'.set i (some (.l ps')))) Qx := by
  unfold mMeth1
  cases h : isL e i with
  | false => simp [Mwp]
  | true =>
    simp only [if_true, true_and]
    rw [w_bind]
    refine mwp_congr fun he e' => ?_
    cases h1 : e'[i]? with
    | none => simp [Mwp]
    | some oo =>
      cases oo with
      | none => simp [Mwp]
      | some o =>
        cases o with
        | l ps =>
          cases h2 : f ps he e' with
          | none => simp [Mwp, h2]
          | some p =>
            obtain ⟨p1, p2⟩ := p
            simp only [h2, Option.some.injEq, OD.l.injEq, exists_eq_left', Prod.mk.injEq]
            exact ⟨fun z => ⟨p1, p2, ⟨rfl, rfl⟩, z⟩, fun ⟨_, _, ⟨z1, z2⟩, z⟩ => by subst z1; subst z2; exact z⟩
        | _ => simp [Mwp]
theorem w_setL {i : Nat} {qv qi : Opd} {Q : Fl → DEnv → Prop} : Mwp (mSetL i qv qi e) Q Qx ↔ isL e i = true ∧ Mwp (args [qv, qi] e) (fun hes e' => ∃ x hi, hes = [.o x, hi] ∧ ∃ k, intAt hi e' = some k ∧ ∃ ps, e'[i]? = some (some (.l ps)) ∧ ∃ j, ixN ps.length k = some j ∧ Q .nx (e'.set i (some (.l (ps.set j x))))) Qx := by
  unfold mSetL
  cases h : isL e i with
  | false => simp [Mwp]
  | true =>
    simp only [if_true, true_and]
    rw [w_bind]
    have : ∀ (hes : List HE) (e' : DEnv), Mwp (match hes with
      | [.o x, hi] => match intAt hi e', e'[i]? with
        | some k, some (some (.l ps)) => match ixN ps.length k with
          | some j => some (Rs.ok Fl.nx, e'.set i (some (.l (ps.set j x))))
          | none => none
        | _, _ => none
      | _ => none) Q Qx ↔ ∃ x hi, hes = [.o x, hi] ∧ ∃ k, intAt hi e' = some k ∧ ∃ ps, e'[i]? = some (some (.l ps)) ∧ ∃ j, ixN ps.length k = some j ∧ Q .nx (e'.set i (some (.l (ps.set j x)))) := by
      intro hes e'
      match hes with
      | [] => simp [Mwp]
      | [_] => simp [Mwp]
      | [.al _, _] => simp [Mwp]
      | _ :: _ :: _ :: _ => simp [Mwp]
      | [.o x, hi] =>
        cases h1 : intAt hi e' with
        | none => simp [Mwp, h1]
        | some k =>
          cases h2 : e'[i]? with
          | none => simp [Mwp, h1, h2]
          | some oo =>
            cases oo with
            | none => simp [Mwp, h1, h2]
            | some o =>
              cases o with
              | l ps =>
                cases h3 : ixN ps.length k with
                | none => simp [Mwp, h1, h2, h3]
                | some j =>
                  constructor
                  · intro z
                    exact ⟨x, hi, rfl, k, h1, ps, rfl, j, h3, by simpa [Mwp, h1, h2, h3] using z⟩
                  · rintro ⟨x2, hi2, z1, k2, z2, ps2, z3, j2, z4, z5⟩
                    cases z1
                    rw [h1] at z2
                    cases z2
                    cases z3
                    rw [h3] at z4
                    cases z4
                    simpa [Mwp, h1, h2, h3] using z5
              | _ => simp [Mwp, h1, h2]
    constructor
    · intro z
      exact z.imp (fun a e' _ q => (this a e').mp q) fun _ _ _ q => q
    · intro z
      exact z.imp (fun a e' _ q => (this a e').mpr q) fun _ _ _ q => q
theorem w_setL2 {i : Nat} {qv qi : Opd} {Q : Fl → DEnv → Prop} : Mwp (mSetL i qv qi e) Q Qx ↔ isL e i = true ∧ Mwp (qv.go e) (fun hv e1 => Mwp (qi.go e1) (fun hi e2 => ∃ x, hv = .o x ∧ ∃ k, intAt hi e2 = some k ∧ ∃ ps, e2[i]? = some (some (.l ps)) ∧ ∃ j, ixN ps.length k = some j ∧ Q .nx (e2.set i (some (.l (ps.set j x))))) Qx) Qx := by
  rw [w_setL]
  simp only [w_args1, w_args0]
  refine and_congr_right fun _ => mwp_congr fun hv e1 => mwp_congr fun hi e2 => ?_
  constructor
  · rintro ⟨x, hi', h, r⟩
    injection h with h1 h2
    injection h2 with h2 _
    subst h2
    exact ⟨x, h1, r⟩
  · rintro ⟨x, rfl, r⟩
    exact ⟨x, hi, rfl, r⟩
theorem w_stores {is : List Nat} {qs : List Opd} {Q : Fl → DEnv → Prop} : Mwp (mStores is qs e) Q Qx ↔ Mwp (args qs e) (fun hes e' => ∃ os, allO hes = some os ∧ ∃ e2, putAll is os e' = some e2 ∧ Q .nx e2) Qx := by
  unfold mStores
  rw [w_bind]
  refine mwp_congr fun hes e' => ?_
  cases allO hes with
  | none => simp [Mwp]
  | some os => cases h : putAll is os e' <;> simp [Mwp, h]
theorem w_aug {i : Nat} {g : List OD → Option OD} {q : Opd} {Q : Fl → DEnv → Prop} : Mwp (mAug i g q e) Q Qx ↔ ∃ x, e[i]? = some (some (.d x)) ∧ Mwp (q.go e) (fun he e' => ∃ o, he.rd e' = some o ∧ ∃ r, g [.d x, o] = some r ∧ i < e'.length ∧ Q .nx (e'.set i (some r))) Qx := by
  unfold mAug
  cases h : e[i]? with
  | none => simp [Mwp]
  | some oo =>
    cases oo with
    | none => simp [Mwp]
    | some o =>
      cases o with
      | d x =>
        simp only [Option.some.injEq, OD.d.injEq, exists_eq_left']
        rw [w_bind]
        refine mwp_congr fun he e' => ?_
        cases he.rd e' with
        | none => simp [Mwp]
        | some o =>
          cases h2 : g [.d x, o] with
          | none => simp [Mwp, h2]
          | some r => by_cases h3 : i < e'.length <;> simp [Mwp, h2, h3]
      | _ => simp [Mwp]

/-! ### a def's answer -/
theorem fw_sem {io : Option Nat} {n : Nat} {m : M Fl} {os : List OD} {Q : OD → List OD → Prop} {Qx : Xn → List OD → Prop} : FWp (semD io n m os) Q Qx ↔ Mwp (m (startE n os)) (fun fl e => ∃ l, outs io e = some l ∧ match fl with
    | .rt o => Q o l
    | .nx => Q (.d .none) l
    | _ => False) (fun x e => ∃ l, outs io e = some l ∧ Qx x l) := by
  unfold semD
  cases m (startE n os) with
  | none => exact Iff.rfl
  | some p =>
    obtain ⟨p, e⟩ := p
    cases p with
    | ex x => cases h : outs io e <;> simp [Mwp, FWp, h]
    | ok fl => cases fl <;> (cases h : outs io e <;> simp [Mwp, FWp, h])
theorem fw_eq {r : Option (Rs OD × List OD)} {o : OD} {l : List OD} : FWp r (fun a b => a = o ∧ b = l) (fun _ _ => False) ↔ r = some (.ok o, l) := by
  cases r with
  | none => simp [FWp]
  | some p =>
    obtain ⟨p, e⟩ := p
    cases p <;> simp [FWp]
theorem FWp.imp {r : Option (Rs OD × List OD)} {Q Q' : OD → List OD → Prop} {Qx Qx' : Xn → List OD → Prop} (h : FWp r Q Qx) (k : ∀ a b, Q a b → Q' a b) (kx : ∀ a b, Qx a b → Qx' a b) : FWp r Q' Qx' := by
  cases r with
  | none => exact h
  | some p =>
    obtain ⟨p, e⟩ := p
    cases p with
    | ok a => exact k _ _ h
    | ex x => exact kx _ _ h
end
end DL

set_option Elab.async false
set_option linter.all false
set_option autoImplicit false
set_option maxRecDepth 100000
/-! Slices, the empty dict, int of a truth value, join, list of a text. -/
namespace DL
open PySem PySem.Spec PyProof.Rows L2
section
variable {X : Cx} {S : Sx} {W : WX} {K : PySem.W.Frag} {F H : Hp} {a b c : Expr} {qa qb qc : Opd} {pos p2 : Pos}

/-! ### a[lo:hi] -/
def cutD {α : Type} (xs : List α) (lo hi : Option Int) : List α := (xs.drop (HT.sIx xs.length 0 lo)).take (HT.sIx xs.length xs.length hi - HT.sIx xs.length 0 lo)
theorem cut_rep {ws : List V} {xs : List PyData} (h : Reps K F ws xs) (lo hi : Option Int) : Reps K F (cutV ws lo hi) (cutD xs lo hi) := by
  unfold cutV cutD
  rw [h.len]
  exact (h.drop _).take _
theorem cut_whole {α : Type} (xs : List α) {lo hi : Option Int} (h : HT.sIx xs.length 0 lo = 0 ∧ HT.sIx xs.length xs.length hi = xs.length) : cutD xs lo hi = xs := by
  unfold cutD
  rw [h.1, h.2]
  simp
def gSlice (lo hi : Option Int) : PyData → Option OD
  | .list xs => some (.l ((cutD xs lo hi).map .d))
  | .tuple xs => some (.d (.tuple (cutD xs lo hi)))
  | .str z => some (.d (.str (cutS z lo hi)))
  | _ => none
def rSlAll (K : PySem.W.Frag) : V → Option Int → Option Int → Hp → VK → Prop := fun x lo hi H Q => rSlL K x lo hi H Q ∨ rSlA K x lo hi H Q ∨ rSlS x lo hi H Q
theorem sl_all : SlR X (rSlAll X.K) := sl_list.or (sl_tupA.or sl_str)
theorem slice_ok {lo hi : Option Int} {σ : L2.St} {env : DEnv} {hs : List V} {ho : List OD} {x : V} {d : PyData} {o : OD} {Q : VK} (R : Rel X.K S F σ H env hs ho) (h : Sh X.K F H x d) (e : gSlice lo hi d = some o) (k : Cont X.K S F σ env hs ho o Q) : rSlAll X.K x lo hi H Q := by
  unfold gSlice at e
  split at e
  · cases e
    obtain ⟨p, ws, rfl, e1, e2⟩ := h.list R.sub
    exact .inl ⟨p, ws, rfl, .inl (.inl e1), fun q hq => fin_l R k (cut_rep e2 lo hi) hq⟩
  · rename_i xs
    cases e
    obtain ⟨p, ws, rfl, e1, e1', e2⟩ := h.tuple R.sub
    refine .inr (.inl ⟨p, ws, rfl, e1, fun z => ?_, fun _ q hq => fin_t R k (cut_rep e2 lo hi) hq⟩)
    refine fin_d R k ?_
    rw [e2.len] at z
    rw [cut_whole xs z]
    exact .tup e1' e2 .nil
  · cases e
    obtain ⟨rfl, hz⟩ := h.str
    exact .inr (.inr ⟨_, rfl, hz, fin_d R k (.str _ (Nat.le_trans (cutS_length _ _ _) hz) .nil)⟩)
  · cases e
def gSl0 : List OD → Option OD
  | [x] => if x.shallow then gSlice none none x.erase else none
  | _ => none
def gSlL : List OD → Option OD
  | [x, .d (.int i)] => if x.shallow then gSlice (some i) none x.erase else none
  | _ => none
def gSlH : List OD → Option OD
  | [x, .d (.int i)] => if x.shallow then gSlice none (some i) x.erase else none
  | _ => none
def gSlB : List OD → Option OD
  | [x, .d (.int i), .d (.int j)] => if x.shallow then gSlice (some i) (some j) x.erase else none
  | _ => none
theorem DA3 {qa qb qc : Opd} (h1 : DO X S W a qa) (h2 : DO X S W b qb) (h3 : DO X S W c qc) {σ : L2.St} {env : DEnv} {hs : List V} {ho : List OD} {Q : V → V → V → Hp → Prop} (R : Rel X.K S F σ H env hs ho)
    (h : Mwp (args [qa, qb, qc] env) (fun hes env' => ∀ F' H' x y z hvs hos, Same F F' → Mt σ hes [x, y, z] hvs hos → Rel X.K S F' σ H' env' (hs ++ hvs) (ho ++ hos) → Q x y z H') (QX X S W F σ hs ho)) :
    WE X a σ H fun x H1 => WE X b σ H1 fun y H2 => WE X c σ H2 fun z H3 => Q x y z H3 := by
  have h := h.imp (Qo' := fun hes env' => ∀ F' H' vs hvs hos, Same F F' → Mt σ hes vs hvs hos → Rel X.K S F' σ H' env' (hs ++ hvs) (ho ++ hos) → (match vs with | [x, y, z] => Q x y z H' | _ => True)) (fun hes e' _ k F' H' vs hvs hos s mt R' => by
    match vs, mt with
    | [x, y, z], mt => exact k F' H' x y z hvs hos s mt R'
    | [], _ => trivial
    | [_], _ => trivial
    | [_, _], _ => trivial
    | _ :: _ :: _ :: _ :: _, _ => trivial) fun _ _ _ x => x
  refine h1 F σ H env hs ho _ R ((args_step R.hlen h).imp (fun he env1 _ k F1 H1 v s1 L => ?_) fun _ _ _ x => x)
  obtain ⟨hs1, ho1, R1, k⟩ := k F1 H1 v s1 L
  refine h2 F1 σ H1 env1 hs1 ho1 _ R1 ((args_step R1.hlen k).imp (fun he env2 _ k F2 H2 w s2 L => ?_) fun _ _ _ x => x)
  obtain ⟨hs2, ho2, R2, k⟩ := k F2 H2 w s2 L
  refine h3 F2 σ H2 env2 hs2 ho2 _ R2 ((args_step R2.hlen k).imp (fun he env3 _ k F3 H3 u s3 L => ?_) fun _ _ _ x => x)
  obtain ⟨hs3, ho3, R3, k⟩ := k F3 H3 u s3 L
  have := k F3 H3 [] [] [] (Same.refl _) .nil (by simpa using R3)
  exact this
theorem de_sl0 (h1 : DO X S W a qa) : DE X S W (.Subscript a (.Slice none none none p2) pos) (prim gSl0 [qa]) := by
  intro F σ H env hs hos Q R h
  refine WE.of (pe_slice sl_all (pe_we X a) po_none po_none) (DA1 h1 R ((Mwp.bind h).imp (fun hes env' _ k F' H' x hvs hos' s mt R' => ?_) fun _ _ _ x => x))
  refine prim_fin (r := rr1 fun x H Q => rSlAll X.K x none none H Q) (fun F σ H env hs ho vs os o Q R rd e k => ?_) R.hlen s mt R' k
  unfold gSl0 at e
  split at e
  · obtain ⟨x, f, rfl, h1⟩ := rdb1 rd
    split at e
    · exact slice_ok R (h1.sh (by assumption)) e k
    · cases e
  · cases e
theorem de_slL (h1 : DO X S W a qa) (h2 : DO X S W b qb) : DE X S W (.Subscript a (.Slice (some b) none none p2) pos) (prim gSlL [qa, qb]) := by
  intro F σ H env hs hos Q R h
  refine WE.of (pe_slice sl_all (pe_we X a) (po_some (pe_we X b)) po_none) (DA2 h1 h2 R ((Mwp.bind h).imp (fun hes env' _ k F' H' x y hvs hos' s mt R' => ?_) fun _ _ _ x => x))
  refine prim_fin (r := rr2 fun x y H Q => ∃ i, y = .int i ∧ rSlAll X.K x (some i) none H Q) (fun F σ H env hs ho vs os o Q R rd e k => ?_) R.hlen s mt R' k
  unfold gSlL at e
  split at e
  · obtain ⟨x, y, f, g, rfl, h1, h2⟩ := rdb2 rd
    cases (ORp.d_inv h2).2.int_inv
    split at e
    · exact ⟨_, rfl, slice_ok R (h1.sh (by assumption)) e k⟩
    · cases e
  · cases e
theorem de_slH (h1 : DO X S W a qa) (h2 : DO X S W b qb) : DE X S W (.Subscript a (.Slice none (some b) none p2) pos) (prim gSlH [qa, qb]) := by
  intro F σ H env hs hos Q R h
  refine WE.of (pe_slice sl_all (pe_we X a) po_none (po_some (pe_we X b))) (DA2 h1 h2 R ((Mwp.bind h).imp (fun hes env' _ k F' H' x y hvs hos' s mt R' => ?_) fun _ _ _ x => x))
  refine prim_fin (r := rr2 fun x y H Q => ∃ i, y = .int i ∧ rSlAll X.K x none (some i) H Q) (fun F σ H env hs ho vs os o Q R rd e k => ?_) R.hlen s mt R' k
  unfold gSlH at e
  split at e
  · obtain ⟨x, y, f, g, rfl, h1, h2⟩ := rdb2 rd
    cases (ORp.d_inv h2).2.int_inv
    split at e
    · exact ⟨_, rfl, slice_ok R (h1.sh (by assumption)) e k⟩
    · cases e
  · cases e
def rr3 (r : V → V → V → Hp → VK → Prop) : List V → Hp → VK → Prop := fun vs H Q => match vs with
  | [x, y, z] => r x y z H Q
  | _ => False
theorem rdb3 {vs : List V} {o p q : OD} (h : Rdb K F H vs [o, p, q]) : ∃ x y z f g i, vs = [x, y, z] ∧ ORp K F H x o f ∧ ORp K F H y p g ∧ ORp K F H z q i := by
  cases h with
  | cons h1 h2 =>
    obtain ⟨y, z, g, i, rfl, h3, h4⟩ := rdb2 h2
    exact ⟨_, _, _, _, _, _, rfl, h1, h3, h4⟩
def mSlB (qa qb qc : Opd) : M OD := M.bind (args [qa, qb]) fun hes e => match rds e hes with
  | some [_, .d (.int _)] => M.bind qc.go (fun hc e2 => match rds e2 (hes ++ [hc]) with
    | none => none
    | some os => match gSlB os with
      | none => none
      | some o => some (.ok o, e2)) e
  | _ => none
theorem de_slB (h1 : DO X S W a qa) (h2 : DO X S W b qb) (h3 : DO X S W c qc) : DE X S W (.Subscript a (.Slice (some b) (some c) none p2) pos) (mSlB qa qb qc) := by
  intro F σ H env hs hos Q R h
  refine WE.of (pe_slice sl_all (pe_we X a) (po_some (pe_we X b)) (po_some (pe_we X c))) ?_
  refine DA2 (Q := fun x y H' => ∃ i, y = .int i ∧ WE X c σ H' fun z H3 => ∃ j, z = .int j ∧ rSlAll X.K x (some i) (some j) H3 Q) h1 h2 R ((Mwp.bind h).imp (fun hes env' _ k F' H' x y hvs hos' s mt R' => ?_) fun _ _ _ x => x)
  split at k
  · rename_i ox i e1
    have rb := mt.rdb R' R.hlen e1
    obtain ⟨x', y', f, g, exy, r1, r2⟩ := rdb2 rb
    cases exy
    have ey := (ORp.d_inv r2).2.int_inv
    subst ey
    refine ⟨i, rfl, ?_⟩
    refine h3 F' σ H' env' (hs ++ hvs) (hos ++ hos') _ R' ((Mwp.bind k).imp (fun hc env3 _ k3 F3 H3 w s3 L => ?_) fun _ _ _ q => q.mono s R.hlen)
    have s03 : Same F F3 := s.trans s3
    cases e4 : rds env3 (hes ++ [hc]) with
    | none => rw [e4] at k3; exact k3.elim
    | some us =>
      rw [e4] at k3
      simp only at k3
      cases e5 : gSlB us with
      | none => rw [e5] at k3; exact k3.elim
      | some o' =>
        rw [e5] at k3
        have fin : ∀ {hvs2 hos2}, Mt σ (hes ++ [hc]) [x, .int i, w] hvs2 hos2 → Rel X.K S F3 σ H3 env3 (hs ++ hvs2) (hos ++ hos2) → ∃ j, w = .int j ∧ rSlAll X.K x (some i) (some j) H3 Q := fun {hvs2 hos2} mt2 R4 => by
          have rb2 := mt2.rdb R4 R.hlen e4
          unfold gSlB at e5
          split at e5
          · obtain ⟨x2, y2, z2, f2, g2, i2, exyz, q1, q2, q3⟩ := rdb3 rb2
            cases exyz
            have e6 := (ORp.d_inv q2).2.int_inv
            have e7 := (ORp.d_inv q3).2.int_inv
            cases e6
            subst e7
            split at e5
            · exact ⟨_, rfl, slice_ok (R4.drop R.hlen) (q1.sh (by assumption)) e5 fun F5 H5 v s5 R5 => k3 F5 H5 v (s03.trans s5) R5⟩
            · cases e5
          · cases e5
        cases hc with
        | o u =>
          have L' : Rel X.K S F3 σ H3 env3 (hs ++ hvs ++ [w]) (hos ++ hos' ++ [u]) := L
          exact fin (mt_snoc mt (he := .o u)) (by rw [← List.append_assoc, ← List.append_assoc]; exact L')
        | al l => exact fin (mt_snoc mt (he := .al l) L.1) L.2
  · exact k.elim

/-! ### {} as data -/
theorem de_dict0 : DE X S W (.Dict [] [] pos) (mC (.dict [])) := by
  intro F σ H env hs hos Q R h
  refine WE.of pe_dnewK fun p hp => ?_
  obtain ⟨R', s⟩ := R.growF (u := .dK []) hp
  exact h _ _ _ s (R'.push (.dic (ks := []) (xs := []) (.inl upd_same) rfl .nil .nil))

/-! ### int(x) -/
def gInt : List OD → Option OD
  | [.d (.int i)] => some (.d (.int i))
  | [.d (.bool k)] => some (.d (.int (if k then 1 else 0)))
  | _ => none
theorem os_int : OSpec X S (fun xs H Q => (∃ i, xs = [.int i] ∧ Q (.int i) H) ∨ ∃ k, xs = [.bl k] ∧ Q (.int (if k then 1 else 0)) H) gInt := by
  intro F σ H env hs ho vs os o Q R rd e k
  unfold gInt at e
  split at e
  · cases e
    obtain ⟨x, f, rfl, h1⟩ := rdb1 rd
    cases (ORp.d_inv h1).2.int_inv
    exact .inl ⟨_, rfl, fin_d R k (.int _ .nil)⟩
  · cases e
    obtain ⟨x, f, rfl, h1⟩ := rdb1 rd
    cases (ORp.d_inv h1).2.bool_inv
    exact .inr ⟨_, rfl, fin_d R k (.int _ .nil)⟩
  · cases e
end
end DL

set_option Elab.async false
set_option linter.all false
set_option autoImplicit false
set_option maxRecDepth 100000
/-! Methods of texts; list of a text; moving a slot's thing out. -/
namespace DL
open PySem PySem.Spec PyProof.Rows L2
section
variable {X : Cx} {S : Sx} {W : WX} {K : PySem.W.Frag} {F H : Hp} {a b c : Expr} {qa qb qc : Opd} {pos p2 : Pos}
/-- a receiver that must be a text, then the arguments -/
def mStr (g : List OD → Option OD) (qa : Opd) (qs : List Opd) : M OD := M.bind qa.go fun ha e => match ha.rd e with
  | some (.d (.str _)) => M.bind (args qs) (fun hes e2 => match rds e2 (ha :: hes) with
    | none => none
    | some os => match g os with
      | none => none
      | some o => some (.ok o, e2)) e
  | _ => none
theorem left_str {σ : L2.St} {env : DEnv} {he : HE} {v : V} {z : Str} {hs : List V} {ho : List OD} (L : Left K S F σ H env hs ho v he) (hl : hs.length = ho.length) (h : he.rd env = some (.d (.str z))) : v = .str z := by
  cases he with
  | o x =>
    cases h
    have L : Rel K S F σ H env (hs ++ [v]) (ho ++ [.d (.str z)]) := L
    obtain ⟨fp, r⟩ := L.heldReps hl
    exact (ORp.d_inv r).2.str_inv.1
  | al j =>
    obtain ⟨L1, L⟩ := L
    simp only [HE.rd] at h
    cases q0 : env[j]? with
    | none => rw [q0] at h; cases h
    | some oo =>
      rw [q0] at h
      simp only [Option.join_some] at h
      subst h
      obtain ⟨v', fp, h1, h2⟩ := L.slot q0
      rw [h1] at L1
      cases L1
      exact (ORp.d_inv h2).2.str_inv.1
theorem str_core {σ : L2.St} {env : DEnv} {hs : List V} {ho : List OD} {qs : List Opd} {g : List OD → Option OD} {r : V → List V → Hp → VK → Prop} {es : List Expr} {Q : VK} (sp : OSpec X S (fun vs H Q => match vs with
      | x :: xs => r x xs H Q
      | [] => False) g) (h1 : DO X S W a qa) (h2 : DAs X S W es qs) (R : Rel X.K S F σ H env hs ho)
    (h : Mwp (mStr g qa qs env) (fun o env' => ∀ F' H' v, Same F F' → Rel X.K S F' σ H' env' (hs ++ [v]) (ho ++ [o]) → Q v H') (QX X S W F σ hs ho)) :
    WE X a σ H fun x H1 => tyV X.K "str" x H1 ∧ WA X es σ H1 fun xs H2 => r x xs H2 Q := by
  refine h1 F σ H env hs ho _ R ((Mwp.bind h).imp (fun ha e1 _ k F1 H1 x s1 L => ?_) fun _ _ _ z => z)
  split at k
  · rename_i z ez
    have ex := left_str L R.hlen ez
    subst ex
    refine ⟨rfl, ?_⟩
    have fin : ∀ (hs1 : List V) (ho1 : List OD) (pre : ∀ {hes vs hvs hos}, Mt σ hes vs hvs hos → ∃ hvs2 hos2, Mt σ (ha :: hes) (.str z :: vs) hvs2 hos2 ∧ hs1 ++ hvs = hs ++ hvs2 ∧ ho1 ++ hos = ho ++ hos2), Rel X.K S F1 σ H1 e1 hs1 ho1 → (∀ {x e}, QX X S W F σ hs ho x e → QX X S W F1 σ hs1 ho1 x e) → WA X es σ H1 fun xs H2 => r (.str z) xs H2 Q := by
      intro hs1 ho1 pre R1 qx
      refine h2.run F1 σ H1 e1 hs1 ho1 _ R1 ((Mwp.bind k).imp (fun hes e2 _ k2 F2 H2 vs hvs hos s2 mt R2 => ?_) fun _ _ _ z => qx z)
      obtain ⟨hvs2, hos2, mt2, e3, e4⟩ := pre mt
      rw [e3, e4] at R2
      cases e5 : rds e2 (ha :: hes) with
      | none => rw [e5] at k2; exact k2.elim
      | some os =>
        rw [e5] at k2
        simp only at k2
        cases e6 : g os with
        | none => rw [e6] at k2; exact k2.elim
        | some o =>
          rw [e6] at k2
          exact sp F2 σ H2 e2 hs ho (.str z :: vs) os o Q (R2.drop R.hlen) (mt2.rdb R2 R.hlen e5) e6 fun F5 H5 v s5 R5 => k2 F5 H5 v ((s1.trans s2).trans s5) R5
    cases ha with
    | o u =>
      have L' : Rel X.K S F1 σ H1 e1 (hs ++ [.str z]) (ho ++ [u]) := L
      exact fin (hs ++ [.str z]) (ho ++ [u]) (fun mt => ⟨_, _, .o mt, by simp, by simp⟩) L' fun q => q.mono s1 R.hlen
    | al i => exact fin hs ho (fun mt => ⟨_, _, .al L.1 mt, rfl, rfl⟩) L.2 fun q => by simpa using QX.mono (ws := []) (os := []) q s1 R.hlen
  · exact k.elim
theorem de_str1 {nm : Str} {id : String} {e : Expr} {es : List Expr} {qs : List Opd} {g : List OD → Option OD} {r : V → List V → Hp → VK → Prop} {apos cpos : Pos} (hm : MtR X id r) (sp : OSpec X S (fun vs H Q => match vs with
      | x :: xs => r x xs H Q
      | [] => False) g) (h1 : DO X S W a qa) (h2 : DAs X S W (e :: es) qs) (slot : Slot "str" nm id) (hty : typeOf (.builtin id) = pure (.type "method_descriptor"))
    (hbase : attributeBase a nm X.env (eval a X.env) = eval a X.env := by rfl)
    (hfew : ((backTo cpos (starEach (e :: es) X.env)).all (fun x => !x.1) && (backToKw cpos (keywordEach [] X.env)).all (fun x => x.1.isSome)
      && decide ((e :: es).length + ([] : List Keyword).length + (if ([] : List Keyword).isEmpty then 0 else 1) < 30)) = true := by rfl)
    (hline : (apos.endLine == cpos.line) = true := by rfl) (hst : starEach (e :: es) X.env = (false, eval e X.env) :: starEach es X.env := by rfl) (hplain : (backTo cpos (starEach es X.env)).any (·.1) = false := by rfl) :
    DE X S W (.Call (.Attribute a nm apos) (e :: es) [] cpos) (mStr g qa qs) := by
  intro F σ H env hs ho Q R h
  exact WE.of (pe_bm PySem.F.plainAttrs_str slot hty hm (pe_we X a) (pa_wa X _) hbase hfew hline hst hplain) (str_core sp h1 h2 R h)
/-! ### sep.join(texts) -/
def gJoin : List OD → Option OD
  | [.d (.str x), o] => if o.shallow then match o.erase with
    | .list ds => (strsOf ds).bind fun ys => if (ys.map (·.length)).sum + ys.length * x.length ≤ 16777216 ∧ (Txt.join x ys).length ≤ sizeLine then some (.d (.str (Txt.join x ys))) else none
    | .tuple ds => (strsOf ds).bind fun ys => if (ys.map (·.length)).sum + ys.length * x.length ≤ 16777216 ∧ (Txt.join x ys).length ≤ sizeLine then some (.d (.str (Txt.join x ys))) else none
    | _ => none
    else none
  | _ => none
def rJoin (K : PySem.W.Frag) : V → List V → Hp → VK → Prop := fun x xs H Q => ∃ a p, ∃ ys : List Str, x = .str a ∧ xs = [.ref p] ∧ (SqL K H p (ys.map V.str) ∨ SqT K H p (ys.map V.str)) ∧
    (ys.map (·.length)).sum + ys.length * a.length ≤ 16777216 ∧ Q (.str (Txt.join a ys)) H
theorem os_join : OSpec X S (fun vs H Q => match vs with
      | x :: xs => rJoin X.K x xs H Q
      | [] => False) gJoin := by
  intro F σ H env hs ho vs os o Q R rd e k
  unfold gJoin at e
  split at e
  · obtain ⟨x, y, f, g, rfl, h1, h2⟩ := rdb2 rd
    obtain ⟨rfl, _⟩ := (ORp.d_inv h1).2.str_inv
    split at e
    · rename_i hsh
      have sh := h2.sh hsh
      split at e
      · rename_i ds ed
        rw [ed] at sh
        cases q : strsOf ds with
        | none => rw [q] at e; cases e
        | some ys =>
          rw [q] at e
          simp only [Option.bind_some] at e
          split at e
          · rename_i hz
            cases e
            obtain ⟨p, ws, rfl, e1, e2⟩ := sh.list R.sub
            have := strs_rep e2 q
            subst this
            exact ⟨_, p, ys, rfl, rfl, .inl (.inl (.inl e1)), hz.1, fin_d R k (.str _ hz.2 .nil)⟩
          · cases e
      · rename_i ds ed
        rw [ed] at sh
        cases q : strsOf ds with
        | none => rw [q] at e; cases e
        | some ys =>
          rw [q] at e
          simp only [Option.bind_some] at e
          split at e
          · rename_i hz
            cases e
            obtain ⟨p, ws, rfl, e1, e1', e2⟩ := sh.tuple R.sub
            have := strs_rep e2 q
            subst this
            exact ⟨_, p, ys, rfl, rfl, .inr e1, hz.1, fin_d R k (.str _ hz.2 .nil)⟩
          · cases e
      · cases e
    · cases e
  · cases e
theorem de_join {e : Expr} {apos cpos : Pos} (h1 : DO X S W a qa) (h2 : DAs X S W [e] [qb]) (hbase : attributeBase a "join" X.env (eval a X.env) = eval a X.env := by rfl)
    (hfew : ((backTo cpos (starEach [e] X.env)).all (fun x => !x.1) && (backToKw cpos (keywordEach [] X.env)).all (fun x => x.1.isSome)
      && decide (([e] : List Expr).length + ([] : List Keyword).length + (if ([] : List Keyword).isEmpty then 0 else 1) < 30)) = true := by rfl)
    (hline : (apos.endLine == cpos.line) = true := by rfl) (hst : starEach [e] X.env = (false, eval e X.env) :: starEach [] X.env := by rfl) (hplain : (backTo cpos (starEach [] X.env)).any (·.1) = false := by rfl) :
    DE X S W (.Call (.Attribute a "join" apos) [e] [] cpos) (mStr gJoin qa [qb]) := de_str1 (r := rJoin X.K) mt_join os_join h1 h2 PySem.F.slot_str_join PySem.F.type_str_join hbase hfew hline hst hplain

/-! ### list(x), tuple(x), x a list, a tuple or a text -/
def rListStr : V → Hp → VK → Prop := fun x H Q => ∃ z : Str, x = .str z ∧ z.length ≤ sizeLine ∧ ∀ l, H l = none → Q (.ref l) (upd H l (.lst (z.cps.toList.map fun c => V.str ⟨#[c]⟩)))
theorem cr_listStr (hc : X.calm = true) : CallR X (.type "list") (rr1 rListStr) := by
  intro pins s σ H xs us Q I r h
  unfold rr1 at h
  split at h
  · obtain ⟨u, rfl, r1⟩ := vals1 r
    obtain ⟨z, rfl, hz, k⟩ := h
    obtain ⟨t, rfl⟩ := r1
    refine PySem.call_list_str (I.ok.hd hc) z t (hn := hz) fun h' tk acc c' kp atS hacc => ?_
    have rv := signs_vals hacc
    have hlen : (z.cps.toList.map fun c => V.str ⟨#[c]⟩).length ≤ sizeLine := by simpa [Str.length] using hz
    exact ⟨.ref s.heap.objs.size, upd H s.heap.objs.size (.lst (z.cps.toList.map fun c => V.str ⟨#[c]⟩)), I.laid (t' := tk) kp (Nat.le_refl _) (show ObjOk X.prog X.w _ _ _ (.lst _) from ⟨hlen, acc.toList, c', rv, by simpa using atS⟩), rfl, k _ (I.hok.fresh (Nat.le_refl _))⟩
  · exact h.elim
theorem callr_or {f : Value} {r r' : List V → Hp → VK → Prop} (h : CallR X f r) (h' : CallR X f r') : CallR X f (fun xs H Q => r xs H Q ∨ r' xs H Q) := by
  intro pins s σ H xs us Q I rv q
  rcases q with q | q
  · exact h pins s σ H xs us Q I rv q
  · exact h' pins s σ H xs us Q I rv q
def gListAny : PyData → Option OD
  | .str x => some (.l ((chars x).map .d))
  | d => gListOf d
theorem os_listAny : OSpec X S (fun xs H Q => rListOf X.K xs H Q ∨ rr1 rListStr xs H Q) (sh1 gListAny) := up1 (os_sh1 fun F σ H env hs ho x d o Q R h1 hf k => by
  unfold gListAny at hf
  split at hf
  · cases hf
    obtain ⟨rfl, hz⟩ := h1.str
    exact .inr ⟨_, rfl, hz, fun l hl => fin_l R k (chars_rep _) hl⟩
  · left
    unfold gListOf at hf
    split at hf
    · cases hf
      obtain ⟨p, ws, rfl, e1, e2⟩ := h1.list R.sub
      exact ⟨p, ws, rfl, .inl (.inl (.inl e1)), fun l hl => fin_l R k e2 hl⟩
    · cases hf
      obtain ⟨p, ws, rfl, e1, e1', e2⟩ := h1.tuple R.sub
      exact ⟨p, ws, rfl, .inr e1, fun l hl => fin_l R k e2 hl⟩
    · cases hf)
def gTupAny : PyData → Option OD
  | .str x => some (.d (.tuple (chars x)))
  | d => gTupOf d
theorem os_tupAny : OSpec X S (fun xs H Q => rTupOf X.K xs H Q ∨ rr1 rTupStr xs H Q) (sh1 gTupAny) := up1 (os_sh1 fun F σ H env hs ho x d o Q R h1 hf k => by
  unfold gTupAny at hf
  split at hf
  · cases hf
    obtain ⟨rfl, hz⟩ := h1.str
    exact .inr ⟨_, rfl, hz, fun l hl => fin_t R k (chars_rep _) hl⟩
  · left
    unfold gTupOf at hf
    split at hf
    · cases hf
      obtain ⟨p, ws, rfl, e1, e2⟩ := h1.list R.sub
      exact ⟨p, ws, rfl, .inl ⟨.inl (.inl e1), fun l hl => fin_t R k e2 hl⟩⟩
    · cases hf
      obtain ⟨p, ws, rfl, e1, e1', e2⟩ := h1.tuple R.sub
      exact ⟨p, ws, rfl, .inr ⟨e1, fin_d R k (.tup e1' e2 .nil)⟩⟩
    · cases hf)
end
end DL

set_option Elab.async false
set_option linter.all false
set_option autoImplicit false
set_option maxRecDepth 100000
/-! Dicts with int and text keys. -/
namespace DL
open PySem PySem.Spec PyProof.Rows L2
section
variable {X : Cx} {S : Sx} {W : WX} {K : PySem.W.Frag} {F H : Hp} {a b c : Expr} {qa qb qc : Opd} {pos p2 : Pos}
def keyM (k : Key) (d : PyData) : Bool := match k, d with
  | .inl i, .int j => i == j
  | .inr x, .str y => x == y
  | _, _ => false
theorem keyM_iff (k k' : Key) : keyM k (keyD k') = decide (k' = k) := by
  cases k with
  | inl i =>
    cases k' with
    | inl j =>
      by_cases h : i = j
      · subst h; simp [keyM, keyD]
      · have : ¬ j = i := fun z => h z.symm
        simp [keyM, keyD, h, this]
    | inr y => simp [keyM, keyD]
  | inr x =>
    cases k' with
    | inl j => simp [keyM, keyD]
    | inr y =>
      by_cases h : x = y
      · subst h; simp [keyM, keyD]
      · have : ¬ y = x := fun z => h z.symm
        simp [keyM, keyD, h, this]
def findD (kds : List (PyData × PyData)) (k : Key) : Option PyData := (kds.find? fun p => keyM k p.1).map (·.2)
theorem find_rep : ∀ {kvs : List (Key × V)} {xs : List PyData} (k : Key), Reps K F (kvs.map (·.2)) xs → (valV kvs k = none ∧ findD (((kvs.map (·.1)).map keyD).zip xs) k = none) ∨ ∃ v d, valV kvs k = some v ∧ findD (((kvs.map (·.1)).map keyD).zip xs) k = some d ∧ Rp K F v d
  | [], xs, k, _ => .inl ⟨rfl, rfl⟩
  | p :: kvs, [], k, h => absurd h.len (by simp)
  | p :: kvs, x :: xs, k, h => by
    have ih := find_rep (kvs := kvs) (xs := xs) k h.inv.2
    by_cases e : p.1 = k
    · right
      refine ⟨p.2, x, valV_pos e, ?_, h.inv.1⟩
      simp [findD, keyM_iff, e]
    · rw [valV_neg e]
      have : findD ((((p :: kvs).map (·.1)).map keyD).zip (x :: xs)) k = findD (((kvs.map (·.1)).map keyD).zip xs) k := by
        simp [findD, keyM_iff, e]
      rw [this]
      exact ih
theorem key_rep {x : V} {d : PyData} {k : Key} (h : Rp K F x d) (e : keyOf? d = some k) : x = kV k := by
  cases d with
  | int i => cases e; exact h.int_inv
  | str y => cases e; exact h.str_inv.1
  | _ => cases e
/-- k in d, k not in d -/
def rDIn (neg : Bool) : R2 := fun y x H Q => ∃ a o, x = .ref a ∧ DGet H a y o ∧ Q (.bl (if neg then !o.isSome else o.isSome)) H
theorem op_dIn (O : Ok1 X) : OpR X (compareOp .In) (rDIn false) := by
  intro pins s σ H y x u v Q I ry rx h
  obtain ⟨a, o, rfl, g, q⟩ := h
  obtain rfl : v = Value.ref a := rx
  exact d_in (by have := O.un; omega) I g ry fun s3 I3 => ⟨.bl o.isSome, H, I3, rfl, q⟩
theorem op_dNotIn (O : Ok1 X) : OpR X (compareOp .NotIn) (rDIn true) := by
  intro pins s σ H y x u v Q I ry rx h
  obtain ⟨a, o, rfl, g, q⟩ := h
  obtain rfl : v = Value.ref a := rx
  exact d_notIn (by have := O.un; omega) I g ry fun s3 I3 => ⟨.bl (!o.isSome), H, I3, rfl, q⟩
def gDIn (neg : Bool) (d e : PyData) : Option OD := match e, keyOf? d with
  | .dict kds, some k => some (.d (.bool (if neg then !(findD kds k).isSome else (findD kds k).isSome)))
  | _, _ => none
theorem os_dIn (neg : Bool) : OSpec X S (rr2 (rDIn neg)) (sh2 (gDIn neg)) := os_sh2 fun F σ H env hs ho x y d e o Q R h1 h2 hf k => by
  unfold gDIn at hf
  split at hf
  · rename_i kds kk ek
    cases hf
    obtain ⟨p, kvs, xs, rfl, e1, rfl, e2⟩ := h2.dict R.sub
    have hx : x = kV kk := by
      cases h1 with
      | d h1 => exact key_rep h1 ek
      | l _ _ => cases ek
      | m _ _ => cases ek
    subst hx
    refine ⟨p, valV kvs kk, rfl, .inl ⟨kvs, kk, e1, rfl, rfl⟩, ?_⟩
    have : (findD (((kvs.map (·.1)).map keyD).zip xs) kk).isSome = (valV kvs kk).isSome := by
      rcases find_rep (K := X.K) (F := F) kk e2 with ⟨z1, z2⟩ | ⟨v, d, z1, z2, _⟩ <;> rw [z1, z2] <;> rfl
    rw [← this]
    exact fin_d R k (.bl _ .nil)
  · cases hf
/-- d[k] -/
def rDGet : R2 := fun x y H Q => ∃ a v, x = .ref a ∧ DGet H a y (some v) ∧ Q v H
theorem ix_dict (O : Ok1 X) : IxR X rDGet := by
  intro value slice pins s σ H x y v u Q I rx ry h hs
  obtain ⟨p, r, rfl, g, q⟩ := h
  obtain rfl : v = Value.ref p := rx
  exact tail_any (dict_typeIs I g) slot_dict_getitem.lookup (d_getItem (by have := O.un; omega) I g ry fun w' s3 I3 rw' => ⟨r, H, I3, rw', q⟩) hs
def gDGet (d e : PyData) : Option OD := match d, keyOf? e with
  | .dict kds, some k => (findD kds k).map .d
  | _, _ => none
theorem os_dGet : OSpec X S (rr2 rDGet) (sh2 gDGet) := os_sh2 fun F σ H env hs ho x y d e o Q R h1 h2 hf k => by
  unfold gDGet at hf
  split at hf
  · rename_i kds kk ek
    obtain ⟨r, er, rfl⟩ := Option.map_eq_some_iff.mp hf
    obtain ⟨p, kvs, xs, rfl, e1, rfl, e2⟩ := h1.dict R.sub
    have hy : y = kV kk := by
      cases h2 with
      | d h2 => exact key_rep h2 ek
      | l _ _ => cases ek
      | m _ _ => cases ek
    subst hy
    rcases find_rep (K := X.K) (F := F) kk e2 with ⟨z1, z2⟩ | ⟨v, d, z1, z2, z3⟩
    · rw [z2] at er; cases er
    · rw [z2] at er
      cases er
      exact ⟨p, v, rfl, .inl ⟨kvs, kk, e1, rfl, z1.symm⟩, fin_d R k z3⟩
  · cases hf
end
end DL

set_option Elab.async false
set_option linter.all false
set_option autoImplicit false
set_option maxRecDepth 100000
/-! Own dicts: the empty one, d[k] = v; a slot's thing moved out. -/
namespace DL
open PySem PySem.Spec PyProof.Rows L2
section
variable {K : PySem.W.Frag} {S : Sx} {F F' H H' : Hp} {σ : L2.St} {env : DEnv} {hs ws : List V} {ho os : List OD}
theorem Rel.newM (R : Rel K S F σ H env hs ho) {p : Addr} (hp : H p = none) : Rel K S F σ (upd H p (.dK [])) env (hs ++ [.ref p]) (ho ++ [.m [] []]) := by
  have R1 := R.grow (u := .dK []) hp
  obtain ⟨f1, f2, a, b, nd, io⟩ := R1.rep
  obtain ⟨g1, g2, a0, b0, nd0, io0⟩ := R.rep
  have at' : ∀ x ∈ g1 ++ g2, x ≠ p := fun x hx z => by
    have q : ∃ o, H x = some o := (List.mem_append.mp hx).elim (fun h => (a0.fnone x h).2) fun h => (b0.fnone x h).2
    rw [z, hp] at q
    obtain ⟨_, q⟩ := q
    cases q
  have k : ∀ x, x ≠ p → upd H p (.dK []) x = H x := fun x hx => upd_ne hx
  refine ⟨R1.sub, ⟨g1, g2 ++ [p], a0.change (Same.refl _) fun x hx => ⟨(a0.fnone x hx).1, k x (at' x (List.mem_append_left _ hx))⟩, ?_, ?_, ?_⟩, R1.keep, R1.new, R1.f0, R1.pin⟩
  · refine (b0.change (Same.refl _) fun x hx => ⟨(b0.fnone x hx).1, k x (at' x (List.mem_append_right _ hx))⟩).app ?_
    exact ORp.mkm (fp := []) (R.sub.free hp) upd_same rfl .nil
  · have : (g1 ++ (g2 ++ [p])).Perm (p :: (g1 ++ g2)) := by
      rw [← List.append_assoc]
      exact List.perm_append_comm
    exact (this.nodup_iff).mpr (List.nodup_cons.mpr ⟨fun h => at' p h rfl, nd0⟩)
  · intro x hx
    have : x = p ∨ x ∈ g1 ++ g2 := by
      simp only [List.mem_append, List.mem_singleton] at hx ⊢
      rcases hx with h | h | h <;> simp [h]
    rcases this with rfl | h
    · exact R.notin hp
    · exact io0 x h
/-- the list of a dict's values behind a put -/
def putIx (ks : List Key) (k : Key) : Option Nat := ks.findIdx? fun k' => decide (k' = k)
theorem put_old {kvs : List (Key × V)} {k : Key} {v : V} (h : (kvs.any fun kv => decide (kv.1 = k)) = true) : (putK kvs k v).map (·.1) = kvs.map (·.1) := by
  unfold putK
  rw [if_pos h, List.map_map]
  exact List.map_congr_left fun p _ => by
    show (if p.1 = k then (p.1, v) else p).1 = p.1
    split <;> rfl
theorem put_new {kvs : List (Key × V)} {k : Key} {v : V} (h : ¬ (kvs.any fun kv => decide (kv.1 = k)) = true) : putK kvs k v = kvs ++ [(k, v)] := by
  unfold putK
  rw [if_neg h]
end
section
variable {X : Cx} {S : Sx} {W : WX} {a b c : Expr} {pos : Pos}
/-- {} as an own dict -/
def mDict0 : M OD := M.ret (.m [] [])
theorem de_dictO : DE X S W (.Dict [] [] pos) mDict0 := by
  intro F σ H env hs hos Q R h
  refine WE.of pe_dnewK fun p hp => ?_
  exact h F _ _ (Same.refl _) (R.newM hp)

def putO (ks : List Key) (ps : List OD) (k : Key) (x : OD) : List Key × List OD := if (ks.any fun k' => decide (k' = k)) = true then (ks, (ks.zip ps).map fun p => if p.1 = k then x else p.2) else (ks ++ [k], ps ++ [x])
theorem put_reps {K : PySem.W.Frag} {F H : Hp} {v : V} {x : PyData} (rv : Rp K F v x) (k : Key) : ∀ {kvs : List (Key × V)} {ps : List OD} {fp : List Addr}, OReps K F H (kvs.map (·.2)) ps fp →
    ∃ fr l, OReps K F H ((kvs.map fun kv => if kv.1 = k then (kv.1, v) else kv).map (·.2)) (((kvs.map (·.1)).zip ps).map fun p => if p.1 = k then .d x else p.2) fr ∧ fp.Perm (l ++ fr)
  | [], [], _, .nil => ⟨[], [], .nil, by simp⟩
  | [], _ :: _, _, h => absurd h.len (by simp)
  | _ :: _, [], _, h => absurd h.len (by simp)
  | kv :: kvs, p :: ps, fp, h => by
    obtain ⟨f1, f2, a, b, rfl⟩ := h.inv
    obtain ⟨fr, l, c, pm⟩ := put_reps rv k b
    by_cases e : kv.1 = k
    · refine ⟨fr, f1 ++ l, ?_, ?_⟩
      · have := (ORp.mkd (H := H) rv).cons c
        simpa [e] using this
      · rw [List.append_assoc]
        exact pm.append_left f1
    · refine ⟨f1 ++ fr, l, ?_, ?_⟩
      · have := a.cons c
        simpa [e] using this
      · refine (pm.append_left f1).trans ?_
        rw [← List.append_assoc, ← List.append_assoc]
        exact List.perm_append_comm.append_right fr
def isM (e : DEnv) (i : Nat) : Bool := match e[i]? with
  | some (some (.m _ _)) => true
  | _ => false
theorem isM_of {env : DEnv} {i : Nat} (h : isM env i = true) : ∃ ks ps, env[i]? = some (some (.m ks ps)) := by
  unfold isM at h
  split at h
  · exact ⟨_, _, by assumption⟩
  · cases h
theorem slot_refM {K : PySem.W.Frag} {F H : Hp} {σ : L2.St} {env : DEnv} {ks : List Key} {ps : List OD} {i : Nat} {hs : List V} {ho : List OD} (R : Rel K S F σ H env hs ho) (e : env[i]? = some (some (.m ks ps))) : ∃ p, σ[i]? = some (some (.ref p)) := by
  obtain ⟨v, fp, h1, h2⟩ := R.slot e
  obtain ⟨p, ws, f1, rfl, _⟩ := ORp.m_inv h2
  exact ⟨p, h1⟩
def keyAt (he : HE) (e : DEnv) : Option Key := match he.rd e with
  | some (.d d) => keyOf? d
  | _ => none
/-- d[k] = v, v data -/
def mSetD (i : Nat) (qv qi : Opd) : M Fl := fun e0 => if isM e0 i then M.bind (args [qv, qi]) (fun hes e => match hes with
  | [.o (.d x), hi] => match keyAt hi e, e[i]? with
    | some k, some (some (.m ks ps)) => if ks.length < 1000000 then some (.ok .nx, e.set i (some (.m (putO ks ps k (.d x)).1 (putO ks ps k (.d x)).2))) else none
    | _, _ => none
  | _ => none) e0 else none
theorem left_key {F H : Hp} {K : PySem.W.Frag} {σ : L2.St} {env : DEnv} {he : HE} {v : V} {k : Key} {hs : List V} {ho : List OD} (L : Left K S F σ H env hs ho v he) (hl : hs.length = ho.length) (h : keyAt he env = some k) : v = kV k ∧ Rel K S F σ H env hs ho := by
  unfold keyAt at h
  split at h
  · rename_i d e
    cases he with
    | o x =>
      cases e
      have L : Rel K S F σ H env (hs ++ [v]) (ho ++ [.d d]) := L
      obtain ⟨fp, r⟩ := L.heldReps hl
      exact ⟨key_rep (ORp.d_inv r).2 h, L.drop hl⟩
    | al j =>
      obtain ⟨L1, L⟩ := L
      simp only [HE.rd] at e
      cases q0 : env[j]? with
      | none => rw [q0] at e; cases e
      | some oo =>
        rw [q0] at e
        simp only [Option.join_some] at e
        subst e
        obtain ⟨v', fp, h1, h2⟩ := L.slot q0
        rw [h1] at L1
        cases L1
        exact ⟨key_rep (ORp.d_inv h2).2 h, L⟩
  · cases h
theorem ds_setD {i : Nat} {x : Str} {ix e : Expr} {qv qi : Opd} {p pos' : Pos} (O : Ok1 X) (h1 : DO X S W e qv) (h2 : DO X S W ix qi) (hN : X.N[i]? = some x := by rfl) (hv : Vis X.env.scope x := by first | exact Or.inl rfl | exact Or.inr (Or.inl rfl) | exact Or.inr (Or.inr rfl)) (hd : (x == ("__debug__" : Str)) = false := by decide)
    (hcd : (x == ("__classdict__" : Str)) = false := by decide) (hs : swapsWith e (some (.Subscript (.Name x p) ix pos')) pos.line X.env = pure false := by rfl) :
    DS X S W (.Assign [.Subscript (.Name x p) ix pos'] e pos) (mSetD i qv qi) := by
  intro F σ H env D R q
  refine WS.of (ps_dput (by have := O.un; omega) (pe_var hN hv hd hcd) (pe_we X ix) (pe_we X e) hs) ?_
  unfold mSetD at q
  split at q
  · rename_i hL
    obtain ⟨ks0, ps0, e0⟩ := isM_of hL
    obtain ⟨p0, s0⟩ := slot_refM R e0
    refine WE.imp (DA2 (Q := fun v y H' => ∃ a H4, V.ref p0 = .ref a ∧ DPut H' a y v H4 ∧ D.nx σ H4) h1 h2 R ((Mwp.bind q).imp (fun hes e' _ k F' H' v y hvs hos s mt R' => ?_) fun _ _ _ z => z.q)) fun v H1 z => ⟨_, s0, z⟩
    match hes, mt, k with
    | [.o (.d u), hi], mt, k =>
      simp only at k
      cases hk : keyAt hi e' with
      | none => rw [hk] at k; exact k.elim
      | some kk =>
        rw [hk] at k
        cases eo : e'[i]? with
        | none => rw [eo] at k; exact k.elim
        | some oo =>
          rw [eo] at k
          cases oo with
          | none => exact k.elim
          | some o =>
            cases o with
            | m ks ps =>
              simp only at k
              split at k
              · rename_i hsz
                have R1 : Rel X.K S F' σ H' e' [v] [.d u] ∧ y = kV kk := by
                  cases mt with
                  | o m2 =>
                    cases m2 with
                    | @o u2 _ _ _ hvs2 hos2 m3 =>
                      cases m3
                      have L : Left X.K S F' σ H' e' [v] [.d u] y (.o u2) := R'
                      exact ⟨(left_key L rfl hk).2, (left_key L rfl hk).1⟩
                    | @al i2 _ _ _ hvs2 hos2 hσ m3 =>
                      cases m3
                      have L : Left X.K S F' σ H' e' [v] [.d u] y (.al i2) := ⟨hσ, R'⟩
                      exact ⟨(left_key L rfl hk).2, (left_key L rfl hk).1⟩
                obtain ⟨R1, rfl⟩ := R1
                obtain ⟨fpv, rv⟩ := Rel.heldReps (hs := []) (ho := []) R1 rfl
                have rv := (ORp.d_inv rv).2
                obtain ⟨a, kvs, z1, z2, z3, z4, z5⟩ := Rel.mutD (hs := []) (ho := []) (us := [v]) (us' := [.d u]) R1 rfl eo
                rw [s0] at z1
                cases z1
                subst z3
                have hsz2 : kvs.length < sizeLine := Nat.lt_of_lt_of_le (by simpa using hsz) (by decide)
                refine ⟨p0, _, rfl, DPut.k (k := kk) z2 hsz2, k F' σ _ s ?_⟩
                by_cases hany : (kvs.any fun kv => decide (kv.1 = kk)) = true
                · have e1 : (putK kvs kk v).map (·.1) = kvs.map (·.1) := put_old hany
                  have e2 : putO (kvs.map (·.1)) ps kk (.d u) = (kvs.map (·.1), ((kvs.map (·.1)).zip ps).map fun p => if p.1 = kk then .d u else p.2) := by
                    unfold putO
                    rw [if_pos (by rw [List.any_map]; exact hany)]
                  have := z5 (putK kvs kk v) (((kvs.map (·.1)).zip ps).map fun p => if p.1 = kk then .d u else p.2) fun F2 H2 fp fq c d => ?_
                  · rw [e1] at this
                    rw [e2]
                    exact this
                  · have d' := (ORp.d_inv d).2
                    obtain ⟨fr, l, c1, pm⟩ := put_reps d' kk c
                    have e3 : putK kvs kk v = kvs.map fun kv => if kv.1 = kk then (kv.1, v) else kv := by
                      unfold putK
                      rw [if_pos hany]
                    rw [(ORp.d_inv d).1, e3]
                    exact ⟨fr, l, c1, by simpa using pm⟩
                · have e1 : putK kvs kk v = kvs ++ [(kk, v)] := put_new hany
                  have e2 : putO (kvs.map (·.1)) ps kk (.d u) = (kvs.map (·.1) ++ [kk], ps ++ [.d u]) := by
                    unfold putO
                    rw [if_neg (by rw [List.any_map]; exact hany)]
                  have := z5 (putK kvs kk v) (ps ++ [.d u]) fun F2 H2 fp fq c d => ?_
                  · rw [e2]
                    rw [e1] at this ⊢
                    simpa using this
                  · rw [e1]
                    refine ⟨fp ++ fq, [], ?_, by simp⟩
                    have := c.app d
                    simpa using this
              · exact k.elim
            | d _ => exact k.elim
            | l _ => exact k.elim
            | s _ => exact k.elim
    | [], _, k => exact k.elim
    | [.o (.l _), _], _, k => exact k.elim
    | [.o (.m _ _), _], _, k => exact k.elim
    | [.o (.s _), _], _, k => exact k.elim
    | [.al _, _], _, k => exact k.elim
    | [_], mt, k => exact absurd (mt_len mt) (by simp)
    | _ :: _ :: _ :: _, mt, k => exact absurd (mt_len mt) (by simp)
  · exact q.elim
end
end DL

set_option Elab.async false
set_option linter.all false
set_option autoImplicit false
set_option maxRecDepth 100000
/-! A slot's thing moved out (return x). -/
namespace DL
open PySem PySem.Spec PyProof.Rows L2
section
variable {K : PySem.W.Frag} {S : Sx} {F H : Hp} {hs : List V} {ho : List OD}
theorem ERep.take : ∀ {σ : L2.St} {env : DEnv} {fp : List Addr} {i : Nat} {o : OD}, ERep K F H σ env fp → env[i]? = some (some o) →
    ∃ v fpi rest, σ[i]? = some (some v) ∧ ORp K F H v o fpi ∧ ERep K F H σ (env.set i none) rest ∧ fp.Perm (fpi ++ rest)
  | [], [], _, i, o, h, e => by simp at e
  | _ :: _, [], _, _, _, h, _ => nomatch h
  | [], _ :: _, _, _, _, h, _ => nomatch h
  | x :: σ, u :: env, fp, 0, o, h, e => by
    simp at e
    subst e
    cases h with
    | so h1 h2 => exact ⟨_, _, _, rfl, h1, .un h2, List.Perm.refl _⟩
  | x :: σ, u :: env, fp, i + 1, o, h, e => by
    have e' : env[i]? = some (some o) := by simpa using e
    cases h with
    | un h2 =>
      obtain ⟨v, f1, rest, a, b, c, d⟩ := ERep.take h2 e'
      exact ⟨v, f1, rest, by simpa using a, b, .un c, d⟩
    | @so v0 o0 g1 _ _ g2 h1 h2 =>
      obtain ⟨v, f1, rest, a, b, c, d⟩ := ERep.take h2 e'
      refine ⟨v, f1, g1 ++ rest, by simpa using a, b, .so h1 c, ?_⟩
      refine (d.append_left g1).trans ?_
      rw [← List.append_assoc, ← List.append_assoc]
      exact List.perm_append_comm.append_right rest
theorem Rel.takeSlot {σ : L2.St} {env : DEnv} {i : Nat} {o : OD} (R : Rel K S F σ H env hs ho) (e : env[i]? = some (some o)) : ∃ v, σ[i]? = some (some v) ∧ Rel K S F σ H (env.set i none) (hs ++ [v]) (ho ++ [o]) := by
  obtain ⟨f1, f2, a, b, nd, io⟩ := R.rep
  obtain ⟨v, g1, rest, h1, h2, h3, pm⟩ := a.take e
  have pm2 : (f1 ++ f2).Perm (rest ++ (f2 ++ g1)) := by
    refine (pm.append_right f2).trans ?_
    rw [List.append_assoc]
    refine List.perm_append_comm.trans ?_
    rw [List.append_assoc]
  exact ⟨v, h1, R.sub, ⟨rest, f2 ++ g1, h3, b.app h2, pm2.nodup_iff.mp nd, fun x hx => io x (pm2.mem_iff.mpr hx)⟩, R.keep, R.new, R.f0, R.pin⟩
end
section
variable {X : Cx} {S : Sx} {W : WX}
def mMove (i : Nat) : M OD := fun e => match e[i]? with
  | some (some o) => some (.ok o, e.set i none)
  | _ => none
theorem de_move {i : Nat} {x : Str} {pos : Pos} (hN : X.N[i]? = some x := by rfl) (hv : Vis X.env.scope x := by first | exact Or.inl rfl | exact Or.inr (Or.inl rfl) | exact Or.inr (Or.inr rfl)) (hd : (x == ("__debug__" : Str)) = false := by decide)
    (hcd : (x == ("__classdict__" : Str)) = false := by decide) : DE X S W (.Name x pos) (mMove i) := by
  intro F σ H env hs ho Q R h
  unfold mMove at h
  split at h
  · rename_i o e
    obtain ⟨v, h1, R'⟩ := R.takeSlot e
    exact WE.of (pe_var hN hv hd hcd) ⟨v, h1, h F H v (Same.refl _) R'⟩
  · exact h.elim
theorem w_move {e : DEnv} {Qx : Xn → DEnv → Prop} {i : Nat} {Q : OD → DEnv → Prop} : Mwp (mMove i e) Q Qx ↔ ∃ o, e[i]? = some (some o) ∧ Q o (e.set i none) := by
  unfold mMove
  cases h : e[i]? with
  | none => simp [Mwp]
  | some oo => cases oo <;> simp [Mwp]
end
end DL

set_option Elab.async false
set_option linter.all false
set_option autoImplicit false
set_option maxRecDepth 100000
/-! One rule for sequences and dicts: subscripts, in. -/
namespace DL
open PySem PySem.Spec PyProof.Rows L2
section
variable {X : Cx} {S : Sx} {W : WX}
def isDct : OD → Bool
  | .d (.dict _) => true
  | .m _ _ => true
  | _ => false
theorem ix_any (O : Ok1 X) : IxR X (fun x y H Q => rIx X.K x y H Q ∨ rDGet x y H Q) := ix_seq.or (ix_dict O)
def gIxAny : List OD → Option OD
  | [a, b] => if isDct a then sh2 gDGet [a, b] else gIx [a, b]
  | _ => none
theorem os_ixAny : OSpec X S (rr2 fun x y H Q => rIx X.K x y H Q ∨ rDGet x y H Q) gIxAny := by
  intro F σ H env hs ho vs os o Q R rd e k
  unfold gIxAny at e
  split at e
  · obtain ⟨x, y, f, g, rfl, h1, h2⟩ := rdb2 rd
    split at e
    · exact .inr (os_dGet F σ H env hs ho [x, y] _ o Q R (.cons h1 (.cons h2 .nil)) e k)
    · exact .inl (os_ixAll F σ H env hs ho [x, y] _ o Q R (.cons h1 (.cons h2 .nil)) e k)
  · cases e
theorem op_inAny (O : Ok1 X) : OpR X (compareOp .In) (fun x y H Q => rInP X.K false x y H Q ∨ rDIn false x y H Q) := (op_inP O).or (op_dIn O)
theorem op_notInAny (O : Ok1 X) : OpR X (compareOp .NotIn) (fun x y H Q => rInP X.K true x y H Q ∨ rDIn true x y H Q) := (op_notInP O).or (op_dNotIn O)
def gInAny (neg : Bool) : List OD → Option OD
  | [a, b] => if isDct b then sh2 (gDIn neg) [a, b] else dp2 (gInB neg) [a, b]
  | _ => none
theorem os_inAny (neg : Bool) : OSpec X S (rr2 fun x y H Q => rInP X.K neg x y H Q ∨ rDIn neg x y H Q) (gInAny neg) := by
  intro F σ H env hs ho vs os o Q R rd e k
  unfold gInAny at e
  split at e
  · obtain ⟨x, y, f, g, rfl, h1, h2⟩ := rdb2 rd
    split at e
    · exact .inr (os_dIn neg F σ H env hs ho [x, y] _ o Q R (.cons h1 (.cons h2 .nil)) e k)
    · exact .inl (os_in neg F σ H env hs ho [x, y] _ o Q R (.cons h1 (.cons h2 .nil)) e k)
  · cases e
end
end DL

set_option Elab.async false
set_option linter.all false
set_option autoImplicit false
set_option maxRecDepth 100000
/-! len and items of dicts too; isinstance of dict; a while loop's law. -/
namespace DL
open PySem PySem.Spec PyProof.Rows L2
section
variable {X : Cx} {S : Sx} {W : WX} {K : PySem.W.Frag} {F H : Hp}
theorem call_lenR : CallR X (.builtin "len") (fun xs H Q => ∃ a kvs, xs = [V.ref a] ∧ Rd H a (.dK kvs) ∧ Q (.int kvs.length) H) := by
  intro pins s σ H xs us Q I r h
  obtain ⟨a, kvs, rfl, e, q⟩ := h
  rw [Vals.ref1 r]
  exact d_len I e fun t s' I' => ⟨.int kvs.length, H, I', ⟨t, rfl⟩, q⟩
def gLenAny : List OD → Option OD
  | [.d (.dict kds)] => some (.d (.int kds.length))
  | [.m ks ps] => some (.d (.int ks.length))
  | os => gLen os
theorem os_lenAny : OSpec X S (fun xs H Q => (∃ x n, xs = [x] ∧ LenV X.K x H n ∧ Q (.int n) H) ∨ (∃ a kvs, xs = [V.ref a] ∧ Rd H a (.dK kvs) ∧ Q (.int kvs.length) H)) gLenAny := by
  intro F σ H env hs ho vs os o Q R rd e k
  unfold gLenAny at e
  split at e
  · cases e
    obtain ⟨x, f, rfl, h1⟩ := rdb1 rd
    obtain ⟨a, kvs, xs, rfl, e1, e2, e3⟩ := (ORp.d_inv h1).2.dict_inv
    refine .inr ⟨a, kvs, rfl, DL.Same.rd R.sub e1, ?_⟩
    have hl : kvs.length = xs.length := by have := e3.len; simpa using this
    have : kvs.length = (((kvs.map (·.1)).map keyD).zip xs).length := by simp [hl]
    rw [e2] at k
    rw [this]
    exact fin_d R k (.int _ .nil)
  · cases e
    obtain ⟨x, f, rfl, h1⟩ := rdb1 rd
    obtain ⟨a, kvs, f1, rfl, _, e1, rfl, e2, _⟩ := ORp.m_inv h1
    refine .inr ⟨a, kvs, rfl, .inl e1, ?_⟩
    have : kvs.length = (kvs.map (·.1)).length := by simp
    rw [this]
    exact fin_d R k (.int _ .nil)
  · exact .inl (os_len F σ H env hs ho vs _ o Q R rd e k)
def is_dict (d : PyData) : Bool := match d with
  | .dict _ => true
  | _ => false
theorem ty_dict : isTy "dict" is_dict := fun d => by cases d <;> (first | (show kitB "dict" "dict" = some true; decide +kernel) | (show kitB "int" "dict" = some false; decide +kernel) | (show kitB "bool" "dict" = some false; decide +kernel) | (show kitB "str" "dict" = some false; decide +kernel) | (show kitB "list" "dict" = some false; decide +kernel) | (show kitB "tuple" "dict" = some false; decide +kernel) | (show kitB "NoneType" "dict" = some false; decide +kernel))
/-! ### while, by an invariant and a measure -/
theorem w_wh {c : M Bool} {mb : M Fl} {n : Nat} {e : DEnv} {Q : Fl → DEnv → Prop} {Qx : Xn → DEnv → Prop} : Mwp (mWhN c mb (n + 1) e) Q Qx ↔ Mwp (c e) (fun k e1 => if k = true then Mwp (mb e1) (fun fl e2 => match fl with
    | .nx => Mwp (mWhN c mb n e2) Q Qx
    | .ct => Mwp (mWhN c mb n e2) Q Qx
    | .bk => Q .nx e2
    | .rt o => Q (.rt o) e2) Qx else Q .nx e1) Qx := by
  show Mwp (M.bind c (fun k => if k then mFlow mb (mWhN c mb n) else mNx) e) Q Qx ↔ _
  rw [w_bind]
  refine mwp_congr fun k e1 => ?_
  cases k with
  | false => exact Iff.rfl
  | true =>
    show Mwp (mFlow mb (mWhN c mb n) e1) Q Qx ↔ _
    unfold mFlow
    rw [w_bind]
    refine mwp_congr fun fl e2 => ?_
    cases fl <;> exact Iff.rfl
theorem while_inv {c : M Bool} {mb : M Fl} {Q : Fl → DEnv → Prop} {Qx : Xn → DEnv → Prop} (I : Nat → DEnv → Prop) : ∀ (n m : Nat) {e : DEnv}, m < n → I m e →
    (∀ m e, I m e → Mwp (c e) (fun k e1 => if k = true then Mwp (mb e1) (fun fl e2 => match fl with
      | .nx => ∃ m', m' < m ∧ I m' e2
      | .ct => ∃ m', m' < m ∧ I m' e2
      | .bk => Q .nx e2
      | .rt o => Q (.rt o) e2) Qx else Q .nx e1) Qx) → Mwp (mWhN c mb n e) Q Qx
  | 0, m, e, h, _, _ => by omega
  | n + 1, m, e, h, hI, step => by
    rw [w_wh]
    refine (step m e hI).imp (fun k e1 _ q => ?_) fun _ _ _ q => q
    cases k with
    | false => exact q
    | true =>
      simp only [if_true] at q ⊢
      refine q.imp (fun fl e2 _ q2 => ?_) fun _ _ _ q2 => q2
      cases fl with
      | nx =>
        obtain ⟨m', h', hI'⟩ := q2
        exact while_inv I n m' (by omega) hI' step
      | ct =>
        obtain ⟨m', h', hI'⟩ := q2
        exact while_inv I n m' (by omega) hI' step
      | bk => exact q2
      | rt o => exact q2
end
end DL

set_option Elab.async false
set_option linter.all false
set_option autoImplicit false
set_option maxRecDepth 100000
/-! enumerate, zip. -/
namespace DL
open PySem PySem.Spec PyProof.Rows L2
section
variable {X : Cx} {S : Sx} {W : WX} {K : PySem.W.Frag} {F H : Hp} {a b : Expr} {qa qb : Opd}
/-- a new tuple of what stands, held -/
theorem Rel.newTup {σ : L2.St} {env : DEnv} {hs : List V} {ho : List OD} {p : Addr} {ws : List V} {xs : List PyData} (R : Rel K S F σ H env hs ho) (hp : H p = none) (r : Reps K F ws xs) :
    ∃ F3, Same F F3 ∧ Rel K S F3 σ (upd H p (.tup ws)) env (hs ++ [.ref p]) (ho ++ [.d (.tuple xs)]) := by
  obtain ⟨R', s⟩ := R.growF (u := .tup ws) hp
  exact ⟨_, s, R'.push (.tup (.inl (.inl upd_same)) (r.mono s) .nil)⟩
def enumD (xs : List PyData) : List PyData := xs.zipIdx.map fun p => .tuple [.int (p.2 : Nat), p.1]
theorem y_enum {a : Addr} {ws : List V} {xs : List PyData} (h : SqL K F a ws) (r : Reps K F ws xs) : Yields K S F (Ite K a) (enumD xs) := by
  intro i F2 σ H env hs ho s R
  have q : SqL K H a ws := DL.Same.sql (s.trans R.sub) h
  refine ⟨fun d hd => ?_, fun hz => ⟨ws, q, by rw [r.len]; simpa [enumD] using hz⟩⟩
  simp only [enumD, List.getElem?_map, List.getElem?_zipIdx, Option.map_map, Option.map_eq_some_iff] at hd
  obtain ⟨x, hx, rfl⟩ := hd
  obtain ⟨w, hw, rw'⟩ := r.getD hx
  refine ⟨⟨ws, w, q, hw⟩, fun v H' hy => ?_⟩
  obtain ⟨T, x', rfl, hT, rfl, hy⟩ := hy
  have := hy ws q
  rw [hw] at this
  cases this
  have := R.newTup (ws := [.int (i : Nat), w]) (xs := [.int (i : Nat), x]) hT (.int _ (rw'.mono s))
  simpa using this
def enumOf : List OD → Option (List PyData)
  | [.d (.list xs)] => some (enumD xs)
  | [.s ns] => some (enumD (ns.map .int))
  | _ => none
theorem di_enum {tgs : List Expr} {kk : Nat} {tpos p pos : Pos} (h : DAs X S W [a] [qa]) (hm : X.mg "enumerate" = none) (hg : Gl X "enumerate" := by rfl) (hs : starEach [a] X.env = [(false, eval a X.env)] := by rfl) :
    DIt X S W (.Tuple tgs kk tpos) (.Call (.Name "enumerate" p) [a] [] pos) (mRng enumOf [qa]) := by
  intro F σ H env hs' ho Rr R hq
  refine WI.of (pi_enum hg hm (pa_wa X [a]) hs) (h.run F σ H env hs' ho _ R ((Mwp.bind hq).imp (fun hes e' _ k F' H' vs hvs hos s mt R' => ?_) fun _ _ _ x => x))
  cases e : rds e' hes with
  | none => rw [e] at k; exact k.elim
  | some os =>
    rw [e] at k
    simp only at k
    cases e2 : enumOf os with
    | none => rw [e2] at k; exact k.elim
    | some ds =>
      rw [e2] at k
      have rb := mt.rdb R' R.hlen e
      unfold enumOf at e2
      split at e2
      · cases e2
        obtain ⟨x, f, rfl, h1⟩ := rdb1 rb
        obtain ⟨a, ws, rfl, z1, z2⟩ := (ORp.d_inv h1).2.list_inv
        exact ⟨a, ws, rfl, .inl (.inl (R'.sub _ _ z1)), k F' H' _ s (R'.drop R.hlen) (y_enum (.inl (.inl z1)) z2)⟩
      · cases e2
        obtain ⟨x, f, rfl, h1⟩ := rdb1 rb
        obtain ⟨a, rfl, z1⟩ := ORp.s_inv h1
        exact ⟨a, _, rfl, DL.Same.sql R'.sub z1, k F' H' _ s (R'.drop R.hlen) (y_enum z1 (reps_ints _))⟩
      · cases e2
def zipD (xs ys : List PyData) : List PyData := (xs.zip ys).map fun p => .tuple [p.1, p.2]
theorem y_zip {a b : Addr} {ws us : List V} {xs ys : List PyData} (h : SqL K F a ws) (h' : SqL K F b us) (r : Reps K F ws xs) (r' : Reps K F us ys) : Yields K S F (Itz K a b) (zipD xs ys) := by
  intro i F2 σ H env hs ho s R
  have q : SqL K H a ws := DL.Same.sql (s.trans R.sub) h
  have q' : SqL K H b us := DL.Same.sql (s.trans R.sub) h'
  refine ⟨fun d hd => ?_, fun hz => ⟨ws, us, q, q', ?_⟩⟩
  · simp only [zipD, List.getElem?_map, Option.map_eq_some_iff] at hd
    obtain ⟨⟨x, y⟩, hx, rfl⟩ := hd
    obtain ⟨hx, hy⟩ := List.getElem?_zip_eq_some.mp hx
    obtain ⟨w, hw, rw'⟩ := r.getD hx
    obtain ⟨u, hu, ru⟩ := r'.getD hy
    refine ⟨⟨ws, us, w, u, q, q', hw, hu⟩, fun v H' hyl => ?_⟩
    obtain ⟨T, x', y', rfl, hT, rfl, k1, k2⟩ := hyl
    have e1 := k1 ws q
    have e2 := k2 us q'
    rw [hw] at e1
    rw [hu] at e2
    cases e1
    cases e2
    exact R.newTup (ws := [w, u]) (xs := [x, y]) hT ((rw'.mono s).cons (ru.mono s))
  · rw [r.len, r'.len]
    simp only [zipD, List.length_map, List.length_zip] at hz
    omega
def zipOf : List OD → Option (List PyData)
  | [.d (.list xs), .d (.list ys)] => some (zipD xs ys)
  | _ => none
theorem di_zip {tgs : List Expr} {kk : Nat} {tpos p pos : Pos} (h : DAs X S W [a, b] [qa, qb]) (hm : X.mg "zip" = none) (hg : Gl X "zip" := by rfl)
    (hs : starEach [a, b] X.env = (false, eval a X.env) :: starEach [b] X.env := by rfl) (hpl : (backTo pos (starEach [b] X.env)).any (·.1) = false := by rfl) :
    DIt X S W (.Tuple tgs kk tpos) (.Call (.Name "zip" p) [a, b] [] pos) (mRng zipOf [qa, qb]) := by
  intro F σ H env hs' ho Rr R hq
  refine WI.of (pi_zip hg hm (pa_wa X [a, b]) hs hpl) (h.run F σ H env hs' ho _ R ((Mwp.bind hq).imp (fun hes e' _ k F' H' vs hvs hos s mt R' => ?_) fun _ _ _ x => x))
  cases e : rds e' hes with
  | none => rw [e] at k; exact k.elim
  | some os =>
    rw [e] at k
    simp only at k
    cases e2 : zipOf os with
    | none => rw [e2] at k; exact k.elim
    | some ds =>
      rw [e2] at k
      have rb := mt.rdb R' R.hlen e
      unfold zipOf at e2
      split at e2
      · cases e2
        obtain ⟨x, y, f, g, rfl, h1, h2⟩ := rdb2 rb
        obtain ⟨a, ws, rfl, z1, z2⟩ := (ORp.d_inv h1).2.list_inv
        obtain ⟨b, us, rfl, z3, z4⟩ := (ORp.d_inv h2).2.list_inv
        exact ⟨a, b, ws, us, rfl, .inl (.inl (R'.sub _ _ z1)), .inl (.inl (R'.sub _ _ z3)), k F' H' _ s (R'.drop R.hlen) (y_zip (.inl (.inl z1)) (.inl (.inl z3)) z2 z4)⟩
      · cases e2
end
end DL

set_option Elab.async false
set_option linter.all false
set_option autoImplicit false
set_option maxRecDepth 100000
/-! Displays with stars: all data. -/
namespace DL
open PySem PySem.Spec PyProof.Rows L2
inductive El where
  | one (q : Opd)
  | star (q : Opd)
def starD : OD → Option (List PyData)
  | .d (.list ys) => some ys
  | .d (.tuple ys) => some ys
  | _ => none
def mEls : List El → M (List PyData)
  | [] => M.ret []
  | .one q :: els => M.bind q.go fun he e => match he.rd e with
    | some (.d x) => M.bind (mEls els) (fun xs => M.ret (x :: xs)) e
    | _ => none
  | .star q :: els => M.bind q.go fun he e => match (he.rd e).bind starD with
    | some ys => M.bind (mEls els) (fun xs => M.ret (ys ++ xs)) e
    | _ => none
section
variable {X : Cx} {S : Sx} {W : WX} {K : PySem.W.Frag} {F H : Hp} {a b : Expr} {qa qb : Opd} {pos p2 : Pos}
def DEl (X : Cx) (S : Sx) (W : WX) (es : List Expr) (els : List El) : Prop :=
  ∀ (F : Hp) (σ : L2.St) (H : Hp) (env : DEnv) (hs : List V) (ho : List OD) (Q : List V → Hp → Prop), Rel X.K S F σ H env hs ho →
    Mwp (mEls els env) (fun ds env' => ∀ F' H' vs, Same F F' → Rel X.K S F' σ H' env' hs ho → Reps X.K F' vs ds → Q vs H') (QX X S W F σ hs ho) → WA X es σ H Q
theorem el_nil : DEl X S W [] [] := fun F σ H env hs ho Q R h => WA.of pa_nil (h F H [] (Same.refl _) R .nil)
theorem left_d {σ : L2.St} {env : DEnv} {he : HE} {v : V} {o : OD} {hs : List V} {ho : List OD} (L : Left K S F σ H env hs ho v he) (hl : hs.length = ho.length) (h : he.rd env = some o) : (∃ fp, ORp K F H v o fp) ∧ Rel K S F σ H env hs ho := by
  cases he with
  | o x =>
    cases h
    have L : Rel K S F σ H env (hs ++ [v]) (ho ++ [o]) := L
    exact ⟨L.heldReps hl, L.drop hl⟩
  | al j =>
    obtain ⟨L1, L⟩ := L
    simp only [HE.rd] at h
    cases q0 : env[j]? with
    | none => rw [q0] at h; cases h
    | some oo =>
      rw [q0] at h
      simp only [Option.join_some] at h
      subst h
      obtain ⟨v', fp, h1, h2⟩ := L.slot q0
      rw [h1] at L1
      cases L1
      exact ⟨⟨fp, h2⟩, L⟩
theorem el_one {es : List Expr} {els : List El} (h1 : DO X S W a qa) (h2 : DEl X S W es els) (hst : starEach (a :: es) X.env = (false, eval a X.env) :: starEach es X.env := by rfl) : DEl X S W (a :: es) (.one qa :: els) := by
  intro F σ H env hs ho Q R h
  refine WA.of (pa_cons (pe_we X a) (pa_wa X es) hst) (h1 F σ H env hs ho _ R ((Mwp.bind h).imp (fun he e1 _ k F1 H1 v s1 L => ?_) fun _ _ _ x => x))
  split at k
  · rename_i x ex
    obtain ⟨⟨fp, r⟩, R1⟩ := left_d L R.hlen ex
    have r := (ORp.d_inv r).2
    refine h2 F1 σ H1 e1 hs ho _ R1 ((Mwp.bind k).imp (fun ds e2 _ k2 F2 H2 vs s2 R2 rs => ?_) fun x e _ q => by simpa using QX.mono (ws := []) (os := []) q s1 R.hlen)
    exact k2 F2 H2 (v :: vs) (s1.trans s2) R2 ((r.mono s2).cons rs)
  · exact k.elim
theorem el_star {es : List Expr} {els : List El} (h1 : DO X S W a qa) (h2 : DEl X S W es els) (hst : starEach (.Starred a p2 :: es) X.env = (true, eval a X.env) :: starEach es X.env := by rfl) : DEl X S W (.Starred a p2 :: es) (.star qa :: els) := by
  intro F σ H env hs ho Q R h
  refine WA.of (StX.pa_star (pe_we X a) (pa_wa X es) hst) (h1 F σ H env hs ho _ R ((Mwp.bind h).imp (fun he e1 _ k F1 H1 v s1 L => ?_) fun _ _ _ x => x))
  cases e0 : he.rd e1 with
  | none => rw [e0] at k; exact k.elim
  | some o =>
    rw [e0] at k
    simp only [Option.bind_some] at k
    cases e3 : starD o with
    | none => rw [e3] at k; exact k.elim
    | some ys =>
      rw [e3] at k
      obtain ⟨⟨fp, r⟩, R1⟩ := left_d L R.hlen e0
      have go : ∀ p ws, v = .ref p → (SqT X.K H1 p ws ∨ SqL X.K H1 p ws) → Reps X.K F1 ws ys → ∃ a xs, v = .ref a ∧ (SqT X.K H1 a xs ∨ SqL X.K H1 a xs) ∧ WA X es σ H1 fun zs H2 => Q (xs ++ zs) H2 := fun p ws ev hq rp => by
        refine ⟨p, ws, ev, hq, h2 F1 σ H1 e1 hs ho _ R1 ((Mwp.bind k).imp (fun ds e2 _ k2 F2 H2 vs s2 R2 rs => ?_) fun x e _ q => by simpa using QX.mono (ws := []) (os := []) q s1 R.hlen)⟩
        exact k2 F2 H2 (ws ++ vs) (s1.trans s2) R2 ((rp.mono s2).append rs)
      unfold starD at e3
      split at e3
      · cases e3
        obtain ⟨p, ws, ev, z1, z2⟩ := (ORp.d_inv r).2.list_inv
        exact go p ws ev (.inr (.inl (.inl (R1.sub _ _ z1)))) z2
      · cases e3
        obtain ⟨p, ws, ev, z1, z2⟩ := (ORp.d_inv r).2.tuple_inv
        exact go p ws ev (.inl (DL.Same.sqt R1.sub z1)) z2
      · cases e3
def mStarL (els : List El) : M OD := M.bind (mEls els) fun ds e => if ds.length ≤ sizeLine then some (.ok (.l (ds.map .d)), e) else none
theorem de_starL {es : List Expr} {els : List El} (h : DEl X S W es els) : DE X S W (.List es pos) (mStarL els) := by
  intro F σ H env hs ho Q R q
  refine WE.of (pe_lst (pa_wa X es)) (h F σ H env hs ho _ R ((Mwp.bind q).imp (fun ds e' _ k F' H' vs s R' rs => ?_) fun _ _ _ x => x))
  split at k
  · rename_i hz
    refine ⟨by rw [rs.len]; exact hz, fun p hp => ?_⟩
    exact fin_l R' (fun F2 H2 v s2 R2 => k F2 H2 v (s.trans s2) R2) rs hp
  · exact k.elim
def mStarT (els : List El) : M OD := M.bind (mEls els) fun ds e => if ds.length ≤ sizeLine then some (.ok (.d (.tuple ds)), e) else none
theorem de_starT {es : List Expr} {els : List El} {kk : Nat} (h : DEl X S W es els) : DE X S W (.Tuple es kk pos) (mStarT els) := by
  intro F σ H env hs ho Q R q
  refine WE.of (pe_tup (pa_wa X es)) (h F σ H env hs ho _ R ((Mwp.bind q).imp (fun ds e' _ k F' H' vs s R' rs => ?_) fun _ _ _ x => x))
  split at k
  · rename_i hz
    refine ⟨by rw [rs.len]; exact hz, fun p hp => ?_⟩
    exact fin_t R' (fun F2 H2 v s2 R2 => k F2 H2 v (s.trans s2) R2) rs hp
  · exact k.elim
end
end DL

set_option Elab.async false
set_option linter.all false
set_option autoImplicit false
set_option maxRecDepth 100000
/-! three plain local names stored at once, from the right -/
namespace DL
open PySem PySem.Spec PyProof.Rows L2
section
variable {X : Cx} {S : Sx} {W : WX} {a b c : Expr} {pos : Pos}
theorem ds_par3 {i j l : Nat} {x y z : Str} {qs : List Opd} {px py pz pt : Pos} {kt k2 pt2} (hc : X.calm = true) (ha : DAs X S W [a, b, c] qs) (hN : X.N.Nodup) (hp : ∀ p ∈ S.pin, p.1 ∉ [i, j, l]) (hij : i ≠ j) (hil : i ≠ l) (hjl : j ≠ l)
    (hi : X.N[i]? = some x := by rfl) (hj : X.N[j]? = some y := by rfl) (hl : X.N[l]? = some z := by rfl)
    (hx : X.env.scope.names.lookup x = some .local := by rfl) (hy : X.env.scope.names.lookup y = some .local := by rfl) (hz : X.env.scope.names.lookup z = some .local := by rfl)
    (hw : swappedStores [.Tuple [.Name x px, .Name y py, .Name z pz] kt pt] (.Tuple [a, b, c] k2 pt2) X.env = pure (some [x, y, z]) := by rfl)
    (hs : swapsWithSole [.Tuple [.Name x px, .Name y py, .Name z pz] kt pt] (.Tuple [a, b, c] k2 pt2) pos.line X.env = pure false := by rfl) :
    DS X S W (.Assign [.Tuple [.Name x px, .Name y py, .Name z pz] kt pt] (.Tuple [a, b, c] k2 pt2) pos) (mStores [i, j, l] qs) := by
  intro F σ H env D R q
  refine WS.of (ps_par3 hc hN hi hj hl hij hil hjl hx hy hz (pa_wa X _) hw hs) (ha.run F σ H env [] [] _ R ((Mwp.bind q).imp (fun hes e' _ k F' H' vs hvs hos s mt R' => ?_) fun _ _ _ z => z.q))
  cases e : allO hes with
  | none => rw [e] at k; exact k.elim
  | some os =>
    rw [e] at k
    simp only at k
    obtain ⟨rfl, rfl⟩ := mt_allO mt e
    have hlen := mt.hlen
    cases e2 : putAll [i, j, l] hos e' with
    | none => rw [e2] at k; exact k.elim
    | some e3 =>
      rw [e2] at k
      have R1 := Rel.storeAll (hs := []) (ho := []) R' rfl hlen e2 hp
      match hos, e2, hlen with
      | [o1, o2, o3], e2, hlen =>
        match vs, hlen with
        | [u, v, w], _ => exact ⟨u, v, w, rfl, k F' _ H' s R1⟩
      | [], e2, _ => cases e2
      | [_], e2, _ =>
        simp only [putAll] at e2
        split at e2 <;> cases e2
      | [_, _], e2, _ =>
        simp only [putAll] at e2
        split at e2
        · split at e2 <;> cases e2
        · cases e2
      | _ :: _ :: _ :: _ :: _, e2, _ =>
        simp only [putAll] at e2
        split at e2
        · split at e2
          · split at e2 <;> cases e2
          · cases e2
        · cases e2
end
end DL

set_option Elab.async false
set_option linter.all false
set_option autoImplicit false
set_option maxRecDepth 100000
/-! a list turned round by a slice -/
namespace DL
open PySem PySem.Spec PyProof.Rows L2
section
variable {X : Cx} {S : Sx} {W : WX} {a : Expr} {qa : Opd} {pos : Pos}
def gRev : List OD → Option OD
  | [x] => if x.shallow then match x.erase with
    | .list xs => some (.l (xs.reverse.map .d))
    | _ => none
    else none
  | _ => none
theorem de_revL {p1 p2 p3 : Pos} {kk : Nat} (h1 : DO X S W a qa) : DE X S W (.Subscript a (.Slice none none (some (.UnaryOp .USub (.Constant (.int 1) kk p1) p2)) p3) pos) (prim gRev [qa]) := by
  intro F σ H env hs hos Q R h
  refine WE.of (pe_revL (pe_we X a)) (DA1 h1 R ((Mwp.bind h).imp (fun hes env' _ k F' H' x hvs hos' s mt R' => ?_) fun _ _ _ x => x))
  refine prim_fin (r := rr1 fun x H Q => ∃ p xs, x = .ref p ∧ SqL X.K H p xs ∧ ∀ q, H q = none → Q (.ref q) (upd H q (.lst xs.reverse))) (fun F σ H env hs ho vs os o Q R rd e k => ?_) R.hlen s mt R' k
  unfold gRev at e
  split at e
  · obtain ⟨x, f, rfl, h1⟩ := rdb1 rd
    split at e
    · have h2 := h1.sh (by assumption)
      split at e
      · rename_i xs ex
        rw [ex] at h2
        cases e
        obtain ⟨p, ws, rfl, e1, e2⟩ := h2.list R.sub
        exact ⟨p, ws, rfl, .inl (.inl e1), fun q hq => fin_l R k e2.reverse hq⟩
      · cases e
    · cases e
  · cases e
end
end DL

set_option Elab.async false
set_option linter.all false
set_option autoImplicit false
set_option maxRecDepth 100000
/-! For plain proofs: numbers, comprehensions, sizes of what repr shows. -/
namespace DL
open PySem PySem.Spec PyProof.Rows L2

theorem fw_ok {a : OD} {l : List OD} {Q : OD → List OD → Prop} {Qx : Xn → List OD → Prop} : FWp (some (.ok a, l)) Q Qx ↔ Q a l := Iff.rfl
theorem eqv_ii (i j : Int) : PyData.eqv (.int i) (.int j) = decide (i = j) := by
  by_cases h : i = j <;> simp [PyData.eqv, h]
theorem eqv_ss (i j : Str) : PyData.eqv (.str i) (.str j) = decide (i = j) := by
  by_cases h : i = j <;> simp [PyData.eqv, h]
theorem gEq_ii (i j : Int) : gEq (.int i) (.int j) = some (.d (.bool (decide (i = j)))) := by
  rw [← eqv_ii]; rfl
theorem gNe_ii (i j : Int) : gNe (.int i) (.int j) = some (.d (.bool (!decide (i = j)))) := by
  rw [← eqv_ii]; rfl
theorem gEq_ss (i j : Str) : gEq (.str i) (.str j) = some (.d (.bool (decide (i = j)))) := by
  rw [← eqv_ss]; rfl
theorem gNe_ss (i j : Str) : gNe (.str i) (.str j) = some (.d (.bool (!decide (i = j)))) := by
  rw [← eqv_ss]; rfl
theorem eq_nil (xs : List PyData) : PyData.eqv (.list xs) (.list []) = xs.isEmpty := by
  cases xs <;> simp [PyData.eqv, PyData.eqvAll]
theorem fit_nil (xs : List PyData) : eqFit (.list xs) (.list []) = true := by
  cases xs <;> simp [eqFit, fewDeep, lenOff, PyData.plain, PyData.plainAll, PyData.depth, PyData.depthAll]
theorem gEq_nil (xs : List PyData) : gEq (.list xs) (.list []) = some (.d (.bool xs.isEmpty)) := by
  unfold gEq
  rw [fit_nil, eq_nil]; rfl
theorem gNe_nil (xs : List PyData) : gNe (.list xs) (.list []) = some (.d (.bool (!xs.isEmpty))) := by
  unfold gNe
  rw [fit_nil, eq_nil]; rfl
theorem er_d (xs : List PyData) : (xs.map OD.d).map OD.erase = xs := erase_ds xs
theorem isd_d (xs : List PyData) : (xs.map OD.d).all OD.isD = true := all_isD xs
theorem sz_ok : (sizeLine : Nat) = 16777216 := rfl
theorem w_str {g : List OD → Option OD} {qa : Opd} {qs : List Opd} {e : DEnv} {Q : OD → DEnv → Prop} {Qx : Xn → DEnv → Prop} : Mwp (mStr g qa qs e) Q Qx ↔ Mwp (qa.go e) (fun ha e1 => ∃ z, ha.rd e1 = some (.d (.str z)) ∧ Mwp (args qs e1) (fun hes e2 => ∃ os, rds e2 (ha :: hes) = some os ∧ ∃ o, g os = some o ∧ Q o e2) Qx) Qx := by
  unfold mStr
  rw [w_bind]
  refine mwp_congr fun ha e1 => ?_
  cases h : ha.rd e1 with
  | none => simp [Mwp]
  | some u =>
    cases u with
    | d d =>
      cases d with
      | str z =>
        simp only [Option.some.injEq, OD.d.injEq, PyData.str.injEq, exists_eq_left']
        rw [w_bind]
        refine mwp_congr fun hes e2 => ?_
        cases rds e2 (ha :: hes) with
        | none => simp [Mwp]
        | some os => cases h2 : g os <;> simp [Mwp, h2]
      | _ => simp [Mwp]
    | _ => simp [Mwp]
/-! ### numbers -/
theorem rng_at {lo hi : Int} {j : Nat} {d : PyData} (h : (rngOf lo hi)[j]? = some d) : (j : Int) < hi - lo ∧ d = .int (lo + j) := by
  obtain ⟨a, b⟩ := rng_int h
  exact ⟨by omega, b⟩
theorem rng_len {lo hi : Int} : (rngOf lo hi).length = (hi - lo).toNat := by simp [rngOf]
theorem gMulI_ok {x y : Int} (h : x.natAbs < 2 ^ 64 ∨ y.natAbs < 2 ^ 64) : gMulI (.int x) (.int y) = some (.d (.int (x * y))) := by simp only [gMulI, if_pos h]
theorem gMod_pos {x n : Int} (h : 0 < n) : gMod (.int x) (.int n) = some (.d (.int (x % n))) := by simp [gMod, h]
theorem gFdiv_pos {x n : Int} (h : 0 < n) (h2 : n.natAbs < 2 ^ 250) : gFdiv (.int x) (.int n) = some (.d (.int (x / n))) := by
  unfold gFdiv
  have : n.natAbs.log2 < 9000 := by
    by_cases h0 : n.natAbs = 0
    · rw [h0]; decide
    · have := (Nat.log2_lt h0).mpr h2
      exact Nat.lt_trans this (by decide)
  simp [h, this]
theorem lt_big {n : Nat} (h : n < 2 ^ 250) : n < 2 ^ 1000 := Nat.lt_of_lt_of_le h (Nat.pow_le_pow_right (by decide) (by decide))
theorem gPow_n {x : Int} (k : Nat) (hk : k ≤ 100) (h : x.natAbs < 2 ^ 1000) : gPow (.int x) (.int k) = some (.d (.int (x ^ k))) := by
  show (if 0 ≤ (k : Int) ∧ (k : Int) ≤ 100 ∧ x.natAbs < 2 ^ 1000 then some (OD.d (.int (x ^ (k : Int).toNat))) else none) = _
  rw [if_pos ⟨by omega, by omega, h⟩]
  rfl
theorem gPow_2 {x : Int} (h : x.natAbs < 2 ^ 1000) : gPow (.int x) (.int 2) = some (.d (.int (x ^ 2))) := gPow_n 2 (by decide) h
theorem gPow_3 {x : Int} (h : x.natAbs < 2 ^ 1000) : gPow (.int x) (.int 3) = some (.d (.int (x ^ 3))) := gPow_n 3 (by decide) h
theorem gMul_l {x y : Int} (h : x.natAbs < 2 ^ 64) : gMul (.int x) (.int y) = some (.d (.int (x * y))) := by
  unfold gMul mulOk
  simp [h]
theorem gMul_r {x y : Int} (h : y.natAbs < 2 ^ 64) : gMul (.int x) (.int y) = some (.d (.int (x * y))) := by
  unfold gMul mulOk
  simp [h]
theorem small_ok {x : Int} (h : x.natAbs < 2 ^ 60) : smallB x = true := by simp [smallB]; omega
/-- an index in range -/
theorem at_ok {α : Type} {xs : List α} {i : Nat} (h : i < xs.length) : atI xs (i : Int) = some xs[i] := by
  have : ixN xs.length (i : Int) = some i := by
    unfold ixN
    rw [if_pos (by omega), if_pos (by omega)]
    simp
  simp [atI, this, h]
theorem at_mem {α : Type} {xs : List α} {i : Nat} (h : i < xs.length) : ∃ x ∈ xs, atI xs (i : Int) = some x := ⟨_, List.getElem_mem h, at_ok h⟩

/-! ### comprehensions that keep the rest -/
theorem lc_if0 {a : OD → DEnv → Option DEnv} {mt : M Bool} {me : M OD} {i : Nat} {Qf : List OD → DEnv → Prop} {Qx : Xn → DEnv → Prop} (E : Option OD → DEnv) (p : PyData → Bool) (g : PyData → PyData) (hE : ∀ x, wipeE (E x) [i] = E none) : ∀ {ds : List PyData} {acc : List OD} (x0 : Option OD),
    (∀ d ∈ ds, ∃ e1, a (.d d) (E none) = some e1 ∧ Mwp (mt e1) (fun k e2 => k = p d ∧ if k = true then Mwp (me e2) (fun o e3 => o = .d (g d) ∧ ∃ x, e3 = E x) (fun _ _ => False) else ∃ x, e2 = E x) (fun _ _ => False)) →
    (∀ x, Qf (acc ++ ((ds.filter p).map g).map .d) (E x)) → Mwp (mMap [i] a mt me ds acc (E x0)) Qf Qx
  | [], acc, x0, _, q => by
    rw [w_map0]
    simpa using q x0
  | d :: ds, acc, x0, hs, q => by
    rw [w_map1, hE]
    obtain ⟨e1, h1, h2⟩ := hs d (by simp)
    refine ⟨e1, h1, h2.imp (fun k e2 _ z => ?_) fun _ _ _ z => z⟩
    obtain ⟨rfl, z⟩ := z
    cases hp : p d with
    | true =>
      rw [hp] at z
      simp only [if_true] at z ⊢
      refine z.imp (fun o e3 _ z2 => ?_) fun _ _ _ z2 => z2
      obtain ⟨rfl, x, rfl⟩ := z2
      exact lc_if0 E p g hE x (fun d' hd' => hs d' (by simp [hd'])) fun x' => by
        have := q x'
        rw [List.filter_cons, hp] at this
        simpa using this
    | false =>
      rw [hp] at z
      simp only [Bool.false_eq_true, if_false] at z ⊢
      obtain ⟨x, rfl⟩ := z
      exact lc_if0 E p g hE x (fun d' hd' => hs d' (by simp [hd'])) fun x' => by
        have := q x'
        rw [List.filter_cons, hp] at this
        simpa using this
theorem lc_if {a : OD → DEnv → Option DEnv} {mt : M Bool} {me : M OD} {i : Nat} {Qf : List OD → DEnv → Prop} {Qx : Xn → DEnv → Prop} (E : Option OD → DEnv) (p : PyData → Bool) (g : PyData → PyData) (hE : ∀ x, wipeE (E x) [i] = E none) {ds : List PyData} (x0 : Option OD)
    (hs : ∀ d ∈ ds, ∃ e1, a (.d d) (E none) = some e1 ∧ Mwp (mt e1) (fun k e2 => k = p d ∧ if k = true then Mwp (me e2) (fun o e3 => o = .d (g d) ∧ ∃ x, e3 = E x) (fun _ _ => False) else ∃ x, e2 = E x) (fun _ _ => False))
    (q : ∀ x, Qf (((ds.filter p).map g).map .d) (E x)) : Mwp (mMap [i] a mt me ds [] (E x0)) Qf Qx := lc_if0 E p g hE x0 hs (by simpa using q)
theorem lc_fn {a : OD → DEnv → Option DEnv} {me : M OD} {i : Nat} {Qf : List OD → DEnv → Prop} {Qx : Xn → DEnv → Prop} (E : Option OD → DEnv) (g : PyData → PyData) (hE : ∀ x, wipeE (E x) [i] = E none) {ds : List PyData} (x0 : Option OD)
    (hs : ∀ d ∈ ds, ∃ e1, a (.d d) (E none) = some e1 ∧ Mwp (me e1) (fun o e3 => o = .d (g d) ∧ ∃ x, e3 = E x) (fun _ _ => False))
    (q : ∀ x, Qf ((ds.map g).map .d) (E x)) : Mwp (mMap [i] a mYes me ds [] (E x0)) Qf Qx :=
  lc_if E (fun _ => true) g hE x0 (fun d hd => let ⟨e1, h1, h2⟩ := hs d hd; ⟨e1, h1, show Mwp (some (.ok true, e1)) _ _ from ⟨rfl, by simpa using h2⟩⟩) fun x => by
    have := q x
    rwa [show ds.filter (fun _ => true) = ds by simp]
theorem bools_map {α : Type} (f : α → Bool) : ∀ l : List α, bools (l.map fun a => .bool (f a)) = some (l.map f)
  | [] => rfl
  | a :: l => by simp [bools, bools_map f l]
theorem gBs_map {α : Type} (h : List Bool → Bool) (f : α → Bool) (l : List α) : gBs h (.list (l.map fun a => .bool (f a))) = some (.d (.bool (h (l.map f)))) := by
  simp [gBs, bools_map]
theorem chars_mem {x : Str} {d : PyData} (h : d ∈ chars x) : ∃ c ∈ x.cps.toList, d = .str ⟨#[c]⟩ := by
  obtain ⟨c, h1, h2⟩ := List.mem_map.mp h
  exact ⟨c, h1, h2.symm⟩
theorem chars_len (x : Str) : (chars x).length = x.length := by simp [chars, Str.length]

/-! ### what repr shows -/
def fits (D W : Nat) (d : PyData) : Prop := d.leavesShort 40 = true ∧ d.showable = true ∧ d.depth ≤ D ∧ d.weight ≤ W
theorem fits.repr {D W : Nat} {d : PyData} (h : fits D W d) (hD : D ≤ 60) (hW : W ≤ 300000) : gRepr d = some (.d (.str d.shown)) := by
  obtain ⟨h1, h2, h3, h4⟩ := h
  have h5 := PyData.shown_le 40 (by decide) d h1
  unfold gRepr
  rw [if_pos]
  have h6 : d.shown.length ≤ sizeLine := Nat.le_trans h5 (Nat.le_trans (Nat.add_le_add_right (Nat.mul_le_mul_left 42 (Nat.le_trans h4 hW)) 40) (by decide))
  simp only [h2, Bool.true_and, Bool.and_eq_true, decide_eq_true_eq]
  exact ⟨by omega, h6⟩
theorem fits.mono {D W D' W' : Nat} {d : PyData} (h : fits D W d) (hD : D ≤ D') (hW : W ≤ W') : fits D' W' d := ⟨h.1, h.2.1, Nat.le_trans h.2.2.1 hD, Nat.le_trans h.2.2.2 hW⟩
theorem fits_all {D W : Nat} : ∀ {xs : List PyData}, (∀ x ∈ xs, fits D W x) → PyData.leavesShortAll 40 xs = true ∧ PyData.showableAll xs = true ∧ PyData.depthAll xs ≤ D ∧ PyData.weightAll xs ≤ (W + 1) * xs.length
  | [], _ => ⟨rfl, rfl, Nat.zero_le _, Nat.le_refl _⟩
  | x :: xs, h => by
    obtain ⟨h1, h2, h3, h4⟩ := h x (by simp)
    obtain ⟨a1, a2, a3, a4⟩ := fits_all (xs := xs) fun y hy => h y (by simp [hy])
    have e : (W + 1) * (x :: xs).length = (W + 1) * xs.length + (W + 1) := by rw [List.length_cons, Nat.mul_add, Nat.mul_one]
    refine ⟨by simp only [PyData.leavesShortAll, h1, a1, Bool.and_self], by simp only [PyData.showableAll, h2, a2, Bool.and_self], ?_, ?_⟩
    · simp only [PyData.depthAll]
      omega
    · simp only [PyData.weightAll]
      omega
theorem fits_tup {D W n : Nat} {xs : List PyData} (h : ∀ x ∈ xs, fits D W x) (hn : xs.length ≤ n) : fits (D + 1) ((W + 1) * n) (.tuple xs) := by
  obtain ⟨a1, a2, a3, a4⟩ := fits_all h
  exact ⟨by simpa only [PyData.leavesShort] using a1, by simpa only [PyData.showable] using a2, by simp only [PyData.depth]; omega, by simp only [PyData.weight]; exact Nat.le_trans a4 (Nat.mul_le_mul_left _ hn)⟩
theorem fits_list {D W n : Nat} {xs : List PyData} (h : ∀ x ∈ xs, fits D W x) (hn : xs.length ≤ n) : fits (D + 1) ((W + 1) * n) (.list xs) := by
  obtain ⟨a1, a2, a3, a4⟩ := fits_all h
  exact ⟨by simpa only [PyData.leavesShort] using a1, by simpa only [PyData.showable] using a2, by simp only [PyData.depth]; omega, by simp only [PyData.weight]; exact Nat.le_trans a4 (Nat.mul_le_mul_left _ hn)⟩
theorem fits_str {W : Nat} {x : Str} (h : ∀ c ∈ x.cps.toList, c < 16 ^ 8) (hl : x.length ≤ W) : fits 0 W (.str x) :=
  ⟨by simpa only [PyData.leavesShort, List.all_eq_true, decide_eq_true_eq] using h, rfl, Nat.le_refl _, hl⟩

/-! ### texts, lists of texts -/
theorem app_cps (x y : Str) : (x ++ y).cps.toList = x.cps.toList ++ y.cps.toList := by
  show (x.cps ++ y.cps).toList = _
  simp
theorem cps_len (x : Str) : x.cps.toList.length = x.length := by simp [Str.length]
theorem app_len (x y : Str) : (x ++ y).length = x.length + y.length := by rw [← cps_len, app_cps, List.length_append, cps_len, cps_len]
def sOk (n : Nat) (x : Str) : Prop := x.length ≤ n ∧ ∀ c ∈ x.cps.toList, c < 16 ^ 8
instance (n : Nat) (x : Str) : Decidable (sOk n x) := by unfold sOk; infer_instance
theorem sOk.fits {n : Nat} {x : Str} (h : sOk n x) : fits 0 n (.str x) := fits_str h.2 h.1
theorem sOk.app {n m : Nat} {x y : Str} (h : sOk n x) (k : sOk m y) : sOk (n + m) (x ++ y) := by
  refine ⟨by rw [app_len]; have := h.1; have := k.1; omega, fun c hc => ?_⟩
  rw [app_cps] at hc
  rcases List.mem_append.mp hc with z | z
  · exact h.2 c z
  · exact k.2 c z
theorem sOk.mono {n m : Nat} {x : Str} (h : sOk n x) (hn : n ≤ m) : sOk m x := ⟨Nat.le_trans h.1 hn, h.2⟩
theorem sOk.join : ∀ {l : List Str} {n : Nat}, (∀ x ∈ l, sOk 1 x) → l.length ≤ n → sOk n (Txt.join "" l) := by
  intro l n h hn
  rw [show Txt.join (Str.ofString "") l = Str.join (Str.ofString "") l from StrLaws.glued_eq_join _ _]
  refine sOk.mono ?_ hn
  clear hn
  induction l with
  | nil => exact ⟨Nat.zero_le _, fun c hc => by simp [Str.join, Str.empty] at hc⟩
  | cons x l ih =>
    have h1 := h x (by simp)
    have h2 := ih fun y hy => h y (by simp [hy])
    cases l with
    | nil => exact h1
    | cons y l =>
      show sOk _ (x ++ "" ++ Str.join "" (y :: l))
      have h3 : sOk 0 ("" : Str) := by decide
      have := (h1.app h3).app h2
      exact this.mono (by simp only [List.length_cons]; omega)
def nmL (xs : List Str) : List OD := (xs.map PyData.str).map OD.d
theorem nmL_snoc (xs : List Str) (x : Str) : nmL xs ++ [.d (.str x)] = nmL (xs ++ [x]) := by simp [nmL]
theorem nmL_len (xs : List Str) : (nmL xs).length = xs.length := by simp [nmL]
theorem nmL_isd (xs : List Str) : (nmL xs).all OD.isD = true := all_isD _
theorem nmL_er (xs : List Str) : (nmL xs).map OD.erase = xs.map PyData.str := erase_ds _
theorem nmL_get {xs : List Str} {r : Nat} (h : r < xs.length) : (nmL xs)[r]? = some (.d (.str xs[r])) := by simp [nmL, h]
theorem nmL_at {xs : List Str} {r : Nat} (h : r < xs.length) : atI (nmL xs) (r : Int) = some (.d (.str xs[r])) := by
  rw [at_ok (by rw [nmL_len]; exact h)]
  simp [nmL]
theorem erase_map {α β : Type} (f : α → β) : ∀ (l : List α) (r : Nat), (l.map f).eraseIdx r = (l.eraseIdx r).map f
  | [], _ => rfl
  | a :: l, 0 => rfl
  | a :: l, r + 1 => by simp [erase_map f l r]
theorem nmL_pop (xs : List Str) (r : Nat) : (nmL xs).eraseIdx r = nmL (xs.eraseIdx r) := by unfold nmL; rw [erase_map, erase_map]
theorem strs_map (xs : List Str) : strsOf (xs.map PyData.str) = some xs := by
  induction xs with
  | nil => rfl
  | cons x xs ih => simp [strsOf, ih]
theorem sum_ones {l : List Str} {n : Nat} (h : ∀ x ∈ l, sOk n x) : (l.map (·.length)).sum ≤ n * l.length := by
  induction l with
  | nil => simp
  | cons x l ih =>
    have h1 := (h x (by simp)).1
    have h2 := ih fun y hy => h y (by simp [hy])
    rw [List.map_cons, List.sum_cons, List.length_cons, Nat.mul_add, Nat.mul_one]
    omega
theorem gJoin_ones {l : List Str} (h : ∀ x ∈ l, sOk 1 x) (hl : l.length ≤ 1000) : gJoin [.d (.str ""), .l (nmL l)] = some (.d (.str (Txt.join "" l))) := by
  have h1 := sum_ones h
  have h2 := (sOk.join h (Nat.le_refl _)).1
  have e0 : ("" : Str).length = 0 := rfl
  have e1 : (OD.l (nmL l)).erase = .list (l.map .str) := by
    show PyData.list (eraseL (nmL l)) = _
    rw [eraseL_map, nmL_er]
  have e2 : (OD.l (nmL l)).shallow = true := nmL_isd l
  have e3 : (l.map (·.length)).sum + l.length * ("" : Str).length ≤ 16777216 ∧ (Txt.join "" l).length ≤ sizeLine := by
    rw [e0]
    exact ⟨by omega, Nat.le_trans h2 (Nat.le_trans hl (by decide))⟩
  simp only [gJoin, e1, e2, if_true, strs_map, Option.bind_some, if_pos e3]
/-- an element of a list display -/
theorem ix_any_l {os : List OD} {x : Nat} (P : PyData → Prop) {Q : OD → Prop} (h : ∀ o ∈ os, ∃ d, o = .d d ∧ P d) (hx : x < os.length) (k : ∀ d, P d → Q (.d d)) : ∃ o, (atI os (x : Int)).bind dat = some o ∧ Q o := by
  obtain ⟨o, ho, e⟩ := at_mem hx
  obtain ⟨d, rfl, hp⟩ := h o ho
  exact ⟨.d d, by rw [e]; rfl, k d hp⟩
theorem ix_any_s {s : Str} {x : Nat} {Q : OD → Prop} (hx : x < s.length) (k : ∀ c ∈ s.cps.toList, Q (.d (.str ⟨#[c]⟩))) : ∃ o, (atI s.cps.toList (x : Int)).map (fun c => OD.d (.str ⟨#[c]⟩)) = some o ∧ Q o := by
  obtain ⟨c, hc, e⟩ := at_mem (xs := s.cps.toList) (i := x) (by rw [cps_len]; exact hx)
  exact ⟨_, by rw [e]; rfl, k c hc⟩
theorem ix_any_d {os : List PyData} {x : Nat} (P : PyData → Prop) {Q : OD → Prop} (h : ∀ o ∈ os, P o) (hx : x < os.length) (k : ∀ d, P d → Q (.d d)) : ∃ o, (atI os (x : Int)).map OD.d = some o ∧ Q o := by
  obtain ⟨o, ho, e⟩ := at_mem hx
  exact ⟨.d o, by rw [e]; rfl, k o (h o ho)⟩

/-! ### statements one after another; draws -/
theorem seq_by {m n : M Fl} {e : DEnv} {Q : Fl → DEnv → Prop} {Qx : Xn → DEnv → Prop} (I : DEnv → Prop) (h1 : Mwp (m e) (fun fl e' => fl = .nx ∧ I e') Qx) (h2 : ∀ e', I e' → Mwp (n e') Q Qx) : Mwp (mSeq m n e) Q Qx := by
  rw [w_seq]
  refine h1.imp (fun fl e' _ z => ?_) fun _ _ _ z => z
  obtain ⟨rfl, z⟩ := z
  exact h2 e' z
/-- the state of the draws: three numbers -/
def Jr (M : Nat) (o : OD) : Prop := ∃ a b c : Int, o = .l [.d (.int a), .d (.int b), .d (.int c)] ∧ 0 ≤ a ∧ 0 ≤ b ∧ b < 2 ^ 200 ∧ 0 ≤ c ∧ c ≤ M
theorem Jr.mono {M M' : Nat} {o : OD} (h : Jr M o) (hm : M ≤ M') : Jr M' o := by
  obtain ⟨a, b, c, h0, h1, h2, h3, h4, h5⟩ := h
  exact ⟨a, b, c, h0, h1, h2, h3, h4, by omega⟩
def Dip (n M : Nat) (r : OD) (l : List OD) : Prop := ∃ (x : Nat) (o' : OD), r = .d (.int (x : Int)) ∧ l = [o'] ∧ x < n ∧ Jr (M + 1) o'
theorem fpop {xs : List Str} {r : Nat} {e : DEnv} (h : r < xs.length) (hb : r < 2 ^ 62) : fPopAt (nmL xs) (.o (.d (.int (r : Int)))) e = some (.d (.str xs[r]), nmL (xs.eraseIdx r)) := by
  have bd : (-(2 ^ 63) ≤ (r : Int) ∧ (r : Int) < 2 ^ 63) := by omega
  have si : seqIndex? (r : Int) (nmL xs).length = some r := by
    rw [nmL_len, seqIndex_of (by omega) (by omega)]
    simp
  simp only [fPopAt, DL.intAt, HE.rd, bd, si, nmL_get h, nmL_pop]
  simp
theorem nmL_noS (xs : List Str) : noSL (nmL xs) = true := noSL_d _

/-! ### kinds -/
theorem is_int_n : DL.is_int .none = false := rfl
theorem is_int_b (b : Bool) : DL.is_int (.bool b) = true := rfl
theorem is_int_i (i : Int) : DL.is_int (.int i) = true := rfl
theorem is_int_s (s : Str) : DL.is_int (.str s) = false := rfl
theorem is_int_l (xs : List PyData) : DL.is_int (.list xs) = false := rfl
theorem is_int_t (xs : List PyData) : DL.is_int (.tuple xs) = false := rfl
theorem is_int_d (kvs : List (PyData × PyData)) : DL.is_int (.dict kvs) = false := rfl
theorem is_bool_n : DL.is_bool .none = false := rfl
theorem is_bool_b (b : Bool) : DL.is_bool (.bool b) = true := rfl
theorem is_bool_i (i : Int) : DL.is_bool (.int i) = false := rfl
theorem is_bool_s (s : Str) : DL.is_bool (.str s) = false := rfl
theorem is_bool_l (xs : List PyData) : DL.is_bool (.list xs) = false := rfl
theorem is_bool_t (xs : List PyData) : DL.is_bool (.tuple xs) = false := rfl
theorem is_bool_d (kvs : List (PyData × PyData)) : DL.is_bool (.dict kvs) = false := rfl
theorem is_str_n : DL.is_str .none = false := rfl
theorem is_str_b (b : Bool) : DL.is_str (.bool b) = false := rfl
theorem is_str_i (i : Int) : DL.is_str (.int i) = false := rfl
theorem is_str_s (s : Str) : DL.is_str (.str s) = true := rfl
theorem is_str_l (xs : List PyData) : DL.is_str (.list xs) = false := rfl
theorem is_str_t (xs : List PyData) : DL.is_str (.tuple xs) = false := rfl
theorem is_str_d (kvs : List (PyData × PyData)) : DL.is_str (.dict kvs) = false := rfl
theorem is_tuple_n : DL.is_tuple .none = false := rfl
theorem is_tuple_b (b : Bool) : DL.is_tuple (.bool b) = false := rfl
theorem is_tuple_i (i : Int) : DL.is_tuple (.int i) = false := rfl
theorem is_tuple_s (s : Str) : DL.is_tuple (.str s) = false := rfl
theorem is_tuple_l (xs : List PyData) : DL.is_tuple (.list xs) = false := rfl
theorem is_tuple_t (xs : List PyData) : DL.is_tuple (.tuple xs) = true := rfl
theorem is_tuple_d (kvs : List (PyData × PyData)) : DL.is_tuple (.dict kvs) = false := rfl
theorem is_list_n : DL.is_list .none = false := rfl
theorem is_list_b (b : Bool) : DL.is_list (.bool b) = false := rfl
theorem is_list_i (i : Int) : DL.is_list (.int i) = false := rfl
theorem is_list_s (s : Str) : DL.is_list (.str s) = false := rfl
theorem is_list_l (xs : List PyData) : DL.is_list (.list xs) = true := rfl
theorem is_list_t (xs : List PyData) : DL.is_list (.tuple xs) = false := rfl
theorem is_list_d (kvs : List (PyData × PyData)) : DL.is_list (.dict kvs) = false := rfl
theorem is_dict_n : DL.is_dict .none = false := rfl
theorem is_dict_b (b : Bool) : DL.is_dict (.bool b) = false := rfl
theorem is_dict_i (i : Int) : DL.is_dict (.int i) = false := rfl
theorem is_dict_s (s : Str) : DL.is_dict (.str s) = false := rfl
theorem is_dict_l (xs : List PyData) : DL.is_dict (.list xs) = false := rfl
theorem is_dict_t (xs : List PyData) : DL.is_dict (.tuple xs) = false := rfl
theorem is_dict_d (kvs : List (PyData × PyData)) : DL.is_dict (.dict kvs) = true := rfl
theorem ic0 : ((0 : Nat) : Int) = 0 := rfl
theorem ic1 : ((1 : Nat) : Int) = 1 := rfl
theorem ic2 : ((2 : Nat) : Int) = 2 := rfl
theorem ic3 : ((3 : Nat) : Int) = 3 := rfl
theorem ic4 : ((4 : Nat) : Int) = 4 := rfl
theorem ic5 : ((5 : Nat) : Int) = 5 := rfl
theorem ic6 : ((6 : Nat) : Int) = 6 := rfl
theorem ic7 : ((7 : Nat) : Int) = 7 := rfl
theorem ic8 : ((8 : Nat) : Int) = 8 := rfl
theorem ic9 : ((9 : Nat) : Int) = 9 := rfl
theorem ic10 : ((10 : Nat) : Int) = 10 := rfl
theorem ic11 : ((11 : Nat) : Int) = 11 := rfl
theorem ic12 : ((12 : Nat) : Int) = 12 := rfl
theorem ic13 : ((13 : Nat) : Int) = 13 := rfl
theorem ic14 : ((14 : Nat) : Int) = 14 := rfl
theorem ic15 : ((15 : Nat) : Int) = 15 := rfl
theorem ic16 : ((16 : Nat) : Int) = 16 := rfl
theorem ic17 : ((17 : Nat) : Int) = 17 := rfl
theorem ic18 : ((18 : Nat) : Int) = 18 := rfl
theorem ic19 : ((19 : Nat) : Int) = 19 := rfl
theorem ic20 : ((20 : Nat) : Int) = 20 := rfl
theorem ic21 : ((21 : Nat) : Int) = 21 := rfl
theorem ex_pair {α β : Type} {a : α} {b : β} {P : α → β → Prop} : (∃ r s, (a, b) = (r, s) ∧ P r s) ↔ P a b := ⟨fun ⟨_, _, h, p⟩ => by cases h; exact p, fun p => ⟨a, b, rfl, p⟩⟩
instance (D W : Nat) (d : PyData) : Decidable (fits D W d) := by unfold fits; infer_instance
theorem cutD_mem {α : Type} {xs : List α} {lo hi : Option Int} {x : α} (h : x ∈ cutD xs lo hi) : x ∈ xs := List.mem_of_mem_drop (List.mem_of_mem_take h)
theorem cutD_len {α : Type} (xs : List α) (lo hi : Option Int) : (cutD xs lo hi).length ≤ xs.length := by
  unfold cutD
  rw [List.length_take, List.length_drop]
  omega
theorem gNe_nilT (xs : List PyData) (h : PyData.plainAll xs = true) : gNe (.tuple xs) (.tuple []) = some (.d (.bool (!xs.isEmpty))) := by
  unfold gNe
  have e1 : (PyData.tuple xs).plain = true := h
  have e2 : (PyData.tuple []).plain = true := rfl
  have e3 : (PyData.tuple []).depth = 1 := rfl
  have : eqFit (.tuple xs) (.tuple []) = true := by
    unfold eqFit fewDeep
    rw [e1, e2, e3, decide_eq_true (Nat.le_trans (Nat.min_le_right _ _) (by decide))]
    rfl
  rw [if_pos this]
  cases xs <;> simp [PyData.eqv, PyData.eqvAll]
theorem plainAll_mem : ∀ {xs : List PyData}, (∀ x ∈ xs, x.plain = true) → PyData.plainAll xs = true
  | [], _ => rfl
  | x :: xs, h => by
    rw [PyData.plainAll, h x (by simp), plainAll_mem fun y hy => h y (by simp [hy])]
    rfl
theorem for_by {mi : M (List PyData)} {a : OD → DEnv → Option DEnv} {mb : M Fl} {e : DEnv} {Q : Fl → DEnv → Prop} {Qx : Xn → DEnv → Prop} (J : List PyData → DEnv → Prop) (h1 : Mwp (mi e) J Qx) (h2 : ∀ ds e', J ds e' → Mwp (mEach a mb ds e') Q Qx) : Mwp (mFor mi a mb e) Q Qx := by
  rw [w_for]
  exact h1.imp (fun ds e' _ z => h2 ds e' z) fun _ _ _ z => z
end DL

set_option Elab.async false
set_option linter.all false
set_option autoImplicit false
set_option maxRecDepth 100000
/-! The evaluators of this law's defs (printed by gen.py). -/
namespace LW
open PySem PySem.Spec PyProof.Rows L2 DL
def m_is_name_0 : M Fl := mIf (mOr (mNot (mTest (prim (dp1 (gIsI is_str)) [.plc 0]))) (mNot (mTest (mChain (sh2 gLe) (sh2 gLe) (.own (mC (.int 1))) (.own (prim (gLenAny) [.plc 0])) (.own (mC (.int 8))))))) (mRet (mC (.bool false))) (mNx)
def m_is_name_1 : M Fl := mRet (prim (sh1 (gBs fun bs => bs.all id)) [.own (mLc (mItems (.val (mVar 0))) (aName 1) mYes (prim (gInAny false) [.plc 1, .own (mC (.str "abcdefghijklmnopqrstuvwxyz"))]) [1])])
def m_is_name : M Fl := mSeq (m_is_name_0)
    (m_is_name_1)
def f_is_name : FSem := semD none 2 m_is_name
def m_is_copy_0 : M Fl := mIf (mOr (mNot (mTest (prim (dp1 (gIsI is_tuple)) [.plc 0]))) (mOr (mTest (prim (dp2 gNe) [.own (prim (gLenAny) [.plc 0]), .own (mC (.int 3))])) (mNot (mTest (prim (dp1 (gIsI is_str)) [.own (prim gIxAny [.plc 0, .own (mC (.int 0))])]))))) (mRet (mC (.bool false))) (mNx)
def m_is_copy_1 : M Fl := mRet (mAndV (prim (gInAny false) [.plc 1, .own (mTup [.val (mC (.str "over")), .val (mC (.str "skip"))])]) (mAndV (mCall f_is_name [.val (mVar 2)]) (mAndV (mCall f_is_name [.val (mVar 3)]) (prim (dp2 gNe) [.plc 2, .plc 3]))))
def m_is_copy : M Fl := mSeq (m_is_copy_0)
    (mSeq (mAsg (mVar 0) (aTup [aName 1, aName 2, aName 3]))
    (m_is_copy_1))
def f_is_copy : FSem := semD none 4 m_is_copy
def m_is_script_0 : M Fl := mRet (mAndV (prim (dp1 (gIsI is_tuple)) [.plc 0]) (mAndV (prim (sh2 gLe) [.own (prim (gLenAny) [.plc 0]), .own (mC (.int 200))]) (prim (sh1 (gBs fun bs => bs.all id)) [.own (mLc (mItems (.val (mVar 0))) (aName 1) mYes (mCall f_is_copy [.val (mVar 1)]) [1])])))
def m_is_script : M Fl := m_is_script_0
def f_is_script : FSem := semD none 2 m_is_script
def m__law_jar_0 : M Fl := mRet (mList [.val (prim (gMax2) [.own (mC (.int 0)), .own (prim (sh2 gSub) [.own (prim (gAbs) [.plc 2]), .own (prim (sh2 gPow) [.own (mC (.int 10)), .own (mC (.int 18))])])]), .val (prim (sh2 gMod) [.own (prim (sh2 gAdd) [.own (prim (sh2 gAdd) [.own (prim (sh2 gMul) [.plc 2, .own (mC (.int 83))]), .own (prim (sh2 gMul) [.own (mC (.int 19)), .plc 1])]), .own (mC (.int 11))]), .own (prim (sh2 gAdd) [.own (prim (sh2 gPow) [.own (mC (.int 10)), .own (mC (.int 38))]), .own (mC (.int 133))])]), .val (mC (.int 0))])
def m__law_jar : M Fl := mSeq (mAsg (mIfE (mTest (prim (sh2 gLt) [.plc 1, .own (prim (gLenAny) [.plc 0])])) (prim gIxAny [.plc 0, .plc 1]) (mC (.int 0))) (aName 2))
    (m__law_jar_0)
def f__law_jar : FSem := semD none 3 m__law_jar
def m__law_dip_0 : M Fl := mIf (mTest (prim (sh2 gGt) [.own (prim gIxAny [.plc 0, .own (mC (.int 0))]), .own (mC (.int 0))])) (mSeq (mAsg (prim (sh2 gMod) [.own (prim gIxAny [.plc 0, .own (mC (.int 0))]), .plc 1]) (aName 3))
    (mSeq (mSetL 0 (.own (prim (sh2 gFdiv) [.own (prim gIxAny [.plc 0, .own (mC (.int 0))]), .plc 1])) (.own (mC (.int 0))))
    (mRet (mMove 3)))) (mNx)
def m__law_dip_1 : M Fl := mAsg (prim (sh2 gMod) [.own (prim (sh2 gPow) [.own (prim (sh2 gAdd) [.own (prim gIxAny [.plc 0, .own (mC (.int 1))]), .own (prim (sh2 gMul) [.own (mC (.int 675248027)), .own (prim gIxAny [.plc 0, .own (mC (.int 2))])])]), .own (mC (.int 3))]), .own (prim (sh2 gAdd) [.own (prim (sh2 gPow) [.own (mC (.int 10)), .own (mC (.int 41))]), .own (mC (.int 37))])]) (aName 2)
def m__law_dip_2 : M Fl := mAsg (prim (sh2 gMod) [.own (prim (sh2 gPow) [.own (prim (sh2 gAdd) [.plc 2, .own (prim (sh2 gMul) [.own (mC (.int 314606891)), .own (prim gIxAny [.plc 0, .own (mC (.int 2))])])]), .own (mC (.int 2))]), .own (prim (sh2 gAdd) [.own (prim (sh2 gPow) [.own (mC (.int 10)), .own (mC (.int 40))]), .own (mC (.int 121))])]) (aName 2)
def m__law_dip : M Fl := mSeq (m__law_dip_0)
    (mSeq (mSetL 0 (.own (prim (sh2 gAdd) [.own (prim gIxAny [.plc 0, .own (mC (.int 2))]), .own (mC (.int 1))])) (.own (mC (.int 2))))
    (mSeq (m__law_dip_1)
    (mSeq (m__law_dip_2)
    (mRet (prim (sh2 gMod) [.own (prim (sh2 gFdiv) [.plc 2, .own (prim (sh2 gPow) [.own (mC (.int 10)), .own (mC (.int 6))])]), .plc 1])))))
def f__law_dip : FSem := semD (some 0) 4 m__law_dip
def m__law_names_0 : M Fl := mAsg (prim gIxAny [.own (mList [.val (mC (.int 0)), .val (mC (.int 0)), .val (mC (.int 1)), .val (mC (.int 7))]), .own (mCallIo 0 f__law_dip [.plc 0, .val (mC (.int 4))])]) (aName 5)
def m__law_names_1 : M Fl := mAsg (mStr gJoin (.own (mC (.str ""))) [.own (mLc (mRng rngA [.plc 5]) (aName 7) mYes (prim gIxAny [.own (mC (.str "abz")), .own (mCallIo 0 f__law_dip [.plc 0, .val (mC (.int 3))])]) [7])]) (aName 6)
def m__law_names_2 : M Fl := mFor (mRng rngA [.plc 1]) (aName 4) (mSeq (m__law_names_0)
    (mSeq (m__law_names_1)
    (mDo (mMeth1 3 (.own (prim (sh2 gAdd) [.plc 6, .own (mMeth1 2 (.own (mCallIo 0 f__law_dip [.plc 0, .val (prim (gLenAny) [.plc 2])])) fPopAt)])) fApp))))
def m__law_names : M Fl := mSeq (mStores [2, 3] [.own (prim (sh1 gListAny) [.own (mC (.str "abcdefghijklmnopqrst"))]), .own (mList [])])
    (mSeq (m__law_names_2)
    (mRet (prim (sh1 gTupAny) [.plc 3])))
def f__law_names : FSem := semD (some 0) 8 m__law_names
def m__law_plan_0 : M Fl := mIf (mTest (prim (dp2 gEq) [.plc 4, .own (mC (.int 1))])) (mStores [7, 8] [.own (prim (sh2 gMod) [.own (prim (sh2 gAdd) [.plc 6, .own (mC (.int 1))]), .plc 3]), .own (prim (sh2 gMod) [.plc 6, .plc 3])]) (mNx)
def m__law_plan_1 : M Fl := mStores [7, 8] [.own (mCallIo 0 f__law_dip [.plc 0, .val (prim (gMin2) [.plc 3, .own (mC (.int 3))])]), .own (mCallIo 0 f__law_dip [.plc 0, .val (prim (gMin2) [.plc 3, .own (mC (.int 3))])])]
def m__law_plan_2 : M Fl := mAsg (prim gIxAny [.own (mList [.val (mC (.str "over")), .val (mC (.str "skip"))]), .own (prim gIxAny [.own (mList [.val (mCallIo 0 f__law_dip [.plc 0, .val (mC (.int 2))]), .val (mC (.int 0)), .val (prim (gInt) [.own (prim (dp2 gEq) [.own (prim (sh2 gMod) [.plc 6, .own (mC (.int 5))]), .own (mC (.int 4))])])]), .own (prim (sh2 gMod) [.plc 4, .own (mC (.int 3))])])]) (aName 9)
def m__law_plan_3 : M Fl := mFor (mRng rngA [.own (prim (sh2 gMul) [.own (mCallIo 0 f__law_dip [.plc 0, .val (prim (sh2 gAdd) [.plc 2, .own (mC (.int 1))])]), .own (prim (gInt) [.own (prim (sh2 gGt) [.plc 3, .own (mC (.int 1))])])])]) (aName 6) (mSeq (mStores [7, 8] [.own (mCallIo 0 f__law_dip [.plc 0, .val (mVar 3)]), .own (mCallIo 0 f__law_dip [.plc 0, .val (mVar 3)])])
    (mSeq (m__law_plan_0)
    (mSeq (mIf (mTest (prim (dp2 gEq) [.plc 4, .own (mC (.int 2))])) (mAsg (mC (.int 0)) (aName 8)) (mNx))
    (mSeq (mIf (mTest (prim (dp2 gEq) [.plc 4, .own (mC (.int 3))])) (mAsg (mC (.int 0)) (aName 7)) (mNx))
    (mSeq (mIf (mTest (prim (dp2 gEq) [.plc 4, .own (mC (.int 4))])) (m__law_plan_1) (mNx))
    (mSeq (mAsg (mIfE (mTest (prim (dp2 gNe) [.plc 8, .plc 7])) (mVar 8) (prim (sh2 gMod) [.own (prim (sh2 gAdd) [.plc 7, .own (mC (.int 1))]), .plc 3])) (aName 8))
    (mSeq (m__law_plan_2)
    (mDo (mMeth1 5 (.own (mTup [.val (mVar 9), .val (prim gIxAny [.plc 1, .plc 7]), .val (prim gIxAny [.plc 1, .plc 8])])) fApp)))))))))
def m__law_plan : M Fl := mSeq (mStores [3, 4, 5] [.own (prim (gLenAny) [.plc 1]), .own (mCallIo 0 f__law_dip [.plc 0, .val (mC (.int 6))]), .own (mList [])])
    (mSeq (m__law_plan_3)
    (mRet (prim (sh1 gTupAny) [.plc 5])))
def f__law_plan : FSem := semD (some 0) 10 m__law_plan
def m__law_is_copy_0 : M Fl := mIf (mOr (mNot (mTest (prim (dp1 (gIsI is_tuple)) [.plc 0]))) (mOr (mTest (prim (dp2 gNe) [.own (prim (gLenAny) [.plc 0]), .own (mC (.int 3))])) (mTest (prim (dp2 gNe) [.own (mLc (mItems (.val (mVar 0))) (aName 1) (mNot (mTest (prim (dp1 (gIsI is_str)) [.plc 1]))) (mVar 1) [1]), .own (mList [])])))) (mRet (mC (.bool false))) (mNx)
def m__law_is_copy_1 : M Fl := mIf (mOr (mNot (mTest (mChain (sh2 gLe) (sh2 gLe) (.own (mC (.int 1))) (.own (prim (gLenAny) [.plc 1])) (.own (mC (.int 8)))))) (mTest (prim (dp2 gNe) [.own (mLc (mItems (.val (mVar 1))) (aName 2) (mTest (prim (gInAny true) [.plc 2, .own (mC (.str "abcdefghijklmnopqrstuvwxyz"))])) (mVar 2) [2]), .own (mList [])]))) (mRet (mC (.bool false))) (mNx)
def m__law_is_copy_2 : M Fl := mRet (mAndV (prim (gInAny false) [.own (prim gIxAny [.plc 0, .own (mC (.int 0))]), .own (mTup [.val (mC (.str "over")), .val (mC (.str "skip"))])]) (prim (dp2 gNe) [.own (prim gIxAny [.plc 0, .own (mC (.int 1))]), .own (prim gIxAny [.plc 0, .own (mC (.int 2))])]))
def m__law_is_copy : M Fl := mSeq (m__law_is_copy_0)
    (mSeq (mFor (mItems (.val (prim gSlL [.plc 0, .own (mC (.int 1))]))) (aName 1) (m__law_is_copy_1))
    (m__law_is_copy_2))
def f__law_is_copy : FSem := semD none 3 m__law_is_copy
def m__law_odd_0 : M Fl := mAsg (prim gIxAny [.own (mList [.val (mC (.str "")), .val (mC (.str "A")), .val (mC (.str "a b")), .val (mC (.str "a1")), .val (mC (.str "abcdefghi")), .val (mC .none), .val (mC (.int 1)), .val (mC (.bool true)), .val (mList [.val (mC (.str "a"))]), .val (mTup [.val (mC (.str "a"))]), .val (mC (.dict [])), .val (mC (.str "\n")), .val (mC (.str "-")), .val (mVar 3)]), .own (mCallIo 0 f__law_dip [.plc 0, .val (mC (.int 14))])]) (aName 5)
def m__law_odd_1 : M Fl := mAsg (mList [.val (mTup [.val (mVar 5), .val (mVar 3), .val (mVar 4)]), .val (mTup [.val (mVar 2), .val (mVar 5), .val (mVar 4)]), .val (mTup [.val (mVar 2), .val (mVar 3), .val (mVar 5)]), .val (mTup [.val (mVar 2), .val (mVar 3)]), .val (prim (sh1 gListAny) [.plc 1])]) (aName 6)
def m__law_odd_2 : M Fl := mAsg (prim (sh2 gAdd) [.plc 6, .own (mList [.val (mTup [.val (mVar 2), .val (mVar 3), .val (mVar 4), .val (mC (.str "a"))]), .val (mTup [.val (mVar 2), .val (mVar 4), .val (mVar 3)]), .val (mTup [.val (mC (.str "Over")), .val (mVar 3), .val (mVar 4)])])]) (aName 6)
def m__law_odd_3 : M Fl := mAsg (prim (sh2 gAdd) [.plc 6, .own (mList [.val (mTup [.val (mC (.str "")), .val (mVar 3), .val (mVar 4)]), .val (mC .none), .val (mVar 2), .val (mTup []), .val (mC (.dict []))])]) (aName 6)
def m__law_odd_4 : M Fl := mRet (prim gIxAny [.own (prim (sh2 gAdd) [.plc 6, .own (mList [.val (mTup [.val (mVar 2), .val (mC (.str "abcdefgh")), .val (prim (sh2 gAdd) [.plc 4, .own (prim gSlH [.own (mC (.str "z")), .own (prim (sh2 gSub) [.own (mC (.int 8)), .own (prim (gLenAny) [.plc 4])])])])])])]), .own (mCallIo 0 f__law_dip [.plc 0, .val (mC (.int 14))])])
def m__law_odd : M Fl := mSeq (mAsg (mVar 1) (aTup [aName 2, aName 3, aName 4]))
    (mSeq (m__law_odd_0)
    (mSeq (m__law_odd_1)
    (mSeq (m__law_odd_2)
    (mSeq (m__law_odd_3)
    (m__law_odd_4)))))
def f__law_odd : FSem := semD (some 0) 7 m__law_odd
def m_law_0 : M Fl := mAsg (mCallIo 0 f__law_plan [.plc 3, .val (mCallIo 0 f__law_names [.plc 3, .val (prim (sh2 gAdd) [.own (mC (.int 2)), .own (mCallIo 0 f__law_dip [.plc 3, .val (mC (.int 19))])])]), .val (prim gIxAny [.own (mList [.val (mC (.int 9)), .val (mC (.int 200))]), .own (mCallIo 0 f__law_dip [.plc 3, .val (mC (.int 2))])])]) (aName 4)
def m_law_1 : M Fl := mAsg (mList [.val (mVar 4), .val (prim (sh1 gListAny) [.plc 4]), .val (prim gSlH [.plc 4, .own (mC (.int 1))]), .val (prim (sh2 gAdd) [.plc 4, .own (mTup [.val (mC .none)])]), .val (mTup [.val (mVar 4)]), .val (mC .none), .val (mC (.int 0)), .val (mC (.str "")), .val (mC (.str "over")), .val (mTup []), .val (mList []), .val (mC (.dict [])), .val (mC (.bool true))]) (aName 5)
def m_law_2 : M Fl := mAsg (prim (sh2 gAdd) [.plc 5, .own (mList [.val (mVar 9), .val (prim (sh2 gAdd) [.own (prim (sh2 gAdd) [.own (prim gSlH [.plc 4, .plc 8]), .own (mTup [.val (mVar 9)])]), .own (prim gSlL [.plc 4, .own (prim (sh2 gAdd) [.plc 8, .own (mC (.int 1))])])]), .val (prim gIxAny [.plc 4, .plc 8])])]) (aName 5)
def m_law_3 : M Fl := mFor (mRng rngA [.own (prim (sh2 gMul) [.own (mC (.int 12)), .own (prim (gInt) [.own (prim (dp2 gNe) [.plc 4, .own (mTup [])])])])]) (aName 6) (mSeq (mAsg (mCallIo 0 f__law_dip [.plc 3, .val (prim (gLenAny) [.plc 4])]) (aName 8))
    (mSeq (mAsg (mCallIo 0 f__law_odd [.plc 3, .val (prim gIxAny [.plc 4, .plc 8])]) (aName 9))
    (m_law_2)))
def m_law_4 : M Fl := mAsg (mAndV (mVar 11) (prim (dp2 gEq) [.own (mLc (mItems (.val (mVar 7))) (aName 13) (mNot (mTest (mCall f__law_is_copy [.val (mVar 13)]))) (mVar 13) [13]), .own (mList [])])) (aName 11)
def m_law_5 : M Fl := mAsg (mList [.val (mCall f_is_copy [.val (mVar 7)]), .val (mCallK [0] f_is_copy [.val (mVar 7)]), .val (mCall f_is_script [.val (mVar 7)]), .val (mCallK [0] f_is_script [.val (mVar 7)])]) (aName 12)
def m_law_6 : M Fl := mIf (mOr (mTest (prim (dp2 gNe) [.own (prim (dp1 gRepr) [.plc 12]), .own (prim (dp1 gRepr) [.own (prim (sh2 gAdd) [.own (prim (sh2 gMul) [.own (mList [.val (mCall f__law_is_copy [.val (mVar 7)])]), .own (mC (.int 2))]), .own (prim (sh2 gMul) [.own (mList [.val (mVar 11)]), .own (mC (.int 2))])])])])) (mTest (prim (dp2 gNe) [.own (prim (dp1 gRepr) [.plc 7]), .plc 10]))) (mRet (mC (.bool false))) (mNx)
def m_law_7 : M Fl := mFor (mItems (.val (mVar 5))) (aName 7) (mSeq (mAsg (prim (dp1 gRepr) [.plc 7]) (aName 10))
    (mSeq (mAsg (mAndV (prim (dp1 (gIsI is_tuple)) [.plc 7]) (prim (sh2 gLe) [.own (prim (gLenAny) [.plc 7]), .own (mC (.int 200))])) (aName 11))
    (mSeq (m_law_4)
    (mSeq (m_law_5)
    (m_law_6)))))
def m_law_8 : M Fl := mFor (mRng rngA [.own (prim (gMax2) [.own (mC (.int 1)), .own (prim (gMin2) [.own (mC (.int 8)), .own (prim (gLenAny) [.plc 0])])])]) (aName 1) (mSeq (mAsg (mCall f__law_jar [.plc 0, .val (mVar 1)]) (aName 3))
    (mSeq (m_law_0)
    (mSeq (m_law_1)
    (mSeq (m_law_3)
    (m_law_7)))))
def m_law_9 : M Fl := mRet (prim (dp2 gEq) [.own (mList [.val (mCall f_is_script [.val (mVar 2)]), .val (mCall f_is_script [.val (prim (sh2 gAdd) [.plc 2, .own (prim gSlH [.plc 2, .own (mC (.int 1))])])]), .val (mCall f_is_copy [.val (mTup [.val (mC (.str "over")), .val (mC (.str "a")), .val (mC (.str "a"))])])]), .own (mList [.val (mC (.bool true)), .val (mC (.bool false)), .val (mC (.bool false))])])
def m_law : M Fl := mSeq (m_law_8)
    (mSeq (mAsg (prim (sh2 gMul) [.own (mTup [.val (mTup [.val (mC (.str "skip")), .val (mC (.str "a")), .val (mC (.str "abcdefgh"))])]), .own (mC (.int 200))]) (aName 2))
    (m_law_9))
def f_law : FSem := semD none 14 m_law
end LW

set_option Elab.async false
set_option linter.all false
set_option autoImplicit false
set_option maxRecDepth 100000
set_option maxHeartbeats 2000000
/-! The defs of this law: their evaluators, their bodies (printed by gen.py). -/
namespace LW
open PySem PySem.Spec PyProof.Rows L2 DL
def top (i : Nat) : Stmt := PySem.Challenge.pw_copyover_k01_copies_and_scripts_judged.main.body.getD i (.Pass ⟨0, 0, 0, 0⟩)
/-- what the top leaves of the names used -/
structure Glb (mg : Str → Option Value) : Prop where
  n_abs : mg "abs" = none
  n_all : mg "all" = none
  n_int : mg "int" = none
  n_isinstance : mg "isinstance" = none
  n_len : mg "len" = none
  n_list : mg "list" = none
  n_max : mg "max" = none
  n_min : mg "min" = none
  n_range : mg "range" = none
  n_repr : mg "repr" = none
  n_str : mg "str" = none
  n_tuple : mg "tuple" = none
  c_LETTERS : ∃ t, mg "LETTERS" = some (.str "abcdefghijklmnopqrstuvwxyz" t)
  c_MOST_COPIES : ∃ t, mg "MOST_COPIES" = some (.int 200 t)
  c_MOST_LETTERS : ∃ t, mg "MOST_LETTERS" = some (.int 8 t)
  c_OVER : ∃ t, mg "OVER" = some (.str "over" t)
  c_SKIP : ∃ t, mg "SKIP" = some (.str "skip" t)
abbrev s_is_name : Stmt := top 3
abbrev N_is_name : List Str := ["value", "letter"]
abbrev s_is_copy : Stmt := top 8
abbrev N_is_copy : List Str := ["value", "word", "source", "target"]
abbrev s_is_script : Stmt := top 9
abbrev N_is_script : List Str := ["value", "copy"]
abbrev s__law_jar : Stmt := top 11
abbrev N__law_jar : List Str := ["cells", "k", "cell"]
abbrev s__law_dip : Stmt := top 12
abbrev N__law_dip : List Str := ["jar", "many", "mixed", "digit"]
abbrev s__law_names : Stmt := top 13
abbrev N__law_names : List Str := ["jar", "many", "left", "found", "turn", "size", "front", "step"]
abbrev s__law_plan : Stmt := top 14
abbrev N__law_plan : List Str := ["jar", "names_here", "most", "many", "way", "found", "turn", "one", "two", "word"]
abbrev s__law_is_copy : Stmt := top 15
abbrev N__law_is_copy : List Str := ["thing", "one", "sign"]
abbrev s__law_odd : Stmt := top 16
abbrev N__law_odd : List Str := ["jar", "one", "word", "source", "target", "odd", "some"]
abbrev s_law : Stmt := top 17
abbrev N_law : List Str := ["script", "k", "full", "jar", "plan", "values", "turn", "thing", "at", "odd", "kept", "good", "told", "one"]
section
variable {P : Program} {w : World} {K : PySem.W.Frag} {mg : Str → Option Value} {base : Heap}
theorem sc_is_name : FnScope N_is_name ["value"] (defScope s_is_name) := ⟨rfl, rfl, rfl, by decide +kernel, rfl, by decide +kernel, by decide +kernel⟩
theorem b_is_name (G : Glb mg) {f : Addr} {cd : Value} {A : Around} {outer : List Env} {s : Shared} {H F : Hp} {E : XK} {fp : List Addr} {vs : List V} {W : WX} (hr : Room 0 (A.deeper (envOfC "is_name" (defScope s_is_name) s.heap.objs.size f cd))) (ok : Ok1 (DCx P w K mg base N_is_name "is_name" s_is_name f cd A outer s H E)) :
    DB (DCx P w K mg base N_is_name "is_name" s_is_name f cd A outer s H E) (entS H F fp none vs) W (defBody s_is_name) m_is_name :=
    (db_cons (ds_if (DW.t (dw_or (dt_not (dt_val (de_isI ty_str (do_plc (i := 0)) G.n_isinstance G.n_str (by rfl) (by rfl)))) (dw_or1 (dt_not (dt_chain op_leA op_leA (os_ord _ _) (os_ord _ _) (do_own de_int) (do_own (de_callB (callr_or call_len call_lenR) os_lenAny (DAs.cons (do_plc (i := 0)) DAs.nil) G.n_len (by rfl))) (do_own (de_globIe G.c_MOST_LETTERS))))))) (db_one (ds_ret de_bl)) db_nil)
      (db_one (ds_ret (de_callB (cr_all ok.calm) os_allB (DAs.cons (do_own (de_lc (own := [("letter", 1)]) ok.calm ok.nd (di_opd (do_val (de_var (i := 0)))) (by rfl) (fun s H C cl fp => (pg_name (i := 1) ok.blk.nd rfl (by first | exact Or.inl rfl | exact Or.inr rfl))) (gs_name (i := 1) (ent_pins (by decide)) (by decide)) (ent_pinsL (by decide)) (fun s H C cl fp => (de_cmp (op_inAny ok.blk) (os_inAny _) (do_plc (i := 1)) (do_own (de_globSe G.c_LETTERS)))))) DAs.nil) G.n_all (by rfl)))))
theorem g_is_name (G : Glb mg) (hs : ∃ o, base.get? sysModules = some o) {f : Addr} {kV doc pm cdv ct oc : Value} {an od : Option Addr} {osl : Array (Option Value)}
    (lk : K.lookup f = some ⟨oc, od, .func (PySem.W.fnOf "is_name" "is_name" (defArgs s_is_name) (defBody s_is_name) (defScope s_is_name) .none kV doc pm an cdv ct), osl⟩) (hcd : PySem.W.codeIn K cdv "is_name" = true) :
    FnG P w K mg base CX0 1 f (PySem.W.fnOf "is_name" "is_name" (defArgs s_is_name) (defBody s_is_name) (defScope s_is_name) .none kV doc pm an cdv ct) ["value"] (spD K mg 1 none f_is_name) :=
  cald0 (k := 0) lk hcd sc_is_name (by decide) fun A outer s H vs E F os fp hg hr _ _ _ _ => b_is_name G hr (ok1_of sc_is_name.nd hg hr hs)
theorem sc_is_copy : FnScope N_is_copy ["value"] (defScope s_is_copy) := ⟨rfl, rfl, rfl, by decide +kernel, rfl, by decide +kernel, by decide +kernel⟩
theorem b_is_copy (G : Glb mg) (c_is_name : CalD P w K mg base CX0 1 "is_name" ["value"] none f_is_name) {f : Addr} {cd : Value} {A : Around} {outer : List Env} {s : Shared} {H F : Hp} {E : XK} {fp : List Addr} {vs : List V} {W : WX} (hr : Room 1 (A.deeper (envOfC "is_copy" (defScope s_is_copy) s.heap.objs.size f cd))) (ok : Ok1 (DCx P w K mg base N_is_copy "is_copy" s_is_copy f cd A outer s H E)) :
    DB (DCx P w K mg base N_is_copy "is_copy" s_is_copy f cd A outer s H E) (entS H F fp none vs) W (defBody s_is_copy) m_is_copy :=
    (db_cons (ds_if (DW.t (dw_or (dt_not (dt_val (de_isI ty_tuple (do_plc (i := 0)) G.n_isinstance G.n_tuple (by rfl) (by rfl)))) (dw_or (dt_cmp (op_neP ok) os_ne (do_own (de_callB (callr_or call_len call_lenR) os_lenAny (DAs.cons (do_plc (i := 0)) DAs.nil) G.n_len (by rfl))) (do_own de_int)) (dw_or1 (dt_not (dt_val (de_isI ty_str (do_own (de_ix (ix_any ok) os_ixAny (do_plc (i := 0)) (do_own de_int))) G.n_isinstance G.n_str (by rfl) (by rfl)))))))) (db_one (ds_ret de_bl)) db_nil)
      (db_cons (ds_asg (vs := [1, 2, 3]) (de_var (i := 0)) (pg_tup ok.calm (pgs_cons (pg_name (i := 1) ok.nd rfl (by first | exact Or.inl rfl | exact Or.inr rfl)) (pgs_cons (pg_name (i := 2) ok.nd rfl (by first | exact Or.inl rfl | exact Or.inr rfl)) (pgs_cons (pg_name (i := 3) ok.nd rfl (by first | exact Or.inl rfl | exact Or.inr rfl)) pgs_nil)))) (gs_tup rfl (gs_cons (gs_name (i := 1) (ent_pins (by decide)) (by decide)) (gs_cons (gs_name (i := 2) (ent_pins (by decide)) (by decide)) (gs_cons (gs_name (i := 3) (ent_pins (by decide)) (by decide)) gs_nil)))))
      (db_one (ds_ret (de_and (de_cmp (op_inAny ok) (os_inAny _) (do_plc (i := 1)) (do_own (de_tup (DAs.cons (do_val (de_globSe G.c_OVER)) (DAs.cons (do_val (de_globSe G.c_SKIP)) DAs.nil))))) (de_and (de_call c_is_name (hr.mono (by decide)) ok.grd (fun _ => passC0) (DAs.cons (do_val (de_var (i := 2))) DAs.nil) rfl) (de_and (de_call c_is_name (hr.mono (by decide)) ok.grd (fun _ => passC0) (DAs.cons (do_val (de_var (i := 3))) DAs.nil) rfl) (de_one (de_cmp (op_neP ok) os_ne (do_plc (i := 2)) (do_plc (i := 3)))))))))))
theorem g_is_copy (G : Glb mg) (c_is_name : CalD P w K mg base CX0 1 "is_name" ["value"] none f_is_name) (hs : ∃ o, base.get? sysModules = some o) {f : Addr} {kV doc pm cdv ct oc : Value} {an od : Option Addr} {osl : Array (Option Value)}
    (lk : K.lookup f = some ⟨oc, od, .func (PySem.W.fnOf "is_copy" "is_copy" (defArgs s_is_copy) (defBody s_is_copy) (defScope s_is_copy) .none kV doc pm an cdv ct), osl⟩) (hcd : PySem.W.codeIn K cdv "is_copy" = true) :
    FnG P w K mg base CX0 2 f (PySem.W.fnOf "is_copy" "is_copy" (defArgs s_is_copy) (defBody s_is_copy) (defScope s_is_copy) .none kV doc pm an cdv ct) ["value"] (spD K mg 1 none f_is_copy) :=
  cald0 (k := 1) lk hcd sc_is_copy (by decide) fun A outer s H vs E F os fp hg hr _ _ _ _ => b_is_copy G c_is_name hr (ok1_of sc_is_copy.nd hg hr hs)
theorem sc_is_script : FnScope N_is_script ["value"] (defScope s_is_script) := ⟨rfl, rfl, rfl, by decide +kernel, rfl, by decide +kernel, by decide +kernel⟩
theorem b_is_script (G : Glb mg) (c_is_copy : CalD P w K mg base CX0 2 "is_copy" ["value"] none f_is_copy) {f : Addr} {cd : Value} {A : Around} {outer : List Env} {s : Shared} {H F : Hp} {E : XK} {fp : List Addr} {vs : List V} {W : WX} (hr : Room 2 (A.deeper (envOfC "is_script" (defScope s_is_script) s.heap.objs.size f cd))) (ok : Ok1 (DCx P w K mg base N_is_script "is_script" s_is_script f cd A outer s H E)) :
    DB (DCx P w K mg base N_is_script "is_script" s_is_script f cd A outer s H E) (entS H F fp none vs) W (defBody s_is_script) m_is_script :=
    (db_one (ds_ret (de_and (de_isI ty_tuple (do_plc (i := 0)) G.n_isinstance G.n_tuple (by rfl) (by rfl)) (de_and (de_cmp op_leA (os_ord _ _) (do_own (de_callB (callr_or call_len call_lenR) os_lenAny (DAs.cons (do_plc (i := 0)) DAs.nil) G.n_len (by rfl))) (do_own (de_globIe G.c_MOST_COPIES))) (de_one (de_callB (cr_all ok.calm) os_allB (DAs.cons (do_own (de_lc (own := [("copy", 1)]) ok.calm ok.nd (di_opd (do_val (de_var (i := 0)))) (by rfl) (fun s H C cl fp => (pg_name (i := 1) ok.blk.nd rfl (by first | exact Or.inl rfl | exact Or.inr rfl))) (gs_name (i := 1) (ent_pins (by decide)) (by decide)) (ent_pinsL (by decide)) (fun s H C cl fp => (de_call c_is_copy (hr.mono (by decide)) ok.blk.grd (fun _ => passC0) (DAs.cons (do_val (de_var (i := 1))) DAs.nil) rfl)))) DAs.nil) G.n_all (by rfl)))))))
theorem g_is_script (G : Glb mg) (c_is_copy : CalD P w K mg base CX0 2 "is_copy" ["value"] none f_is_copy) (hs : ∃ o, base.get? sysModules = some o) {f : Addr} {kV doc pm cdv ct oc : Value} {an od : Option Addr} {osl : Array (Option Value)}
    (lk : K.lookup f = some ⟨oc, od, .func (PySem.W.fnOf "is_script" "is_script" (defArgs s_is_script) (defBody s_is_script) (defScope s_is_script) .none kV doc pm an cdv ct), osl⟩) (hcd : PySem.W.codeIn K cdv "is_script" = true) :
    FnG P w K mg base CX0 3 f (PySem.W.fnOf "is_script" "is_script" (defArgs s_is_script) (defBody s_is_script) (defScope s_is_script) .none kV doc pm an cdv ct) ["value"] (spD K mg 1 none f_is_script) :=
  cald0 (k := 2) lk hcd sc_is_script (by decide) fun A outer s H vs E F os fp hg hr _ _ _ _ => b_is_script G c_is_copy hr (ok1_of sc_is_script.nd hg hr hs)
theorem sc__law_jar : FnScope N__law_jar ["cells", "k"] (defScope s__law_jar) := ⟨rfl, rfl, rfl, by decide +kernel, rfl, by decide +kernel, by decide +kernel⟩
theorem b__law_jar (G : Glb mg) {f : Addr} {cd : Value} {A : Around} {outer : List Env} {s : Shared} {H F : Hp} {E : XK} {fp : List Addr} {vs : List V} {W : WX} (hr : Room 0 (A.deeper (envOfC "_law_jar" (defScope s__law_jar) s.heap.objs.size f cd))) (ok : Ok1 (DCx P w K mg base N__law_jar "_law_jar" s__law_jar f cd A outer s H E)) :
    DB (DCx P w K mg base N__law_jar "_law_jar" s__law_jar f cd A outer s H E) (entS H F fp none vs) W (defBody s__law_jar) m__law_jar :=
    (db_cons (ds_set (i := 2) (de_if (dt_cmp op_ltA (os_ord _ _) (do_plc (i := 1)) (do_own (de_callB (callr_or call_len call_lenR) os_lenAny (DAs.cons (do_plc (i := 0)) DAs.nil) G.n_len (by rfl)))) (de_ix (ix_any ok) os_ixAny (do_plc (i := 0)) (do_plc (i := 1))) de_int) ok.nd (ent_pins (by decide)))
      (db_one (ds_ret (de_list (DAs.cons (do_val (de_callB (call_max2 ok.calm) os_max2 (DAs.cons (do_own de_int) (DAs.cons (do_own (de_op2 op_sub os_sub (do_own (de_callB call_abs os_abs (DAs.cons (do_plc (i := 2)) DAs.nil) G.n_abs (by rfl))) (do_own (de_op2 op_powW os_pow (do_own de_int) (do_own de_int))))) DAs.nil)) G.n_max (by rfl))) (DAs.cons (do_val (de_op2 op_mod os_mod (do_own (de_op2 op_addAll os_add (do_own (de_op2 op_addAll os_add (do_own (de_op2 op_mulAll os_mul (do_plc (i := 2)) (do_own de_int))) (do_own (de_op2 op_mulAll os_mul (do_own de_int) (do_plc (i := 1)))))) (do_own de_int))) (do_own (de_op2 op_addAll os_add (do_own (de_op2 op_powW os_pow (do_own de_int) (do_own de_int))) (do_own de_int))))) (DAs.cons (do_val de_int) DAs.nil)))))))
theorem g__law_jar (G : Glb mg) (hs : ∃ o, base.get? sysModules = some o) {f : Addr} {kV doc pm cdv ct oc : Value} {an od : Option Addr} {osl : Array (Option Value)}
    (lk : K.lookup f = some ⟨oc, od, .func (PySem.W.fnOf "_law_jar" "_law_jar" (defArgs s__law_jar) (defBody s__law_jar) (defScope s__law_jar) .none kV doc pm an cdv ct), osl⟩) (hcd : PySem.W.codeIn K cdv "_law_jar" = true) :
    FnG P w K mg base CX0 1 f (PySem.W.fnOf "_law_jar" "_law_jar" (defArgs s__law_jar) (defBody s__law_jar) (defScope s__law_jar) .none kV doc pm an cdv ct) ["cells", "k"] (spD K mg 2 none f__law_jar) :=
  cald0 (k := 0) lk hcd sc__law_jar (by decide) fun A outer s H vs E F os fp hg hr _ _ _ _ => b__law_jar G hr (ok1_of sc__law_jar.nd hg hr hs)
theorem sc__law_dip : FnScope N__law_dip ["jar", "many"] (defScope s__law_dip) := ⟨rfl, rfl, rfl, by decide +kernel, rfl, by decide +kernel, by decide +kernel⟩
theorem b__law_dip (G : Glb mg) {f : Addr} {cd : Value} {A : Around} {outer : List Env} {s : Shared} {H F : Hp} {E : XK} {fp : List Addr} {vs : List V} {W : WX} (hr : Room 0 (A.deeper (envOfC "_law_dip" (defScope s__law_dip) s.heap.objs.size f cd))) (ok : Ok1 (DCx P w K mg base N__law_dip "_law_dip" s__law_dip f cd A outer s H E)) :
    DB (DCx P w K mg base N__law_dip "_law_dip" s__law_dip f cd A outer s H E) (entS H F fp (some 0) vs) W (defBody s__law_dip) m__law_dip :=
    (db_cons (ds_if (dt_cmp op_gtA (os_ord _ _) (do_own (de_ix (ix_any ok) os_ixAny (do_plc (i := 0)) (do_own de_int))) (do_own de_int)) (db_cons (ds_set (i := 3) (de_op2 op_mod os_mod (do_own (de_ix (ix_any ok) os_ixAny (do_plc (i := 0)) (do_own de_int))) (do_plc (i := 1))) ok.nd (ent_pins (by decide)))
      (db_cons (ds_setL (i := 0) (do_own (de_op2 op_fdivW os_fdiv (do_own (de_ix (ix_any ok) os_ixAny (do_plc (i := 0)) (do_own de_int))) (do_plc (i := 1)))) (do_own de_int))
      (db_one (ds_ret (de_move (i := 3)))))) db_nil)
      (db_cons (ds_setL (i := 0) (do_own (de_op2 op_addAll os_add (do_own (de_ix (ix_any ok) os_ixAny (do_plc (i := 0)) (do_own de_int))) (do_own de_int))) (do_own de_int))
      (db_cons (ds_set (i := 2) (de_op2 op_mod os_mod (do_own (de_op2 op_powW os_pow (do_own (de_op2 op_addAll os_add (do_own (de_ix (ix_any ok) os_ixAny (do_plc (i := 0)) (do_own de_int))) (do_own (de_op2 op_mulAll os_mul (do_own de_int) (do_own (de_ix (ix_any ok) os_ixAny (do_plc (i := 0)) (do_own de_int))))))) (do_own de_int))) (do_own (de_op2 op_addAll os_add (do_own (de_op2 op_powW os_pow (do_own de_int) (do_own de_int))) (do_own de_int)))) ok.nd (ent_pins (by decide)))
      (db_cons (ds_set (i := 2) (de_op2 op_mod os_mod (do_own (de_op2 op_powW os_pow (do_own (de_op2 op_addAll os_add (do_plc (i := 2)) (do_own (de_op2 op_mulAll os_mul (do_own de_int) (do_own (de_ix (ix_any ok) os_ixAny (do_plc (i := 0)) (do_own de_int))))))) (do_own de_int))) (do_own (de_op2 op_addAll os_add (do_own (de_op2 op_powW os_pow (do_own de_int) (do_own de_int))) (do_own de_int)))) ok.nd (ent_pins (by decide)))
      (db_one (ds_ret (de_op2 op_mod os_mod (do_own (de_op2 op_fdivW os_fdiv (do_plc (i := 2)) (do_own (de_op2 op_powW os_pow (do_own de_int) (do_own de_int))))) (do_plc (i := 1)))))))))
theorem g__law_dip (G : Glb mg) (hs : ∃ o, base.get? sysModules = some o) {f : Addr} {kV doc pm cdv ct oc : Value} {an od : Option Addr} {osl : Array (Option Value)}
    (lk : K.lookup f = some ⟨oc, od, .func (PySem.W.fnOf "_law_dip" "_law_dip" (defArgs s__law_dip) (defBody s__law_dip) (defScope s__law_dip) .none kV doc pm an cdv ct), osl⟩) (hcd : PySem.W.codeIn K cdv "_law_dip" = true) :
    FnG P w K mg base CX0 1 f (PySem.W.fnOf "_law_dip" "_law_dip" (defArgs s__law_dip) (defBody s__law_dip) (defScope s__law_dip) .none kV doc pm an cdv ct) ["jar", "many"] (spD K mg 2 (some 0) f__law_dip) :=
  cald0 (k := 0) lk hcd sc__law_dip (by decide) fun A outer s H vs E F os fp hg hr _ _ _ _ => b__law_dip G hr (ok1_of sc__law_dip.nd hg hr hs)
theorem sc__law_names : FnScope N__law_names ["jar", "many"] (defScope s__law_names) := ⟨rfl, rfl, rfl, by decide +kernel, rfl, by decide +kernel, by decide +kernel⟩
theorem b__law_names (G : Glb mg) (c__law_dip : CalD P w K mg base CX0 1 "_law_dip" ["jar", "many"] (some 0) f__law_dip) {f : Addr} {cd : Value} {A : Around} {outer : List Env} {s : Shared} {H F : Hp} {E : XK} {fp : List Addr} {vs : List V} {W : WX} (hr : Room 1 (A.deeper (envOfC "_law_names" (defScope s__law_names) s.heap.objs.size f cd))) (ok : Ok1 (DCx P w K mg base N__law_names "_law_names" s__law_names f cd A outer s H E)) :
    DB (DCx P w K mg base N__law_names "_law_names" s__law_names f cd A outer s H E) (entS H F fp (some 0) vs) W (defBody s__law_names) m__law_names :=
    (db_cons (ds_par (i := 2) (j := 3) ok.calm (DAs.cons (do_own (de_callTy (callr_or call_list_of (cr_listStr ok.calm)) os_listAny (DAs.cons (do_own (de_str (by decide))) DAs.nil) G.n_list (by rfl))) (DAs.cons (do_own (de_list DAs.nil)) DAs.nil)) ok.nd (ent_pinsL (by decide)) (by decide))
      (db_cons (ds_for (vs := [4]) PassesOwn.never ok.calm (di_range1 (DAs.cons (do_plc (i := 1)) DAs.nil) G.n_range) (pg_name (i := 4) ok.nd rfl (by first | exact Or.inl rfl | exact Or.inr rfl)) (gs_name (i := 4) (ent_pins (by decide)) (by decide)) (db_cons (ds_set (i := 5) (de_ix (ix_any ok) os_ixAny (do_own (de_list (DAs.cons (do_val de_int) (DAs.cons (do_val de_int) (DAs.cons (do_val de_int) (DAs.cons (do_val de_int) DAs.nil)))))) (do_own (de_callIo c__law_dip (hr.mono (by decide)) ok.grd (fun _ => passC0) (DAs.cons (do_plc (i := 0)) (DAs.cons (do_val de_int) DAs.nil)) rfl))) ok.nd (ent_pins (by decide)))
      (db_cons (ds_set (i := 6) (de_join (do_own (de_str (by decide))) (DAs.cons (do_own (de_lc (own := [("step", 7)]) ok.calm ok.nd (di_range1 (DAs.cons (do_plc (i := 5)) DAs.nil) G.n_range) (by rfl) (fun s H C cl fp => (pg_name (i := 7) ok.blk.nd rfl (by first | exact Or.inl rfl | exact Or.inr rfl))) (gs_name (i := 7) (ent_pins (by decide)) (by decide)) (ent_pinsL (by decide)) (fun s H C cl fp => (de_ix (ix_any ok.blk) os_ixAny (do_own (de_str (by decide))) (do_own (de_callIo c__law_dip (hr.mono (by decide)) ok.blk.grd (fun _ => passC0) (DAs.cons (do_plc (i := 0)) (DAs.cons (do_val de_int) DAs.nil)) rfl)))))) DAs.nil)) ok.nd (ent_pins (by decide)))
      (db_one (ds_expr (de_append (i := 3) (do_own (de_op2 op_addAll os_add (do_plc (i := 6)) (do_own (de_popAt (i := 2) (do_own (de_callIo c__law_dip (hr.mono (by decide)) ok.grd (fun _ => passC0) (DAs.cons (do_plc (i := 0)) (DAs.cons (do_val (de_callB (callr_or call_len call_lenR) os_lenAny (DAs.cons (do_plc (i := 2)) DAs.nil) G.n_len (by rfl))) DAs.nil)) rfl))))))))))))
      (db_one (ds_ret (de_callTy (callr_or call_tuple_of (cr_tupStr ok.calm)) os_tupAny (DAs.cons (do_plc (i := 3)) DAs.nil) G.n_tuple (by rfl))))))
theorem g__law_names (G : Glb mg) (c__law_dip : CalD P w K mg base CX0 1 "_law_dip" ["jar", "many"] (some 0) f__law_dip) (hs : ∃ o, base.get? sysModules = some o) {f : Addr} {kV doc pm cdv ct oc : Value} {an od : Option Addr} {osl : Array (Option Value)}
    (lk : K.lookup f = some ⟨oc, od, .func (PySem.W.fnOf "_law_names" "_law_names" (defArgs s__law_names) (defBody s__law_names) (defScope s__law_names) .none kV doc pm an cdv ct), osl⟩) (hcd : PySem.W.codeIn K cdv "_law_names" = true) :
    FnG P w K mg base CX0 2 f (PySem.W.fnOf "_law_names" "_law_names" (defArgs s__law_names) (defBody s__law_names) (defScope s__law_names) .none kV doc pm an cdv ct) ["jar", "many"] (spD K mg 2 (some 0) f__law_names) :=
  cald0 (k := 1) lk hcd sc__law_names (by decide) fun A outer s H vs E F os fp hg hr _ _ _ _ => b__law_names G c__law_dip hr (ok1_of sc__law_names.nd hg hr hs)
theorem sc__law_plan : FnScope N__law_plan ["jar", "names_here", "most"] (defScope s__law_plan) := ⟨rfl, rfl, rfl, by decide +kernel, rfl, by decide +kernel, by decide +kernel⟩
theorem b__law_plan (G : Glb mg) (c__law_dip : CalD P w K mg base CX0 1 "_law_dip" ["jar", "many"] (some 0) f__law_dip) {f : Addr} {cd : Value} {A : Around} {outer : List Env} {s : Shared} {H F : Hp} {E : XK} {fp : List Addr} {vs : List V} {W : WX} (hr : Room 1 (A.deeper (envOfC "_law_plan" (defScope s__law_plan) s.heap.objs.size f cd))) (ok : Ok1 (DCx P w K mg base N__law_plan "_law_plan" s__law_plan f cd A outer s H E)) :
    DB (DCx P w K mg base N__law_plan "_law_plan" s__law_plan f cd A outer s H E) (entS H F fp (some 0) vs) W (defBody s__law_plan) m__law_plan :=
    (db_cons (ds_par3 (i := 3) (j := 4) (l := 5) ok.calm (DAs.cons (do_own (de_callB (callr_or call_len call_lenR) os_lenAny (DAs.cons (do_plc (i := 1)) DAs.nil) G.n_len (by rfl))) (DAs.cons (do_own (de_callIo c__law_dip (hr.mono (by decide)) ok.grd (fun _ => passC0) (DAs.cons (do_plc (i := 0)) (DAs.cons (do_val de_int) DAs.nil)) rfl)) (DAs.cons (do_own (de_list DAs.nil)) DAs.nil))) ok.nd (ent_pinsL (by decide)) (by decide) (by decide) (by decide))
      (db_cons (ds_for (vs := [6]) PassesOwn.never ok.calm (di_range1 (DAs.cons (do_own (de_op2 op_mulAll os_mul (do_own (de_callIo c__law_dip (hr.mono (by decide)) ok.grd (fun _ => passC0) (DAs.cons (do_plc (i := 0)) (DAs.cons (do_val (de_op2 op_addAll os_add (do_plc (i := 2)) (do_own de_int))) DAs.nil)) rfl)) (do_own (de_callTy call_int1 os_int (DAs.cons (do_own (de_cmp op_gtA (os_ord _ _) (do_plc (i := 3)) (do_own de_int))) DAs.nil) G.n_int (by rfl))))) DAs.nil) G.n_range) (pg_name (i := 6) ok.nd rfl (by first | exact Or.inl rfl | exact Or.inr rfl)) (gs_name (i := 6) (ent_pins (by decide)) (by decide)) (db_cons (ds_par (i := 7) (j := 8) ok.calm (DAs.cons (do_own (de_callIo c__law_dip (hr.mono (by decide)) ok.grd (fun _ => passC0) (DAs.cons (do_plc (i := 0)) (DAs.cons (do_val (de_var (i := 3))) DAs.nil)) rfl)) (DAs.cons (do_own (de_callIo c__law_dip (hr.mono (by decide)) ok.grd (fun _ => passC0) (DAs.cons (do_plc (i := 0)) (DAs.cons (do_val (de_var (i := 3))) DAs.nil)) rfl)) DAs.nil)) ok.nd (ent_pinsL (by decide)) (by decide))
      (db_cons (ds_if (dt_cmp (op_eqP ok) os_eq (do_plc (i := 4)) (do_own de_int)) (db_one (ds_par (i := 7) (j := 8) ok.calm (DAs.cons (do_own (de_op2 op_mod os_mod (do_own (de_op2 op_addAll os_add (do_plc (i := 6)) (do_own de_int))) (do_plc (i := 3)))) (DAs.cons (do_own (de_op2 op_mod os_mod (do_plc (i := 6)) (do_plc (i := 3)))) DAs.nil)) ok.nd (ent_pinsL (by decide)) (by decide))) db_nil)
      (db_cons (ds_if (dt_cmp (op_eqP ok) os_eq (do_plc (i := 4)) (do_own de_int)) (db_one (ds_set (i := 8) de_int ok.nd (ent_pins (by decide)))) db_nil)
      (db_cons (ds_if (dt_cmp (op_eqP ok) os_eq (do_plc (i := 4)) (do_own de_int)) (db_one (ds_set (i := 7) de_int ok.nd (ent_pins (by decide)))) db_nil)
      (db_cons (ds_if (dt_cmp (op_eqP ok) os_eq (do_plc (i := 4)) (do_own de_int)) (db_one (ds_par (i := 7) (j := 8) ok.calm (DAs.cons (do_own (de_callIo c__law_dip (hr.mono (by decide)) ok.grd (fun _ => passC0) (DAs.cons (do_plc (i := 0)) (DAs.cons (do_val (de_callB (call_min2 ok.calm) os_min2 (DAs.cons (do_plc (i := 3)) (DAs.cons (do_own de_int) DAs.nil)) G.n_min (by rfl))) DAs.nil)) rfl)) (DAs.cons (do_own (de_callIo c__law_dip (hr.mono (by decide)) ok.grd (fun _ => passC0) (DAs.cons (do_plc (i := 0)) (DAs.cons (do_val (de_callB (call_min2 ok.calm) os_min2 (DAs.cons (do_plc (i := 3)) (DAs.cons (do_own de_int) DAs.nil)) G.n_min (by rfl))) DAs.nil)) rfl)) DAs.nil)) ok.nd (ent_pinsL (by decide)) (by decide))) db_nil)
      (db_cons (ds_set (i := 8) (de_if (dt_cmp (op_neP ok) os_ne (do_plc (i := 8)) (do_plc (i := 7))) (de_var (i := 8)) (de_op2 op_mod os_mod (do_own (de_op2 op_addAll os_add (do_plc (i := 7)) (do_own de_int))) (do_plc (i := 3)))) ok.nd (ent_pins (by decide)))
      (db_cons (ds_set (i := 9) (de_ix (ix_any ok) os_ixAny (do_own (de_list (DAs.cons (do_val (de_str (by decide))) (DAs.cons (do_val (de_str (by decide))) DAs.nil)))) (do_own (de_ix (ix_any ok) os_ixAny (do_own (de_list (DAs.cons (do_val (de_callIo c__law_dip (hr.mono (by decide)) ok.grd (fun _ => passC0) (DAs.cons (do_plc (i := 0)) (DAs.cons (do_val de_int) DAs.nil)) rfl)) (DAs.cons (do_val de_int) (DAs.cons (do_val (de_callTy call_int1 os_int (DAs.cons (do_own (de_cmp (op_eqP ok) os_eq (do_own (de_op2 op_mod os_mod (do_plc (i := 6)) (do_own de_int))) (do_own de_int))) DAs.nil) G.n_int (by rfl))) DAs.nil))))) (do_own (de_op2 op_mod os_mod (do_plc (i := 4)) (do_own de_int)))))) ok.nd (ent_pins (by decide)))
      (db_one (ds_expr (de_append (i := 5) (do_own (de_tup (DAs.cons (do_val (de_var (i := 9))) (DAs.cons (do_val (de_ix (ix_any ok) os_ixAny (do_plc (i := 1)) (do_plc (i := 7)))) (DAs.cons (do_val (de_ix (ix_any ok) os_ixAny (do_plc (i := 1)) (do_plc (i := 8)))) DAs.nil))))))))))))))))
      (db_one (ds_ret (de_callTy (callr_or call_tuple_of (cr_tupStr ok.calm)) os_tupAny (DAs.cons (do_plc (i := 5)) DAs.nil) G.n_tuple (by rfl))))))
theorem g__law_plan (G : Glb mg) (c__law_dip : CalD P w K mg base CX0 1 "_law_dip" ["jar", "many"] (some 0) f__law_dip) (hs : ∃ o, base.get? sysModules = some o) {f : Addr} {kV doc pm cdv ct oc : Value} {an od : Option Addr} {osl : Array (Option Value)}
    (lk : K.lookup f = some ⟨oc, od, .func (PySem.W.fnOf "_law_plan" "_law_plan" (defArgs s__law_plan) (defBody s__law_plan) (defScope s__law_plan) .none kV doc pm an cdv ct), osl⟩) (hcd : PySem.W.codeIn K cdv "_law_plan" = true) :
    FnG P w K mg base CX0 2 f (PySem.W.fnOf "_law_plan" "_law_plan" (defArgs s__law_plan) (defBody s__law_plan) (defScope s__law_plan) .none kV doc pm an cdv ct) ["jar", "names_here", "most"] (spD K mg 3 (some 0) f__law_plan) :=
  cald0 (k := 1) lk hcd sc__law_plan (by decide) fun A outer s H vs E F os fp hg hr _ _ _ _ => b__law_plan G c__law_dip hr (ok1_of sc__law_plan.nd hg hr hs)
theorem sc__law_is_copy : FnScope N__law_is_copy ["thing"] (defScope s__law_is_copy) := ⟨rfl, rfl, rfl, by decide +kernel, rfl, by decide +kernel, by decide +kernel⟩
theorem b__law_is_copy (G : Glb mg) {f : Addr} {cd : Value} {A : Around} {outer : List Env} {s : Shared} {H F : Hp} {E : XK} {fp : List Addr} {vs : List V} {W : WX} (hr : Room 0 (A.deeper (envOfC "_law_is_copy" (defScope s__law_is_copy) s.heap.objs.size f cd))) (ok : Ok1 (DCx P w K mg base N__law_is_copy "_law_is_copy" s__law_is_copy f cd A outer s H E)) :
    DB (DCx P w K mg base N__law_is_copy "_law_is_copy" s__law_is_copy f cd A outer s H E) (entS H F fp none vs) W (defBody s__law_is_copy) m__law_is_copy :=
    (db_cons (ds_if (DW.t (dw_or (dt_not (dt_val (de_isI ty_tuple (do_plc (i := 0)) G.n_isinstance G.n_tuple (by rfl) (by rfl)))) (dw_or (dt_cmp (op_neP ok) os_ne (do_own (de_callB (callr_or call_len call_lenR) os_lenAny (DAs.cons (do_plc (i := 0)) DAs.nil) G.n_len (by rfl))) (do_own de_int)) (dw_or1 (dt_cmp (op_neP ok) os_ne (do_own (de_lcIf (own := [("one", 1)]) ok.calm ok.nd (di_opd (do_val (de_var (i := 0)))) (by rfl) (fun s H C cl fp => (pg_name (i := 1) ok.blk.nd rfl (by first | exact Or.inl rfl | exact Or.inr rfl))) (gs_name (i := 1) (ent_pins (by decide)) (by decide)) (ent_pinsL (by decide)) (fun s H C cl fp => (dt_not (dt_val (de_isI ty_str (do_plc (i := 1)) G.n_isinstance G.n_str (by rfl) (by rfl))))) (fun s H C cl fp => (de_var (i := 1))))) (do_own (de_list DAs.nil))))))) (db_one (ds_ret de_bl)) db_nil)
      (db_cons (ds_for (vs := [1]) PassesOwn.never ok.calm (di_opd (do_val (de_slL (do_plc (i := 0)) (do_own de_int)))) (pg_name (i := 1) ok.nd rfl (by first | exact Or.inl rfl | exact Or.inr rfl)) (gs_name (i := 1) (ent_pins (by decide)) (by decide)) (db_one (ds_if (DW.t (dw_or (dt_not (dt_chain op_leA op_leA (os_ord _ _) (os_ord _ _) (do_own de_int) (do_own (de_callB (callr_or call_len call_lenR) os_lenAny (DAs.cons (do_plc (i := 1)) DAs.nil) G.n_len (by rfl))) (do_own de_int))) (dw_or1 (dt_cmp (op_neP ok) os_ne (do_own (de_lcIf (own := [("sign", 2)]) ok.calm ok.nd (di_opd (do_val (de_var (i := 1)))) (by rfl) (fun s H C cl fp => (pg_name (i := 2) ok.blk.nd rfl (by first | exact Or.inl rfl | exact Or.inr rfl))) (gs_name (i := 2) (ent_pins (by decide)) (by decide)) (ent_pinsL (by decide)) (fun s H C cl fp => (dt_cmp (op_notInAny ok.blk) (os_inAny _) (do_plc (i := 2)) (do_own (de_str (by decide))))) (fun s H C cl fp => (de_var (i := 2))))) (do_own (de_list DAs.nil)))))) (db_one (ds_ret de_bl)) db_nil)))
      (db_one (ds_ret (de_and (de_cmp (op_inAny ok) (os_inAny _) (do_own (de_ix (ix_any ok) os_ixAny (do_plc (i := 0)) (do_own de_int))) (do_own (de_tup (DAs.cons (do_val (de_str (by decide))) (DAs.cons (do_val (de_str (by decide))) DAs.nil))))) (de_one (de_cmp (op_neP ok) os_ne (do_own (de_ix (ix_any ok) os_ixAny (do_plc (i := 0)) (do_own de_int))) (do_own (de_ix (ix_any ok) os_ixAny (do_plc (i := 0)) (do_own de_int))))))))))
theorem g__law_is_copy (G : Glb mg) (hs : ∃ o, base.get? sysModules = some o) {f : Addr} {kV doc pm cdv ct oc : Value} {an od : Option Addr} {osl : Array (Option Value)}
    (lk : K.lookup f = some ⟨oc, od, .func (PySem.W.fnOf "_law_is_copy" "_law_is_copy" (defArgs s__law_is_copy) (defBody s__law_is_copy) (defScope s__law_is_copy) .none kV doc pm an cdv ct), osl⟩) (hcd : PySem.W.codeIn K cdv "_law_is_copy" = true) :
    FnG P w K mg base CX0 1 f (PySem.W.fnOf "_law_is_copy" "_law_is_copy" (defArgs s__law_is_copy) (defBody s__law_is_copy) (defScope s__law_is_copy) .none kV doc pm an cdv ct) ["thing"] (spD K mg 1 none f__law_is_copy) :=
  cald0 (k := 0) lk hcd sc__law_is_copy (by decide) fun A outer s H vs E F os fp hg hr _ _ _ _ => b__law_is_copy G hr (ok1_of sc__law_is_copy.nd hg hr hs)
theorem sc__law_odd : FnScope N__law_odd ["jar", "one"] (defScope s__law_odd) := ⟨rfl, rfl, rfl, by decide +kernel, rfl, by decide +kernel, by decide +kernel⟩
theorem b__law_odd (G : Glb mg) (c__law_dip : CalD P w K mg base CX0 1 "_law_dip" ["jar", "many"] (some 0) f__law_dip) {f : Addr} {cd : Value} {A : Around} {outer : List Env} {s : Shared} {H F : Hp} {E : XK} {fp : List Addr} {vs : List V} {W : WX} (hr : Room 1 (A.deeper (envOfC "_law_odd" (defScope s__law_odd) s.heap.objs.size f cd))) (ok : Ok1 (DCx P w K mg base N__law_odd "_law_odd" s__law_odd f cd A outer s H E)) :
    DB (DCx P w K mg base N__law_odd "_law_odd" s__law_odd f cd A outer s H E) (entS H F fp (some 0) vs) W (defBody s__law_odd) m__law_odd :=
    (db_cons (ds_asg (vs := [2, 3, 4]) (de_var (i := 1)) (pg_tup ok.calm (pgs_cons (pg_name (i := 2) ok.nd rfl (by first | exact Or.inl rfl | exact Or.inr rfl)) (pgs_cons (pg_name (i := 3) ok.nd rfl (by first | exact Or.inl rfl | exact Or.inr rfl)) (pgs_cons (pg_name (i := 4) ok.nd rfl (by first | exact Or.inl rfl | exact Or.inr rfl)) pgs_nil)))) (gs_tup rfl (gs_cons (gs_name (i := 2) (ent_pins (by decide)) (by decide)) (gs_cons (gs_name (i := 3) (ent_pins (by decide)) (by decide)) (gs_cons (gs_name (i := 4) (ent_pins (by decide)) (by decide)) gs_nil)))))
      (db_cons (ds_set (i := 5) (de_ix (ix_any ok) os_ixAny (do_own (de_list (DAs.cons (do_val (de_str (by decide))) (DAs.cons (do_val (de_str (by decide))) (DAs.cons (do_val (de_str (by decide))) (DAs.cons (do_val (de_str (by decide))) (DAs.cons (do_val (de_str (by decide))) (DAs.cons (do_val de_non) (DAs.cons (do_val de_int) (DAs.cons (do_val de_bl) (DAs.cons (do_val (de_list (DAs.cons (do_val (de_str (by decide))) DAs.nil))) (DAs.cons (do_val (de_tup (DAs.cons (do_val (de_str (by decide))) DAs.nil))) (DAs.cons (do_val de_dict0) (DAs.cons (do_val (de_str (by decide))) (DAs.cons (do_val (de_str (by decide))) (DAs.cons (do_val (de_var (i := 3))) DAs.nil)))))))))))))))) (do_own (de_callIo c__law_dip (hr.mono (by decide)) ok.grd (fun _ => passC0) (DAs.cons (do_plc (i := 0)) (DAs.cons (do_val de_int) DAs.nil)) rfl))) ok.nd (ent_pins (by decide)))
      (db_cons (ds_set (i := 6) (de_list (DAs.cons (do_val (de_tup (DAs.cons (do_val (de_var (i := 5))) (DAs.cons (do_val (de_var (i := 3))) (DAs.cons (do_val (de_var (i := 4))) DAs.nil))))) (DAs.cons (do_val (de_tup (DAs.cons (do_val (de_var (i := 2))) (DAs.cons (do_val (de_var (i := 5))) (DAs.cons (do_val (de_var (i := 4))) DAs.nil))))) (DAs.cons (do_val (de_tup (DAs.cons (do_val (de_var (i := 2))) (DAs.cons (do_val (de_var (i := 3))) (DAs.cons (do_val (de_var (i := 5))) DAs.nil))))) (DAs.cons (do_val (de_tup (DAs.cons (do_val (de_var (i := 2))) (DAs.cons (do_val (de_var (i := 3))) DAs.nil)))) (DAs.cons (do_val (de_callTy (callr_or call_list_of (cr_listStr ok.calm)) os_listAny (DAs.cons (do_plc (i := 1)) DAs.nil) G.n_list (by rfl))) DAs.nil)))))) ok.nd (ent_pins (by decide)))
      (db_cons (ds_set (i := 6) (de_op2 op_addAll os_add (do_plc (i := 6)) (do_own (de_list (DAs.cons (do_val (de_tup (DAs.cons (do_val (de_var (i := 2))) (DAs.cons (do_val (de_var (i := 3))) (DAs.cons (do_val (de_var (i := 4))) (DAs.cons (do_val (de_str (by decide))) DAs.nil)))))) (DAs.cons (do_val (de_tup (DAs.cons (do_val (de_var (i := 2))) (DAs.cons (do_val (de_var (i := 4))) (DAs.cons (do_val (de_var (i := 3))) DAs.nil))))) (DAs.cons (do_val (de_tup (DAs.cons (do_val (de_str (by decide))) (DAs.cons (do_val (de_var (i := 3))) (DAs.cons (do_val (de_var (i := 4))) DAs.nil))))) DAs.nil)))))) ok.nd (ent_pins (by decide)))
      (db_cons (ds_set (i := 6) (de_op2 op_addAll os_add (do_plc (i := 6)) (do_own (de_list (DAs.cons (do_val (de_tup (DAs.cons (do_val (de_str (by decide))) (DAs.cons (do_val (de_var (i := 3))) (DAs.cons (do_val (de_var (i := 4))) DAs.nil))))) (DAs.cons (do_val de_non) (DAs.cons (do_val (de_var (i := 2))) (DAs.cons (do_val (de_tup DAs.nil)) (DAs.cons (do_val de_dict0) DAs.nil)))))))) ok.nd (ent_pins (by decide)))
      (db_one (ds_ret (de_ix (ix_any ok) os_ixAny (do_own (de_op2 op_addAll os_add (do_plc (i := 6)) (do_own (de_list (DAs.cons (do_val (de_tup (DAs.cons (do_val (de_var (i := 2))) (DAs.cons (do_val (de_str (by decide))) (DAs.cons (do_val (de_op2 op_addAll os_add (do_plc (i := 4)) (do_own (de_slH (do_own (de_str (by decide))) (do_own (de_op2 op_sub os_sub (do_own de_int) (do_own (de_callB (callr_or call_len call_lenR) os_lenAny (DAs.cons (do_plc (i := 4)) DAs.nil) G.n_len (by rfl))))))))) DAs.nil))))) DAs.nil))))) (do_own (de_callIo c__law_dip (hr.mono (by decide)) ok.grd (fun _ => passC0) (DAs.cons (do_plc (i := 0)) (DAs.cons (do_val de_int) DAs.nil)) rfl))))))))))
theorem g__law_odd (G : Glb mg) (c__law_dip : CalD P w K mg base CX0 1 "_law_dip" ["jar", "many"] (some 0) f__law_dip) (hs : ∃ o, base.get? sysModules = some o) {f : Addr} {kV doc pm cdv ct oc : Value} {an od : Option Addr} {osl : Array (Option Value)}
    (lk : K.lookup f = some ⟨oc, od, .func (PySem.W.fnOf "_law_odd" "_law_odd" (defArgs s__law_odd) (defBody s__law_odd) (defScope s__law_odd) .none kV doc pm an cdv ct), osl⟩) (hcd : PySem.W.codeIn K cdv "_law_odd" = true) :
    FnG P w K mg base CX0 2 f (PySem.W.fnOf "_law_odd" "_law_odd" (defArgs s__law_odd) (defBody s__law_odd) (defScope s__law_odd) .none kV doc pm an cdv ct) ["jar", "one"] (spD K mg 2 (some 0) f__law_odd) :=
  cald0 (k := 1) lk hcd sc__law_odd (by decide) fun A outer s H vs E F os fp hg hr _ _ _ _ => b__law_odd G c__law_dip hr (ok1_of sc__law_odd.nd hg hr hs)
theorem sc_law : FnScope N_law ["script"] (defScope s_law) := ⟨rfl, rfl, rfl, by decide +kernel, rfl, by decide +kernel, by decide +kernel⟩
theorem b_law (G : Glb mg) (c__law_jar : CalD P w K mg base CX0 1 "_law_jar" ["cells", "k"] none f__law_jar) (c__law_plan : CalD P w K mg base CX0 2 "_law_plan" ["jar", "names_here", "most"] (some 0) f__law_plan) (c__law_names : CalD P w K mg base CX0 2 "_law_names" ["jar", "many"] (some 0) f__law_names) (c__law_dip : CalD P w K mg base CX0 1 "_law_dip" ["jar", "many"] (some 0) f__law_dip) (c__law_odd : CalD P w K mg base CX0 2 "_law_odd" ["jar", "one"] (some 0) f__law_odd) (c_is_script : CalD P w K mg base CX0 3 "is_script" ["value"] none f_is_script) (c_is_copy : CalD P w K mg base CX0 2 "is_copy" ["value"] none f_is_copy) (c__law_is_copy : CalD P w K mg base CX0 1 "_law_is_copy" ["thing"] none f__law_is_copy) (k_is_copy_value : CalK P w K mg base CX0 2 "is_copy" ["value"] ["value"] [0] f_is_copy) (k_is_script_value : CalK P w K mg base CX0 3 "is_script" ["value"] ["value"] [0] f_is_script) {f : Addr} {cd : Value} {A : Around} {outer : List Env} {s : Shared} {H F : Hp} {E : XK} {fp : List Addr} {vs : List V} {W : WX} (hr : Room 3 (A.deeper (envOfC "law" (defScope s_law) s.heap.objs.size f cd))) (ok : Ok1 (DCx P w K mg base N_law "law" s_law f cd A outer s H E)) :
    DB (DCx P w K mg base N_law "law" s_law f cd A outer s H E) (entS H F fp none vs) W (defBody s_law) m_law :=
    (db_cons (ds_for (vs := [1]) PassesOwn.never ok.calm (di_range1 (DAs.cons (do_own (de_callB (call_max2 ok.calm) os_max2 (DAs.cons (do_own de_int) (DAs.cons (do_own (de_callB (call_min2 ok.calm) os_min2 (DAs.cons (do_own de_int) (DAs.cons (do_own (de_callB (callr_or call_len call_lenR) os_lenAny (DAs.cons (do_plc (i := 0)) DAs.nil) G.n_len (by rfl))) DAs.nil)) G.n_min (by rfl))) DAs.nil)) G.n_max (by rfl))) DAs.nil) G.n_range) (pg_name (i := 1) ok.nd rfl (by first | exact Or.inl rfl | exact Or.inr rfl)) (gs_name (i := 1) (ent_pins (by decide)) (by decide)) (db_cons (ds_set (i := 3) (de_call c__law_jar (hr.mono (by decide)) ok.grd (fun _ => passC0) (DAs.cons (do_plc (i := 0)) (DAs.cons (do_val (de_var (i := 1))) DAs.nil)) rfl) ok.nd (ent_pins (by decide)))
      (db_cons (ds_set (i := 4) (de_callIo c__law_plan (hr.mono (by decide)) ok.grd (fun _ => passC0) (DAs.cons (do_plc (i := 3)) (DAs.cons (do_val (de_callIo c__law_names (hr.mono (by decide)) ok.grd (fun _ => passC0) (DAs.cons (do_plc (i := 3)) (DAs.cons (do_val (de_op2 op_addAll os_add (do_own de_int) (do_own (de_callIo c__law_dip (hr.mono (by decide)) ok.grd (fun _ => passC0) (DAs.cons (do_plc (i := 3)) (DAs.cons (do_val de_int) DAs.nil)) rfl)))) DAs.nil)) rfl)) (DAs.cons (do_val (de_ix (ix_any ok) os_ixAny (do_own (de_list (DAs.cons (do_val de_int) (DAs.cons (do_val de_int) DAs.nil)))) (do_own (de_callIo c__law_dip (hr.mono (by decide)) ok.grd (fun _ => passC0) (DAs.cons (do_plc (i := 3)) (DAs.cons (do_val de_int) DAs.nil)) rfl)))) DAs.nil))) rfl) ok.nd (ent_pins (by decide)))
      (db_cons (ds_set (i := 5) (de_list (DAs.cons (do_val (de_var (i := 4))) (DAs.cons (do_val (de_callTy (callr_or call_list_of (cr_listStr ok.calm)) os_listAny (DAs.cons (do_plc (i := 4)) DAs.nil) G.n_list (by rfl))) (DAs.cons (do_val (de_slH (do_plc (i := 4)) (do_own de_int))) (DAs.cons (do_val (de_op2 op_addAll os_add (do_plc (i := 4)) (do_own (de_tup (DAs.cons (do_val de_non) DAs.nil))))) (DAs.cons (do_val (de_tup (DAs.cons (do_val (de_var (i := 4))) DAs.nil))) (DAs.cons (do_val de_non) (DAs.cons (do_val de_int) (DAs.cons (do_val (de_str (by decide))) (DAs.cons (do_val (de_str (by decide))) (DAs.cons (do_val (de_tup DAs.nil)) (DAs.cons (do_val (de_list DAs.nil)) (DAs.cons (do_val de_dict0) (DAs.cons (do_val de_bl) DAs.nil)))))))))))))) ok.nd (ent_pins (by decide)))
      (db_cons (ds_for (vs := [6]) PassesOwn.never ok.calm (di_range1 (DAs.cons (do_own (de_op2 op_mulAll os_mul (do_own de_int) (do_own (de_callTy call_int1 os_int (DAs.cons (do_own (de_cmp (op_neP ok) os_ne (do_plc (i := 4)) (do_own (de_tup DAs.nil)))) DAs.nil) G.n_int (by rfl))))) DAs.nil) G.n_range) (pg_name (i := 6) ok.nd rfl (by first | exact Or.inl rfl | exact Or.inr rfl)) (gs_name (i := 6) (ent_pins (by decide)) (by decide)) (db_cons (ds_set (i := 8) (de_callIo c__law_dip (hr.mono (by decide)) ok.grd (fun _ => passC0) (DAs.cons (do_plc (i := 3)) (DAs.cons (do_val (de_callB (callr_or call_len call_lenR) os_lenAny (DAs.cons (do_plc (i := 4)) DAs.nil) G.n_len (by rfl))) DAs.nil)) rfl) ok.nd (ent_pins (by decide)))
      (db_cons (ds_set (i := 9) (de_callIo c__law_odd (hr.mono (by decide)) ok.grd (fun _ => passC0) (DAs.cons (do_plc (i := 3)) (DAs.cons (do_val (de_ix (ix_any ok) os_ixAny (do_plc (i := 4)) (do_plc (i := 8)))) DAs.nil)) rfl) ok.nd (ent_pins (by decide)))
      (db_one (ds_set (i := 5) (de_op2 op_addAll os_add (do_plc (i := 5)) (do_own (de_list (DAs.cons (do_val (de_var (i := 9))) (DAs.cons (do_val (de_op2 op_addAll os_add (do_own (de_op2 op_addAll os_add (do_own (de_slH (do_plc (i := 4)) (do_plc (i := 8)))) (do_own (de_tup (DAs.cons (do_val (de_var (i := 9))) DAs.nil))))) (do_own (de_slL (do_plc (i := 4)) (do_own (de_op2 op_addAll os_add (do_plc (i := 8)) (do_own de_int))))))) (DAs.cons (do_val (de_ix (ix_any ok) os_ixAny (do_plc (i := 4)) (do_plc (i := 8)))) DAs.nil)))))) ok.nd (ent_pins (by decide)))))))
      (db_one (ds_for (vs := [7]) PassesOwn.never ok.calm (di_opd (do_val (de_var (i := 5)))) (pg_name (i := 7) ok.nd rfl (by first | exact Or.inl rfl | exact Or.inr rfl)) (gs_name (i := 7) (ent_pins (by decide)) (by decide)) (db_cons (ds_set (i := 10) (de_callB (cr_reprD ok) os_repr (DAs.cons (do_plc (i := 7)) DAs.nil) G.n_repr (by rfl)) ok.nd (ent_pins (by decide)))
      (db_cons (ds_set (i := 11) (de_and (de_isI ty_tuple (do_plc (i := 7)) G.n_isinstance G.n_tuple (by rfl) (by rfl)) (de_one (de_cmp op_leA (os_ord _ _) (do_own (de_callB (callr_or call_len call_lenR) os_lenAny (DAs.cons (do_plc (i := 7)) DAs.nil) G.n_len (by rfl))) (do_own de_int)))) ok.nd (ent_pins (by decide)))
      (db_cons (ds_set (i := 11) (de_and (de_var (i := 11)) (de_one (de_cmp (op_eqP ok) os_eq (do_own (de_lcIf (own := [("one", 13)]) ok.calm ok.nd (di_opd (do_val (de_var (i := 7)))) (by rfl) (fun s H C cl fp => (pg_name (i := 13) ok.blk.nd rfl (by first | exact Or.inl rfl | exact Or.inr rfl))) (gs_name (i := 13) (ent_pins (by decide)) (by decide)) (ent_pinsL (by decide)) (fun s H C cl fp => (dt_not (dt_val (de_call c__law_is_copy (hr.mono (by decide)) ok.blk.grd (fun _ => passC0) (DAs.cons (do_val (de_var (i := 13))) DAs.nil) rfl)))) (fun s H C cl fp => (de_var (i := 13))))) (do_own (de_list DAs.nil))))) ok.nd (ent_pins (by decide)))
      (db_cons (ds_set (i := 12) (de_list (DAs.cons (do_val (de_call c_is_copy (hr.mono (by decide)) ok.grd (fun _ => passC0) (DAs.cons (do_val (de_var (i := 7))) DAs.nil) rfl)) (DAs.cons (do_val (de_callK k_is_copy_value (hr.mono (by decide)) ok.grd (fun _ => passC0) (DKs.cons (do_val (de_var (i := 7))) DKs.nil) rfl (by decide))) (DAs.cons (do_val (de_call c_is_script (hr.mono (by decide)) ok.grd (fun _ => passC0) (DAs.cons (do_val (de_var (i := 7))) DAs.nil) rfl)) (DAs.cons (do_val (de_callK k_is_script_value (hr.mono (by decide)) ok.grd (fun _ => passC0) (DKs.cons (do_val (de_var (i := 7))) DKs.nil) rfl (by decide))) DAs.nil))))) ok.nd (ent_pins (by decide)))
      (db_one (ds_if (DW.t (dw_or (dt_cmp (op_neP ok) os_ne (do_own (de_callB (cr_reprD ok) os_repr (DAs.cons (do_plc (i := 12)) DAs.nil) G.n_repr (by rfl))) (do_own (de_callB (cr_reprD ok) os_repr (DAs.cons (do_own (de_op2 op_addAll os_add (do_own (de_op2 op_mulAll os_mul (do_own (de_list (DAs.cons (do_val (de_call c__law_is_copy (hr.mono (by decide)) ok.grd (fun _ => passC0) (DAs.cons (do_val (de_var (i := 7))) DAs.nil) rfl)) DAs.nil))) (do_own de_int))) (do_own (de_op2 op_mulAll os_mul (do_own (de_list (DAs.cons (do_val (de_var (i := 11))) DAs.nil))) (do_own de_int))))) DAs.nil) G.n_repr (by rfl)))) (dw_or1 (dt_cmp (op_neP ok) os_ne (do_own (de_callB (cr_reprD ok) os_repr (DAs.cons (do_plc (i := 7)) DAs.nil) G.n_repr (by rfl))) (do_plc (i := 10)))))) (db_one (ds_ret de_bl)) db_nil)))))))))))))
      (db_cons (ds_set (i := 2) (de_op2 op_mulAll os_mul (do_own (de_tup (DAs.cons (do_val (de_tup (DAs.cons (do_val (de_str (by decide))) (DAs.cons (do_val (de_str (by decide))) (DAs.cons (do_val (de_str (by decide))) DAs.nil))))) DAs.nil))) (do_own de_int)) ok.nd (ent_pins (by decide)))
      (db_one (ds_ret (de_cmp (op_eqP ok) os_eq (do_own (de_list (DAs.cons (do_val (de_call c_is_script (hr.mono (by decide)) ok.grd (fun _ => passC0) (DAs.cons (do_val (de_var (i := 2))) DAs.nil) rfl)) (DAs.cons (do_val (de_call c_is_script (hr.mono (by decide)) ok.grd (fun _ => passC0) (DAs.cons (do_val (de_op2 op_addAll os_add (do_plc (i := 2)) (do_own (de_slH (do_plc (i := 2)) (do_own de_int))))) DAs.nil) rfl)) (DAs.cons (do_val (de_call c_is_copy (hr.mono (by decide)) ok.grd (fun _ => passC0) (DAs.cons (do_val (de_tup (DAs.cons (do_val (de_str (by decide))) (DAs.cons (do_val (de_str (by decide))) (DAs.cons (do_val (de_str (by decide))) DAs.nil))))) DAs.nil) rfl)) DAs.nil))))) (do_own (de_list (DAs.cons (do_val de_bl) (DAs.cons (do_val de_bl) (DAs.cons (do_val de_bl) DAs.nil))))))))))
theorem g_law (G : Glb mg) (c__law_jar : CalD P w K mg base CX0 1 "_law_jar" ["cells", "k"] none f__law_jar) (c__law_plan : CalD P w K mg base CX0 2 "_law_plan" ["jar", "names_here", "most"] (some 0) f__law_plan) (c__law_names : CalD P w K mg base CX0 2 "_law_names" ["jar", "many"] (some 0) f__law_names) (c__law_dip : CalD P w K mg base CX0 1 "_law_dip" ["jar", "many"] (some 0) f__law_dip) (c__law_odd : CalD P w K mg base CX0 2 "_law_odd" ["jar", "one"] (some 0) f__law_odd) (c_is_script : CalD P w K mg base CX0 3 "is_script" ["value"] none f_is_script) (c_is_copy : CalD P w K mg base CX0 2 "is_copy" ["value"] none f_is_copy) (c__law_is_copy : CalD P w K mg base CX0 1 "_law_is_copy" ["thing"] none f__law_is_copy) (k_is_copy_value : CalK P w K mg base CX0 2 "is_copy" ["value"] ["value"] [0] f_is_copy) (k_is_script_value : CalK P w K mg base CX0 3 "is_script" ["value"] ["value"] [0] f_is_script) (hs : ∃ o, base.get? sysModules = some o) {f : Addr} {kV doc pm cdv ct oc : Value} {an od : Option Addr} {osl : Array (Option Value)}
    (lk : K.lookup f = some ⟨oc, od, .func (PySem.W.fnOf "law" "law" (defArgs s_law) (defBody s_law) (defScope s_law) .none kV doc pm an cdv ct), osl⟩) (hcd : PySem.W.codeIn K cdv "law" = true) :
    FnG P w K mg base CX0 4 f (PySem.W.fnOf "law" "law" (defArgs s_law) (defBody s_law) (defScope s_law) .none kV doc pm an cdv ct) ["script"] (spD K mg 1 none f_law) :=
  cald0 (k := 3) lk hcd sc_law (by decide) fun A outer s H vs E F os fp hg hr _ _ _ _ => b_law G c__law_jar c__law_plan c__law_names c__law_dip c__law_odd c_is_script c_is_copy c__law_is_copy k_is_copy_value k_is_script_value hr (ok1_of sc_law.nd hg hr hs)
end
theorem all_mk {l : PySem.W.OpenLaw} {w : World} {K : PySem.W.Frag} {h : Heap} {mg : Str → Option Value} {fa f0 f1 f2 f3 f4 f5 f6 f7 f8 f9 : Addr} {t0 t1 t2 t3 t4 : Tok} (X : K.In h) (Gn : h.Ns mainGlobals mg) (hfa : mg "law" = some (.ref fa))
    {od0 an0 od1 an1 od2 an2 od3 an3 od4 an4 od5 an5 od6 an6 od7 an7 od8 an8 od9 an9 : Option Addr} {sl0 sl1 sl2 sl3 sl4 sl5 sl6 sl7 sl8 sl9 : Array (Option Value)} {oc0 kV0 dc0 pm0 cd0 ct0 oc1 kV1 dc1 pm1 cd1 ct1 oc2 kV2 dc2 pm2 cd2 ct2 oc3 kV3 dc3 pm3 cd3 ct3 oc4 kV4 dc4 pm4 cd4 ct4 oc5 kV5 dc5 pm5 cd5 ct5 oc6 kV6 dc6 pm6 cd6 ct6 oc7 kV7 dc7 pm7 cd7 ct7 oc8 kV8 dc8 pm8 cd8 ct8 oc9 kV9 dc9 pm9 cd9 ct9 : Value}
    (a0 : PySem.W.nsIn K mainGlobals "is_name" = some (some (.ref f0))) (l0 : K.lookup f0 = some ⟨oc0, od0, .func (PySem.W.fnOf "is_name" "is_name" (defArgs s_is_name) (defBody s_is_name) (defScope s_is_name) .none kV0 dc0 pm0 an0 cd0 ct0), sl0⟩) (c0 : PySem.W.codeIn K cd0 "is_name" = true) (k0 : PySem.W.keepIn K (.ref f0) = true)
    (a1 : PySem.W.nsIn K mainGlobals "is_copy" = some (some (.ref f1))) (l1 : K.lookup f1 = some ⟨oc1, od1, .func (PySem.W.fnOf "is_copy" "is_copy" (defArgs s_is_copy) (defBody s_is_copy) (defScope s_is_copy) .none kV1 dc1 pm1 an1 cd1 ct1), sl1⟩) (c1 : PySem.W.codeIn K cd1 "is_copy" = true) (k1 : PySem.W.keepIn K (.ref f1) = true)
    (a2 : PySem.W.nsIn K mainGlobals "is_script" = some (some (.ref f2))) (l2 : K.lookup f2 = some ⟨oc2, od2, .func (PySem.W.fnOf "is_script" "is_script" (defArgs s_is_script) (defBody s_is_script) (defScope s_is_script) .none kV2 dc2 pm2 an2 cd2 ct2), sl2⟩) (c2 : PySem.W.codeIn K cd2 "is_script" = true) (k2 : PySem.W.keepIn K (.ref f2) = true)
    (a3 : PySem.W.nsIn K mainGlobals "_law_jar" = some (some (.ref f3))) (l3 : K.lookup f3 = some ⟨oc3, od3, .func (PySem.W.fnOf "_law_jar" "_law_jar" (defArgs s__law_jar) (defBody s__law_jar) (defScope s__law_jar) .none kV3 dc3 pm3 an3 cd3 ct3), sl3⟩) (c3 : PySem.W.codeIn K cd3 "_law_jar" = true) (k3 : PySem.W.keepIn K (.ref f3) = true)
    (a4 : PySem.W.nsIn K mainGlobals "_law_dip" = some (some (.ref f4))) (l4 : K.lookup f4 = some ⟨oc4, od4, .func (PySem.W.fnOf "_law_dip" "_law_dip" (defArgs s__law_dip) (defBody s__law_dip) (defScope s__law_dip) .none kV4 dc4 pm4 an4 cd4 ct4), sl4⟩) (c4 : PySem.W.codeIn K cd4 "_law_dip" = true) (k4 : PySem.W.keepIn K (.ref f4) = true)
    (a5 : PySem.W.nsIn K mainGlobals "_law_names" = some (some (.ref f5))) (l5 : K.lookup f5 = some ⟨oc5, od5, .func (PySem.W.fnOf "_law_names" "_law_names" (defArgs s__law_names) (defBody s__law_names) (defScope s__law_names) .none kV5 dc5 pm5 an5 cd5 ct5), sl5⟩) (c5 : PySem.W.codeIn K cd5 "_law_names" = true) (k5 : PySem.W.keepIn K (.ref f5) = true)
    (a6 : PySem.W.nsIn K mainGlobals "_law_plan" = some (some (.ref f6))) (l6 : K.lookup f6 = some ⟨oc6, od6, .func (PySem.W.fnOf "_law_plan" "_law_plan" (defArgs s__law_plan) (defBody s__law_plan) (defScope s__law_plan) .none kV6 dc6 pm6 an6 cd6 ct6), sl6⟩) (c6 : PySem.W.codeIn K cd6 "_law_plan" = true) (k6 : PySem.W.keepIn K (.ref f6) = true)
    (a7 : PySem.W.nsIn K mainGlobals "_law_is_copy" = some (some (.ref f7))) (l7 : K.lookup f7 = some ⟨oc7, od7, .func (PySem.W.fnOf "_law_is_copy" "_law_is_copy" (defArgs s__law_is_copy) (defBody s__law_is_copy) (defScope s__law_is_copy) .none kV7 dc7 pm7 an7 cd7 ct7), sl7⟩) (c7 : PySem.W.codeIn K cd7 "_law_is_copy" = true) (k7 : PySem.W.keepIn K (.ref f7) = true)
    (a8 : PySem.W.nsIn K mainGlobals "_law_odd" = some (some (.ref f8))) (l8 : K.lookup f8 = some ⟨oc8, od8, .func (PySem.W.fnOf "_law_odd" "_law_odd" (defArgs s__law_odd) (defBody s__law_odd) (defScope s__law_odd) .none kV8 dc8 pm8 an8 cd8 ct8), sl8⟩) (c8 : PySem.W.codeIn K cd8 "_law_odd" = true) (k8 : PySem.W.keepIn K (.ref f8) = true)
    (a9 : PySem.W.nsIn K mainGlobals "law" = some (some (.ref f9))) (l9 : K.lookup f9 = some ⟨oc9, od9, .func (PySem.W.fnOf "law" "law" (defArgs s_law) (defBody s_law) (defScope s_law) .none kV9 dc9 pm9 an9 cd9 ct9), sl9⟩) (c9 : PySem.W.codeIn K cd9 "law" = true) (k9 : PySem.W.keepIn K (.ref f9) = true)
    (z0 : PySem.W.nsIn K mainGlobals "abs" = some none)
    (z1 : PySem.W.nsIn K mainGlobals "all" = some none)
    (z2 : PySem.W.nsIn K mainGlobals "int" = some none)
    (z3 : PySem.W.nsIn K mainGlobals "isinstance" = some none)
    (z4 : PySem.W.nsIn K mainGlobals "len" = some none)
    (z5 : PySem.W.nsIn K mainGlobals "list" = some none)
    (z6 : PySem.W.nsIn K mainGlobals "max" = some none)
    (z7 : PySem.W.nsIn K mainGlobals "min" = some none)
    (z8 : PySem.W.nsIn K mainGlobals "range" = some none)
    (z9 : PySem.W.nsIn K mainGlobals "repr" = some none)
    (z10 : PySem.W.nsIn K mainGlobals "str" = some none)
    (z11 : PySem.W.nsIn K mainGlobals "tuple" = some none)
    (y0 : PySem.W.nsIn K mainGlobals "LETTERS" = some (some (.str "abcdefghijklmnopqrstuvwxyz" t0)))
    (y1 : PySem.W.nsIn K mainGlobals "MOST_COPIES" = some (some (.int 200 t1)))
    (y2 : PySem.W.nsIn K mainGlobals "MOST_LETTERS" = some (some (.int 8 t2)))
    (y3 : PySem.W.nsIn K mainGlobals "OVER" = some (some (.str "over" t3)))
    (y4 : PySem.W.nsIn K mainGlobals "SKIP" = some (some (.str "skip" t4))) :
    ∃ fd : FuncData, (∀ (s : Shared) (v : Value), BindsTo s fd ⟨[v], []⟩ [("script", v)]) ∧ ∀ base : Heap, K.In base → base.Ns mainGlobals mg → (∃ o, base.get? sysModules = some o) → FnG l.prog w K mg base CX0 4 fa fd ["script"] (spD K mg 1 none f_law) := by
  have e := hfa.symm.trans (PySem.W.mg_of X Gn a9)
  cases e
  have G : Glb mg := ⟨PySem.W.mg_none_of X Gn z0, PySem.W.mg_none_of X Gn z1, PySem.W.mg_none_of X Gn z2, PySem.W.mg_none_of X Gn z3, PySem.W.mg_none_of X Gn z4, PySem.W.mg_none_of X Gn z5, PySem.W.mg_none_of X Gn z6, PySem.W.mg_none_of X Gn z7, PySem.W.mg_none_of X Gn z8, PySem.W.mg_none_of X Gn z9, PySem.W.mg_none_of X Gn z10, PySem.W.mg_none_of X Gn z11, ⟨_, PySem.W.mg_of X Gn y0⟩, ⟨_, PySem.W.mg_of X Gn y1⟩, ⟨_, PySem.W.mg_of X Gn y2⟩, ⟨_, PySem.W.mg_of X Gn y3⟩, ⟨_, PySem.W.mg_of X Gn y4⟩⟩
  refine ⟨PySem.W.fnOf "law" "law" (defArgs s_law) (defBody s_law) (defScope s_law) .none kV9 dc9 pm9 an9 cd9 ct9, fun s v => .of_eq rfl, fun base hb hn hs => ?_⟩
  have F0 := g_is_name (P := l.prog) (w := w) (base := base) G hs l0 c0
  have c_is_name : CalD l.prog w K mg base CX0 1 "is_name" ["value"] none f_is_name := ⟨f0, _, F0, PySem.W.mg_of X Gn a0, k0, .all fun us hl => match us, hl with | [_], _ => rfl⟩
  have F1 := g_is_copy (P := l.prog) (w := w) (base := base) G c_is_name hs l1 c1
  have c_is_copy : CalD l.prog w K mg base CX0 2 "is_copy" ["value"] none f_is_copy := ⟨f1, _, F1, PySem.W.mg_of X Gn a1, k1, .all fun us hl => match us, hl with | [_], _ => rfl⟩
  have k_is_copy_value : CalK l.prog w K mg base CX0 2 "is_copy" ["value"] ["value"] [0] f_is_copy := ⟨f1, _, F1, PySem.W.mg_of X Gn a1, k1, fun s ws hl => .of_eq (match ws, hl with | [_], _ => rfl)⟩
  have F2 := g_is_script (P := l.prog) (w := w) (base := base) G c_is_copy hs l2 c2
  have c_is_script : CalD l.prog w K mg base CX0 3 "is_script" ["value"] none f_is_script := ⟨f2, _, F2, PySem.W.mg_of X Gn a2, k2, .all fun us hl => match us, hl with | [_], _ => rfl⟩
  have k_is_script_value : CalK l.prog w K mg base CX0 3 "is_script" ["value"] ["value"] [0] f_is_script := ⟨f2, _, F2, PySem.W.mg_of X Gn a2, k2, fun s ws hl => .of_eq (match ws, hl with | [_], _ => rfl)⟩
  have F3 := g__law_jar (P := l.prog) (w := w) (base := base) G hs l3 c3
  have c__law_jar : CalD l.prog w K mg base CX0 1 "_law_jar" ["cells", "k"] none f__law_jar := ⟨f3, _, F3, PySem.W.mg_of X Gn a3, k3, .all fun us hl => match us, hl with | [_, _], _ => rfl⟩
  have F4 := g__law_dip (P := l.prog) (w := w) (base := base) G hs l4 c4
  have c__law_dip : CalD l.prog w K mg base CX0 1 "_law_dip" ["jar", "many"] (some 0) f__law_dip := ⟨f4, _, F4, PySem.W.mg_of X Gn a4, k4, .all fun us hl => match us, hl with | [_, _], _ => rfl⟩
  have F5 := g__law_names (P := l.prog) (w := w) (base := base) G c__law_dip hs l5 c5
  have c__law_names : CalD l.prog w K mg base CX0 2 "_law_names" ["jar", "many"] (some 0) f__law_names := ⟨f5, _, F5, PySem.W.mg_of X Gn a5, k5, .all fun us hl => match us, hl with | [_, _], _ => rfl⟩
  have F6 := g__law_plan (P := l.prog) (w := w) (base := base) G c__law_dip hs l6 c6
  have c__law_plan : CalD l.prog w K mg base CX0 2 "_law_plan" ["jar", "names_here", "most"] (some 0) f__law_plan := ⟨f6, _, F6, PySem.W.mg_of X Gn a6, k6, .all fun us hl => match us, hl with | [_, _, _], _ => rfl⟩
  have F7 := g__law_is_copy (P := l.prog) (w := w) (base := base) G hs l7 c7
  have c__law_is_copy : CalD l.prog w K mg base CX0 1 "_law_is_copy" ["thing"] none f__law_is_copy := ⟨f7, _, F7, PySem.W.mg_of X Gn a7, k7, .all fun us hl => match us, hl with | [_], _ => rfl⟩
  have F8 := g__law_odd (P := l.prog) (w := w) (base := base) G c__law_dip hs l8 c8
  have c__law_odd : CalD l.prog w K mg base CX0 2 "_law_odd" ["jar", "one"] (some 0) f__law_odd := ⟨f8, _, F8, PySem.W.mg_of X Gn a8, k8, .all fun us hl => match us, hl with | [_, _], _ => rfl⟩
  have F9 := g_law (P := l.prog) (w := w) (base := base) G c__law_jar c__law_plan c__law_names c__law_dip c__law_odd c_is_script c_is_copy c__law_is_copy k_is_copy_value k_is_script_value hs l9 c9
  exact F9
end LW

set_option Elab.async false
set_option linter.all false
set_option autoImplicit false
set_option maxRecDepth 100000
set_option maxHeartbeats 1000000
namespace LW
open PySem PySem.Spec PyProof.Rows L2 DL

def letB (c : Nat) : Bool := strIn ⟨#[c]⟩ "abcdefghijklmnopqrstuvwxyz"
def inLet (d : PyData) : Bool := match d with
  | .str y => strIn y "abcdefghijklmnopqrstuvwxyz"
  | _ => false
theorem inLet_s (y : Str) : inLet (.str y) = strIn y "abcdefghijklmnopqrstuvwxyz" := rfl
theorem inLet_all (x : Str) : (chars x).map (fun d => PyData.bool (inLet d)) = x.cps.toList.map fun c => .bool (letB c) := by
  unfold chars
  rw [List.map_map]
  rfl
def nameB : PyData → Bool
  | .str x => decide ((1 : Int) ≤ (x.length : Int)) && decide ((x.length : Int) ≤ 8) && x.cps.toList.all letB
  | _ => false
theorem v_is_name (d : PyData) : f_is_name [.d d] = some (.ok (.d (.bool (nameB d))), []) := by
  rw [← fw_eq]
  unfold f_is_name
  rw [fw_sem]
  unfold m_is_name m_is_name_0 m_is_name_1
  cases d with
  | str x =>
    by_cases h1 : (1 : Int) ≤ (x.length : Int)
    · by_cases h2 : (x.length : Int) ≤ 8
      · have hz : (chars x).length ≤ 16777216 := by rw [chars_len]; omega
        simp (config := { maxSteps := 4000000 }) only [w_bind, w_ret, w_ok, w_seq, w_if, w_ifE, w_test, w_and, w_or, w_not, w_andV, w_orV, w_notV, w_do, w_rt, w_asg, w_C, w_var, w_args0, w_args1, w_plc, w_own, w_val, w_prim, w_list, w_tup, w_call, w_callIo, w_callK, w_chain, w_for, w_items, w_rng, w_lc, w_meth1, w_setL2, w_stores, w_aug, w_move, w_str, mNx, mRetN, startE, rds, HE.rd, sh1, sh2, dp1, dp2, gAdd, DL.gSub, gLt, gLe, gGt, gGe, gOrd, gIsI, gLen, gIx, gIxAny, gInAny, isDct, gLenAny, enumOf, zipOf, dat, gMax2, gMin2, gAbs, gNeg, gAddI, gTupOf, gListOf, gTupAny, gListAny, gInt, gIsN, gSl0, gSlL, gSlH, gSlice, OD.erase, OD.noS, noSL, OD.shallow, OD.isD, OD.still, allStill, boolOf, aName, aTup, aAll, outs, wipeE, isL, DL.intAt, DL.putAll, allO, allD, itemsOf, rngA, rngB, fw_ok, gEq_ii, gNe_ii, gEq_ss, gNe_ss, List.getElem?_cons_zero, List.getElem?_cons_succ, List.set_cons_zero, List.set_cons_succ, List.length_cons, List.length_nil, List.map_cons, List.map_nil, List.cons_append, List.nil_append, List.replicate_succ, List.replicate_zero, List.all_cons, List.all_nil, List.eraseIdx_cons_zero, List.eraseIdx_cons_succ, List.drop_succ_cons, List.drop_zero, List.filterMap_cons, List.filterMap_nil, Option.some.injEq, exists_eq_left', exists_eq_left, exists_eq', exists_eq, Option.join_some, Option.map_some, Option.bind_some, if_true, if_false, true_and, and_true, Bool.true_and, Bool.and_true, Bool.not_true, Bool.not_false, reduceCtorEq, false_and, exists_false, Bool.false_eq_true, OD.d.injEq, OD.l.injEq, HE.o.injEq, HE.al.injEq, List.cons.injEq, PyData.bool.injEq, PyData.int.injEq, PyData.str.injEq, ite_true, ite_false, Nat.reduceSub, Nat.reduceAdd, Nat.reduceLT, Nat.reduceEqDiff, Bool.and_self, Bool.or_true, Bool.true_or, Bool.or_false, Bool.false_or, Bool.false_and, Bool.and_false, eraseL_map, isd_d, er_d, sz_ok, is_int_n, is_int_b, is_int_i, is_int_s, is_int_l, is_int_t, is_int_d, is_bool_n, is_bool_b, is_bool_i, is_bool_s, is_bool_l, is_bool_t, is_bool_d, is_str_n, is_str_b, is_str_i, is_str_s, is_str_l, is_str_t, is_str_d, is_tuple_n, is_tuple_b, is_tuple_i, is_tuple_s, is_tuple_l, is_tuple_t, is_tuple_d, is_list_n, is_list_b, is_list_i, is_list_s, is_list_l, is_list_t, is_list_d, is_dict_n, is_dict_b, is_dict_i, is_dict_s, is_dict_l, is_dict_t, is_dict_d, ic0, ic1, ic2, ic3, ic4, ic5, ic6, ic7, ic8, ic9, ic10, ic11, ic12, ic13, ic14, ic15, ic16, ic17, ic18, ic19, ic20, ic21, noSL_d, nmL_noS, eq_self, decide_true, decide_false, Int.reduceLT, Int.reduceLE, Int.reduceEq, Int.reduceAdd, Int.reduceSub, Int.reduceNeg, Nat.reduceLeDiff, gNe_nil, gEq_nil, nmL_len, nmL_isd, nmL_er, ex_pair, fApp, h1, h2, decide_true, hz]
        refine lc_fn (E := fun y => [some (.d (.str x)), y]) (g := fun d => .bool (inLet d)) (fun _ => rfl) none (fun d hd => ?_) fun y => ?_
        · obtain ⟨c, _, rfl⟩ := chars_mem hd
          simp (config := { maxSteps := 4000000 }) only [w_bind, w_ret, w_ok, w_seq, w_if, w_ifE, w_test, w_and, w_or, w_not, w_andV, w_orV, w_notV, w_do, w_rt, w_asg, w_C, w_var, w_args0, w_args1, w_plc, w_own, w_val, w_prim, w_list, w_tup, w_call, w_callIo, w_callK, w_chain, w_for, w_items, w_rng, w_lc, w_meth1, w_setL2, w_stores, w_aug, w_move, w_str, mNx, mRetN, startE, rds, HE.rd, sh1, sh2, dp1, dp2, gAdd, DL.gSub, gLt, gLe, gGt, gGe, gOrd, gIsI, gLen, gIx, gIxAny, gInAny, isDct, gLenAny, enumOf, zipOf, dat, gMax2, gMin2, gAbs, gNeg, gAddI, gTupOf, gListOf, gTupAny, gListAny, gInt, gIsN, gSl0, gSlL, gSlH, gSlice, OD.erase, OD.noS, noSL, OD.shallow, OD.isD, OD.still, allStill, boolOf, aName, aTup, aAll, outs, wipeE, isL, DL.intAt, DL.putAll, allO, allD, itemsOf, rngA, rngB, fw_ok, gEq_ii, gNe_ii, gEq_ss, gNe_ss, List.getElem?_cons_zero, List.getElem?_cons_succ, List.set_cons_zero, List.set_cons_succ, List.length_cons, List.length_nil, List.map_cons, List.map_nil, List.cons_append, List.nil_append, List.replicate_succ, List.replicate_zero, List.all_cons, List.all_nil, List.eraseIdx_cons_zero, List.eraseIdx_cons_succ, List.drop_succ_cons, List.drop_zero, List.filterMap_cons, List.filterMap_nil, Option.some.injEq, exists_eq_left', exists_eq_left, exists_eq', exists_eq, Option.join_some, Option.map_some, Option.bind_some, if_true, if_false, true_and, and_true, Bool.true_and, Bool.and_true, Bool.not_true, Bool.not_false, reduceCtorEq, false_and, exists_false, Bool.false_eq_true, OD.d.injEq, OD.l.injEq, HE.o.injEq, HE.al.injEq, List.cons.injEq, PyData.bool.injEq, PyData.int.injEq, PyData.str.injEq, ite_true, ite_false, Nat.reduceSub, Nat.reduceAdd, Nat.reduceLT, Nat.reduceEqDiff, Bool.and_self, Bool.or_true, Bool.true_or, Bool.or_false, Bool.false_or, Bool.false_and, Bool.and_false, eraseL_map, isd_d, er_d, sz_ok, is_int_n, is_int_b, is_int_i, is_int_s, is_int_l, is_int_t, is_int_d, is_bool_n, is_bool_b, is_bool_i, is_bool_s, is_bool_l, is_bool_t, is_bool_d, is_str_n, is_str_b, is_str_i, is_str_s, is_str_l, is_str_t, is_str_d, is_tuple_n, is_tuple_b, is_tuple_i, is_tuple_s, is_tuple_l, is_tuple_t, is_tuple_d, is_list_n, is_list_b, is_list_i, is_list_s, is_list_l, is_list_t, is_list_d, is_dict_n, is_dict_b, is_dict_i, is_dict_s, is_dict_l, is_dict_t, is_dict_d, ic0, ic1, ic2, ic3, ic4, ic5, ic6, ic7, ic8, ic9, ic10, ic11, ic12, ic13, ic14, ic15, ic16, ic17, ic18, ic19, ic20, ic21, noSL_d, nmL_noS, eq_self, decide_true, decide_false, Int.reduceLT, Int.reduceLE, Int.reduceEq, Int.reduceAdd, Int.reduceSub, Int.reduceNeg, Nat.reduceLeDiff, gNe_nil, gEq_nil, nmL_len, nmL_isd, nmL_er, ex_pair, fApp, gInB, inLet_s]
        · rw [inLet_all]
          simp (config := { maxSteps := 4000000 }) only [w_bind, w_ret, w_ok, w_seq, w_if, w_ifE, w_test, w_and, w_or, w_not, w_andV, w_orV, w_notV, w_do, w_rt, w_asg, w_C, w_var, w_args0, w_args1, w_plc, w_own, w_val, w_prim, w_list, w_tup, w_call, w_callIo, w_callK, w_chain, w_for, w_items, w_rng, w_lc, w_meth1, w_setL2, w_stores, w_aug, w_move, w_str, mNx, mRetN, startE, rds, HE.rd, sh1, sh2, dp1, dp2, gAdd, DL.gSub, gLt, gLe, gGt, gGe, gOrd, gIsI, gLen, gIx, gIxAny, gInAny, isDct, gLenAny, enumOf, zipOf, dat, gMax2, gMin2, gAbs, gNeg, gAddI, gTupOf, gListOf, gTupAny, gListAny, gInt, gIsN, gSl0, gSlL, gSlH, gSlice, OD.erase, OD.noS, noSL, OD.shallow, OD.isD, OD.still, allStill, boolOf, aName, aTup, aAll, outs, wipeE, isL, DL.intAt, DL.putAll, allO, allD, itemsOf, rngA, rngB, fw_ok, gEq_ii, gNe_ii, gEq_ss, gNe_ss, List.getElem?_cons_zero, List.getElem?_cons_succ, List.set_cons_zero, List.set_cons_succ, List.length_cons, List.length_nil, List.map_cons, List.map_nil, List.cons_append, List.nil_append, List.replicate_succ, List.replicate_zero, List.all_cons, List.all_nil, List.eraseIdx_cons_zero, List.eraseIdx_cons_succ, List.drop_succ_cons, List.drop_zero, List.filterMap_cons, List.filterMap_nil, Option.some.injEq, exists_eq_left', exists_eq_left, exists_eq', exists_eq, Option.join_some, Option.map_some, Option.bind_some, if_true, if_false, true_and, and_true, Bool.true_and, Bool.and_true, Bool.not_true, Bool.not_false, reduceCtorEq, false_and, exists_false, Bool.false_eq_true, OD.d.injEq, OD.l.injEq, HE.o.injEq, HE.al.injEq, List.cons.injEq, PyData.bool.injEq, PyData.int.injEq, PyData.str.injEq, ite_true, ite_false, Nat.reduceSub, Nat.reduceAdd, Nat.reduceLT, Nat.reduceEqDiff, Bool.and_self, Bool.or_true, Bool.true_or, Bool.or_false, Bool.false_or, Bool.false_and, Bool.and_false, eraseL_map, isd_d, er_d, sz_ok, is_int_n, is_int_b, is_int_i, is_int_s, is_int_l, is_int_t, is_int_d, is_bool_n, is_bool_b, is_bool_i, is_bool_s, is_bool_l, is_bool_t, is_bool_d, is_str_n, is_str_b, is_str_i, is_str_s, is_str_l, is_str_t, is_str_d, is_tuple_n, is_tuple_b, is_tuple_i, is_tuple_s, is_tuple_l, is_tuple_t, is_tuple_d, is_list_n, is_list_b, is_list_i, is_list_s, is_list_l, is_list_t, is_list_d, is_dict_n, is_dict_b, is_dict_i, is_dict_s, is_dict_l, is_dict_t, is_dict_d, ic0, ic1, ic2, ic3, ic4, ic5, ic6, ic7, ic8, ic9, ic10, ic11, ic12, ic13, ic14, ic15, ic16, ic17, ic18, ic19, ic20, ic21, noSL_d, nmL_noS, eq_self, decide_true, decide_false, Int.reduceLT, Int.reduceLE, Int.reduceEq, Int.reduceAdd, Int.reduceSub, Int.reduceNeg, Nat.reduceLeDiff, gNe_nil, gEq_nil, nmL_len, nmL_isd, nmL_er, ex_pair, fApp, gBs_map]
          simp [nameB, h1, h2, Function.comp_def]
      · simp (config := { maxSteps := 4000000 }) only [w_bind, w_ret, w_ok, w_seq, w_if, w_ifE, w_test, w_and, w_or, w_not, w_andV, w_orV, w_notV, w_do, w_rt, w_asg, w_C, w_var, w_args0, w_args1, w_plc, w_own, w_val, w_prim, w_list, w_tup, w_call, w_callIo, w_callK, w_chain, w_for, w_items, w_rng, w_lc, w_meth1, w_setL2, w_stores, w_aug, w_move, w_str, mNx, mRetN, startE, rds, HE.rd, sh1, sh2, dp1, dp2, gAdd, DL.gSub, gLt, gLe, gGt, gGe, gOrd, gIsI, gLen, gIx, gIxAny, gInAny, isDct, gLenAny, enumOf, zipOf, dat, gMax2, gMin2, gAbs, gNeg, gAddI, gTupOf, gListOf, gTupAny, gListAny, gInt, gIsN, gSl0, gSlL, gSlH, gSlice, OD.erase, OD.noS, noSL, OD.shallow, OD.isD, OD.still, allStill, boolOf, aName, aTup, aAll, outs, wipeE, isL, DL.intAt, DL.putAll, allO, allD, itemsOf, rngA, rngB, fw_ok, gEq_ii, gNe_ii, gEq_ss, gNe_ss, List.getElem?_cons_zero, List.getElem?_cons_succ, List.set_cons_zero, List.set_cons_succ, List.length_cons, List.length_nil, List.map_cons, List.map_nil, List.cons_append, List.nil_append, List.replicate_succ, List.replicate_zero, List.all_cons, List.all_nil, List.eraseIdx_cons_zero, List.eraseIdx_cons_succ, List.drop_succ_cons, List.drop_zero, List.filterMap_cons, List.filterMap_nil, Option.some.injEq, exists_eq_left', exists_eq_left, exists_eq', exists_eq, Option.join_some, Option.map_some, Option.bind_some, if_true, if_false, true_and, and_true, Bool.true_and, Bool.and_true, Bool.not_true, Bool.not_false, reduceCtorEq, false_and, exists_false, Bool.false_eq_true, OD.d.injEq, OD.l.injEq, HE.o.injEq, HE.al.injEq, List.cons.injEq, PyData.bool.injEq, PyData.int.injEq, PyData.str.injEq, ite_true, ite_false, Nat.reduceSub, Nat.reduceAdd, Nat.reduceLT, Nat.reduceEqDiff, Bool.and_self, Bool.or_true, Bool.true_or, Bool.or_false, Bool.false_or, Bool.false_and, Bool.and_false, eraseL_map, isd_d, er_d, sz_ok, is_int_n, is_int_b, is_int_i, is_int_s, is_int_l, is_int_t, is_int_d, is_bool_n, is_bool_b, is_bool_i, is_bool_s, is_bool_l, is_bool_t, is_bool_d, is_str_n, is_str_b, is_str_i, is_str_s, is_str_l, is_str_t, is_str_d, is_tuple_n, is_tuple_b, is_tuple_i, is_tuple_s, is_tuple_l, is_tuple_t, is_tuple_d, is_list_n, is_list_b, is_list_i, is_list_s, is_list_l, is_list_t, is_list_d, is_dict_n, is_dict_b, is_dict_i, is_dict_s, is_dict_l, is_dict_t, is_dict_d, ic0, ic1, ic2, ic3, ic4, ic5, ic6, ic7, ic8, ic9, ic10, ic11, ic12, ic13, ic14, ic15, ic16, ic17, ic18, ic19, ic20, ic21, noSL_d, nmL_noS, eq_self, decide_true, decide_false, Int.reduceLT, Int.reduceLE, Int.reduceEq, Int.reduceAdd, Int.reduceSub, Int.reduceNeg, Nat.reduceLeDiff, gNe_nil, gEq_nil, nmL_len, nmL_isd, nmL_er, ex_pair, fApp, h1, h2, decide_true, decide_false]
        simp [nameB, h2]
    · simp (config := { maxSteps := 4000000 }) only [w_bind, w_ret, w_ok, w_seq, w_if, w_ifE, w_test, w_and, w_or, w_not, w_andV, w_orV, w_notV, w_do, w_rt, w_asg, w_C, w_var, w_args0, w_args1, w_plc, w_own, w_val, w_prim, w_list, w_tup, w_call, w_callIo, w_callK, w_chain, w_for, w_items, w_rng, w_lc, w_meth1, w_setL2, w_stores, w_aug, w_move, w_str, mNx, mRetN, startE, rds, HE.rd, sh1, sh2, dp1, dp2, gAdd, DL.gSub, gLt, gLe, gGt, gGe, gOrd, gIsI, gLen, gIx, gIxAny, gInAny, isDct, gLenAny, enumOf, zipOf, dat, gMax2, gMin2, gAbs, gNeg, gAddI, gTupOf, gListOf, gTupAny, gListAny, gInt, gIsN, gSl0, gSlL, gSlH, gSlice, OD.erase, OD.noS, noSL, OD.shallow, OD.isD, OD.still, allStill, boolOf, aName, aTup, aAll, outs, wipeE, isL, DL.intAt, DL.putAll, allO, allD, itemsOf, rngA, rngB, fw_ok, gEq_ii, gNe_ii, gEq_ss, gNe_ss, List.getElem?_cons_zero, List.getElem?_cons_succ, List.set_cons_zero, List.set_cons_succ, List.length_cons, List.length_nil, List.map_cons, List.map_nil, List.cons_append, List.nil_append, List.replicate_succ, List.replicate_zero, List.all_cons, List.all_nil, List.eraseIdx_cons_zero, List.eraseIdx_cons_succ, List.drop_succ_cons, List.drop_zero, List.filterMap_cons, List.filterMap_nil, Option.some.injEq, exists_eq_left', exists_eq_left, exists_eq', exists_eq, Option.join_some, Option.map_some, Option.bind_some, if_true, if_false, true_and, and_true, Bool.true_and, Bool.and_true, Bool.not_true, Bool.not_false, reduceCtorEq, false_and, exists_false, Bool.false_eq_true, OD.d.injEq, OD.l.injEq, HE.o.injEq, HE.al.injEq, List.cons.injEq, PyData.bool.injEq, PyData.int.injEq, PyData.str.injEq, ite_true, ite_false, Nat.reduceSub, Nat.reduceAdd, Nat.reduceLT, Nat.reduceEqDiff, Bool.and_self, Bool.or_true, Bool.true_or, Bool.or_false, Bool.false_or, Bool.false_and, Bool.and_false, eraseL_map, isd_d, er_d, sz_ok, is_int_n, is_int_b, is_int_i, is_int_s, is_int_l, is_int_t, is_int_d, is_bool_n, is_bool_b, is_bool_i, is_bool_s, is_bool_l, is_bool_t, is_bool_d, is_str_n, is_str_b, is_str_i, is_str_s, is_str_l, is_str_t, is_str_d, is_tuple_n, is_tuple_b, is_tuple_i, is_tuple_s, is_tuple_l, is_tuple_t, is_tuple_d, is_list_n, is_list_b, is_list_i, is_list_s, is_list_l, is_list_t, is_list_d, is_dict_n, is_dict_b, is_dict_i, is_dict_s, is_dict_l, is_dict_t, is_dict_d, ic0, ic1, ic2, ic3, ic4, ic5, ic6, ic7, ic8, ic9, ic10, ic11, ic12, ic13, ic14, ic15, ic16, ic17, ic18, ic19, ic20, ic21, noSL_d, nmL_noS, eq_self, decide_true, decide_false, Int.reduceLT, Int.reduceLE, Int.reduceEq, Int.reduceAdd, Int.reduceSub, Int.reduceNeg, Nat.reduceLeDiff, gNe_nil, gEq_nil, nmL_len, nmL_isd, nmL_er, ex_pair, fApp, h1, decide_false]
      simp [nameB, h1]
  | _ => simp (config := { maxSteps := 4000000 }) only [w_bind, w_ret, w_ok, w_seq, w_if, w_ifE, w_test, w_and, w_or, w_not, w_andV, w_orV, w_notV, w_do, w_rt, w_asg, w_C, w_var, w_args0, w_args1, w_plc, w_own, w_val, w_prim, w_list, w_tup, w_call, w_callIo, w_callK, w_chain, w_for, w_items, w_rng, w_lc, w_meth1, w_setL2, w_stores, w_aug, w_move, w_str, mNx, mRetN, startE, rds, HE.rd, sh1, sh2, dp1, dp2, gAdd, DL.gSub, gLt, gLe, gGt, gGe, gOrd, gIsI, gLen, gIx, gIxAny, gInAny, isDct, gLenAny, enumOf, zipOf, dat, gMax2, gMin2, gAbs, gNeg, gAddI, gTupOf, gListOf, gTupAny, gListAny, gInt, gIsN, gSl0, gSlL, gSlH, gSlice, OD.erase, OD.noS, noSL, OD.shallow, OD.isD, OD.still, allStill, boolOf, aName, aTup, aAll, outs, wipeE, isL, DL.intAt, DL.putAll, allO, allD, itemsOf, rngA, rngB, fw_ok, gEq_ii, gNe_ii, gEq_ss, gNe_ss, List.getElem?_cons_zero, List.getElem?_cons_succ, List.set_cons_zero, List.set_cons_succ, List.length_cons, List.length_nil, List.map_cons, List.map_nil, List.cons_append, List.nil_append, List.replicate_succ, List.replicate_zero, List.all_cons, List.all_nil, List.eraseIdx_cons_zero, List.eraseIdx_cons_succ, List.drop_succ_cons, List.drop_zero, List.filterMap_cons, List.filterMap_nil, Option.some.injEq, exists_eq_left', exists_eq_left, exists_eq', exists_eq, Option.join_some, Option.map_some, Option.bind_some, if_true, if_false, true_and, and_true, Bool.true_and, Bool.and_true, Bool.not_true, Bool.not_false, reduceCtorEq, false_and, exists_false, Bool.false_eq_true, OD.d.injEq, OD.l.injEq, HE.o.injEq, HE.al.injEq, List.cons.injEq, PyData.bool.injEq, PyData.int.injEq, PyData.str.injEq, ite_true, ite_false, Nat.reduceSub, Nat.reduceAdd, Nat.reduceLT, Nat.reduceEqDiff, Bool.and_self, Bool.or_true, Bool.true_or, Bool.or_false, Bool.false_or, Bool.false_and, Bool.and_false, eraseL_map, isd_d, er_d, sz_ok, is_int_n, is_int_b, is_int_i, is_int_s, is_int_l, is_int_t, is_int_d, is_bool_n, is_bool_b, is_bool_i, is_bool_s, is_bool_l, is_bool_t, is_bool_d, is_str_n, is_str_b, is_str_i, is_str_s, is_str_l, is_str_t, is_str_d, is_tuple_n, is_tuple_b, is_tuple_i, is_tuple_s, is_tuple_l, is_tuple_t, is_tuple_d, is_list_n, is_list_b, is_list_i, is_list_s, is_list_l, is_list_t, is_list_d, is_dict_n, is_dict_b, is_dict_i, is_dict_s, is_dict_l, is_dict_t, is_dict_d, ic0, ic1, ic2, ic3, ic4, ic5, ic6, ic7, ic8, ic9, ic10, ic11, ic12, ic13, ic14, ic15, ic16, ic17, ic18, ic19, ic20, ic21, noSL_d, nmL_noS, eq_self, decide_true, decide_false, Int.reduceLT, Int.reduceLE, Int.reduceEq, Int.reduceAdd, Int.reduceSub, Int.reduceNeg, Nat.reduceLeDiff, gNe_nil, gEq_nil, nmL_len, nmL_isd, nmL_er, ex_pair, fApp]; rfl
def wordB (w : PyData) : Bool := match w with
  | .str w => decide (("over" : Str) = w) || decide (("skip" : Str) = w)
  | _ => false
def copyB : PyData → Bool
  | .tuple [w, s, t] => wordB w && nameB s && nameB t && !PyData.eqv s t
  | _ => false
theorem in_words (w : Str) : gInB false (.str w) (.tuple [.str "over", .str "skip"]) = some (.d (.bool (wordB (.str w)))) := by
  have e : (PyData.plainAll [.str "over", .str "skip"] && PyData.plain (.str w) && decide (min (PyData.depthAll [.str "over", .str "skip"]) (PyData.depth (.str w)) ≤ 60)) = true := rfl
  simp only [gInB, if_pos e, List.any_cons, List.any_nil, eqv_ss, Bool.or_false, Bool.false_eq_true, if_false]
  rfl
theorem nameB_str {d : PyData} (h : nameB d = true) : ∃ x, d = .str x := by
  cases d with
  | str x => exact ⟨x, rfl⟩
  | _ => cases h
theorem is3 {xs : List PyData} (h : (xs.length : Int) = 3) : ∃ x y z, xs = [x, y, z] := by
  match xs, h with
  | [x, y, z], _ => exact ⟨x, y, z, rfl⟩
  | [], h => simp at h
  | [_], h => simp at h
  | [_, _], h => simp at h
  | _ :: _ :: _ :: _ :: _, h => simp at h; omega
theorem copyB_len {xs : List PyData} (h : ¬ (xs.length : Int) = 3) : copyB (.tuple xs) = false := by
  unfold copyB
  split
  · rename_i e
    cases e
    exact absurd rfl h
  · rfl
theorem at0 {α : Type} (x y z : α) : atI [x, y, z] 0 = some x := rfl
theorem at1 {α : Type} (x y z : α) : atI [x, y, z] 1 = some y := rfl
theorem at2 {α : Type} (x y z : α) : atI [x, y, z] 2 = some z := rfl
theorem v_is_copy (d : PyData) : f_is_copy [.d d] = some (.ok (.d (.bool (copyB d))), []) := by
  rw [← fw_eq]
  unfold f_is_copy
  rw [fw_sem]
  unfold m_is_copy m_is_copy_0 m_is_copy_1
  cases d with
  | tuple xs =>
    by_cases h : (xs.length : Int) = 3
    · obtain ⟨w, s, t, rfl⟩ := is3 h
      cases w with
      | str w =>
        simp (config := { maxSteps := 4000000 }) only [w_bind, w_ret, w_ok, w_seq, w_if, w_ifE, w_test, w_and, w_or, w_not, w_andV, w_orV, w_notV, w_do, w_rt, w_asg, w_C, w_var, w_args0, w_args1, w_plc, w_own, w_val, w_prim, w_list, w_tup, w_call, w_callIo, w_callK, w_chain, w_for, w_items, w_rng, w_lc, w_meth1, w_setL2, w_stores, w_aug, w_move, w_str, mNx, mRetN, startE, rds, HE.rd, sh1, sh2, dp1, dp2, gAdd, DL.gSub, gLt, gLe, gGt, gGe, gOrd, gIsI, gLen, gIx, gIxAny, gInAny, isDct, gLenAny, enumOf, zipOf, dat, gMax2, gMin2, gAbs, gNeg, gAddI, gTupOf, gListOf, gTupAny, gListAny, gInt, gIsN, gSl0, gSlL, gSlH, gSlice, OD.erase, OD.noS, noSL, OD.shallow, OD.isD, OD.still, allStill, boolOf, aName, aTup, aAll, outs, wipeE, isL, DL.intAt, DL.putAll, allO, allD, itemsOf, rngA, rngB, fw_ok, gEq_ii, gNe_ii, gEq_ss, gNe_ss, List.getElem?_cons_zero, List.getElem?_cons_succ, List.set_cons_zero, List.set_cons_succ, List.length_cons, List.length_nil, List.map_cons, List.map_nil, List.cons_append, List.nil_append, List.replicate_succ, List.replicate_zero, List.all_cons, List.all_nil, List.eraseIdx_cons_zero, List.eraseIdx_cons_succ, List.drop_succ_cons, List.drop_zero, List.filterMap_cons, List.filterMap_nil, Option.some.injEq, exists_eq_left', exists_eq_left, exists_eq', exists_eq, Option.join_some, Option.map_some, Option.bind_some, if_true, if_false, true_and, and_true, Bool.true_and, Bool.and_true, Bool.not_true, Bool.not_false, reduceCtorEq, false_and, exists_false, Bool.false_eq_true, OD.d.injEq, OD.l.injEq, HE.o.injEq, HE.al.injEq, List.cons.injEq, PyData.bool.injEq, PyData.int.injEq, PyData.str.injEq, ite_true, ite_false, Nat.reduceSub, Nat.reduceAdd, Nat.reduceLT, Nat.reduceEqDiff, Bool.and_self, Bool.or_true, Bool.true_or, Bool.or_false, Bool.false_or, Bool.false_and, Bool.and_false, eraseL_map, isd_d, er_d, sz_ok, is_int_n, is_int_b, is_int_i, is_int_s, is_int_l, is_int_t, is_int_d, is_bool_n, is_bool_b, is_bool_i, is_bool_s, is_bool_l, is_bool_t, is_bool_d, is_str_n, is_str_b, is_str_i, is_str_s, is_str_l, is_str_t, is_str_d, is_tuple_n, is_tuple_b, is_tuple_i, is_tuple_s, is_tuple_l, is_tuple_t, is_tuple_d, is_list_n, is_list_b, is_list_i, is_list_s, is_list_l, is_list_t, is_list_d, is_dict_n, is_dict_b, is_dict_i, is_dict_s, is_dict_l, is_dict_t, is_dict_d, ic0, ic1, ic2, ic3, ic4, ic5, ic6, ic7, ic8, ic9, ic10, ic11, ic12, ic13, ic14, ic15, ic16, ic17, ic18, ic19, ic20, ic21, noSL_d, nmL_noS, eq_self, decide_true, decide_false, Int.reduceLT, Int.reduceLE, Int.reduceEq, Int.reduceAdd, Int.reduceSub, Int.reduceNeg, Nat.reduceLeDiff, gNe_nil, gEq_nil, nmL_len, nmL_isd, nmL_er, ex_pair, fApp, at0, v_is_name, in_words]
        cases hw : wordB (.str w)
        · simp (config := { maxSteps := 4000000 }) only [w_bind, w_ret, w_ok, w_seq, w_if, w_ifE, w_test, w_and, w_or, w_not, w_andV, w_orV, w_notV, w_do, w_rt, w_asg, w_C, w_var, w_args0, w_args1, w_plc, w_own, w_val, w_prim, w_list, w_tup, w_call, w_callIo, w_callK, w_chain, w_for, w_items, w_rng, w_lc, w_meth1, w_setL2, w_stores, w_aug, w_move, w_str, mNx, mRetN, startE, rds, HE.rd, sh1, sh2, dp1, dp2, gAdd, DL.gSub, gLt, gLe, gGt, gGe, gOrd, gIsI, gLen, gIx, gIxAny, gInAny, isDct, gLenAny, enumOf, zipOf, dat, gMax2, gMin2, gAbs, gNeg, gAddI, gTupOf, gListOf, gTupAny, gListAny, gInt, gIsN, gSl0, gSlL, gSlH, gSlice, OD.erase, OD.noS, noSL, OD.shallow, OD.isD, OD.still, allStill, boolOf, aName, aTup, aAll, outs, wipeE, isL, DL.intAt, DL.putAll, allO, allD, itemsOf, rngA, rngB, fw_ok, gEq_ii, gNe_ii, gEq_ss, gNe_ss, List.getElem?_cons_zero, List.getElem?_cons_succ, List.set_cons_zero, List.set_cons_succ, List.length_cons, List.length_nil, List.map_cons, List.map_nil, List.cons_append, List.nil_append, List.replicate_succ, List.replicate_zero, List.all_cons, List.all_nil, List.eraseIdx_cons_zero, List.eraseIdx_cons_succ, List.drop_succ_cons, List.drop_zero, List.filterMap_cons, List.filterMap_nil, Option.some.injEq, exists_eq_left', exists_eq_left, exists_eq', exists_eq, Option.join_some, Option.map_some, Option.bind_some, if_true, if_false, true_and, and_true, Bool.true_and, Bool.and_true, Bool.not_true, Bool.not_false, reduceCtorEq, false_and, exists_false, Bool.false_eq_true, OD.d.injEq, OD.l.injEq, HE.o.injEq, HE.al.injEq, List.cons.injEq, PyData.bool.injEq, PyData.int.injEq, PyData.str.injEq, ite_true, ite_false, Nat.reduceSub, Nat.reduceAdd, Nat.reduceLT, Nat.reduceEqDiff, Bool.and_self, Bool.or_true, Bool.true_or, Bool.or_false, Bool.false_or, Bool.false_and, Bool.and_false, eraseL_map, isd_d, er_d, sz_ok, is_int_n, is_int_b, is_int_i, is_int_s, is_int_l, is_int_t, is_int_d, is_bool_n, is_bool_b, is_bool_i, is_bool_s, is_bool_l, is_bool_t, is_bool_d, is_str_n, is_str_b, is_str_i, is_str_s, is_str_l, is_str_t, is_str_d, is_tuple_n, is_tuple_b, is_tuple_i, is_tuple_s, is_tuple_l, is_tuple_t, is_tuple_d, is_list_n, is_list_b, is_list_i, is_list_s, is_list_l, is_list_t, is_list_d, is_dict_n, is_dict_b, is_dict_i, is_dict_s, is_dict_l, is_dict_t, is_dict_d, ic0, ic1, ic2, ic3, ic4, ic5, ic6, ic7, ic8, ic9, ic10, ic11, ic12, ic13, ic14, ic15, ic16, ic17, ic18, ic19, ic20, ic21, noSL_d, nmL_noS, eq_self, decide_true, decide_false, Int.reduceLT, Int.reduceLE, Int.reduceEq, Int.reduceAdd, Int.reduceSub, Int.reduceNeg, Nat.reduceLeDiff, gNe_nil, gEq_nil, nmL_len, nmL_isd, nmL_er, ex_pair, fApp]
          simp [copyB, hw]
        · simp (config := { maxSteps := 4000000 }) only [w_bind, w_ret, w_ok, w_seq, w_if, w_ifE, w_test, w_and, w_or, w_not, w_andV, w_orV, w_notV, w_do, w_rt, w_asg, w_C, w_var, w_args0, w_args1, w_plc, w_own, w_val, w_prim, w_list, w_tup, w_call, w_callIo, w_callK, w_chain, w_for, w_items, w_rng, w_lc, w_meth1, w_setL2, w_stores, w_aug, w_move, w_str, mNx, mRetN, startE, rds, HE.rd, sh1, sh2, dp1, dp2, gAdd, DL.gSub, gLt, gLe, gGt, gGe, gOrd, gIsI, gLen, gIx, gIxAny, gInAny, isDct, gLenAny, enumOf, zipOf, dat, gMax2, gMin2, gAbs, gNeg, gAddI, gTupOf, gListOf, gTupAny, gListAny, gInt, gIsN, gSl0, gSlL, gSlH, gSlice, OD.erase, OD.noS, noSL, OD.shallow, OD.isD, OD.still, allStill, boolOf, aName, aTup, aAll, outs, wipeE, isL, DL.intAt, DL.putAll, allO, allD, itemsOf, rngA, rngB, fw_ok, gEq_ii, gNe_ii, gEq_ss, gNe_ss, List.getElem?_cons_zero, List.getElem?_cons_succ, List.set_cons_zero, List.set_cons_succ, List.length_cons, List.length_nil, List.map_cons, List.map_nil, List.cons_append, List.nil_append, List.replicate_succ, List.replicate_zero, List.all_cons, List.all_nil, List.eraseIdx_cons_zero, List.eraseIdx_cons_succ, List.drop_succ_cons, List.drop_zero, List.filterMap_cons, List.filterMap_nil, Option.some.injEq, exists_eq_left', exists_eq_left, exists_eq', exists_eq, Option.join_some, Option.map_some, Option.bind_some, if_true, if_false, true_and, and_true, Bool.true_and, Bool.and_true, Bool.not_true, Bool.not_false, reduceCtorEq, false_and, exists_false, Bool.false_eq_true, OD.d.injEq, OD.l.injEq, HE.o.injEq, HE.al.injEq, List.cons.injEq, PyData.bool.injEq, PyData.int.injEq, PyData.str.injEq, ite_true, ite_false, Nat.reduceSub, Nat.reduceAdd, Nat.reduceLT, Nat.reduceEqDiff, Bool.and_self, Bool.or_true, Bool.true_or, Bool.or_false, Bool.false_or, Bool.false_and, Bool.and_false, eraseL_map, isd_d, er_d, sz_ok, is_int_n, is_int_b, is_int_i, is_int_s, is_int_l, is_int_t, is_int_d, is_bool_n, is_bool_b, is_bool_i, is_bool_s, is_bool_l, is_bool_t, is_bool_d, is_str_n, is_str_b, is_str_i, is_str_s, is_str_l, is_str_t, is_str_d, is_tuple_n, is_tuple_b, is_tuple_i, is_tuple_s, is_tuple_l, is_tuple_t, is_tuple_d, is_list_n, is_list_b, is_list_i, is_list_s, is_list_l, is_list_t, is_list_d, is_dict_n, is_dict_b, is_dict_i, is_dict_s, is_dict_l, is_dict_t, is_dict_d, ic0, ic1, ic2, ic3, ic4, ic5, ic6, ic7, ic8, ic9, ic10, ic11, ic12, ic13, ic14, ic15, ic16, ic17, ic18, ic19, ic20, ic21, noSL_d, nmL_noS, eq_self, decide_true, decide_false, Int.reduceLT, Int.reduceLE, Int.reduceEq, Int.reduceAdd, Int.reduceSub, Int.reduceNeg, Nat.reduceLeDiff, gNe_nil, gEq_nil, nmL_len, nmL_isd, nmL_er, ex_pair, fApp, v_is_name]
          rcases Bool.eq_false_or_eq_true (nameB s) with hs | hs
          rotate_left
          · simp (config := { maxSteps := 4000000 }) only [w_bind, w_ret, w_ok, w_seq, w_if, w_ifE, w_test, w_and, w_or, w_not, w_andV, w_orV, w_notV, w_do, w_rt, w_asg, w_C, w_var, w_args0, w_args1, w_plc, w_own, w_val, w_prim, w_list, w_tup, w_call, w_callIo, w_callK, w_chain, w_for, w_items, w_rng, w_lc, w_meth1, w_setL2, w_stores, w_aug, w_move, w_str, mNx, mRetN, startE, rds, HE.rd, sh1, sh2, dp1, dp2, gAdd, DL.gSub, gLt, gLe, gGt, gGe, gOrd, gIsI, gLen, gIx, gIxAny, gInAny, isDct, gLenAny, enumOf, zipOf, dat, gMax2, gMin2, gAbs, gNeg, gAddI, gTupOf, gListOf, gTupAny, gListAny, gInt, gIsN, gSl0, gSlL, gSlH, gSlice, OD.erase, OD.noS, noSL, OD.shallow, OD.isD, OD.still, allStill, boolOf, aName, aTup, aAll, outs, wipeE, isL, DL.intAt, DL.putAll, allO, allD, itemsOf, rngA, rngB, fw_ok, gEq_ii, gNe_ii, gEq_ss, gNe_ss, List.getElem?_cons_zero, List.getElem?_cons_succ, List.set_cons_zero, List.set_cons_succ, List.length_cons, List.length_nil, List.map_cons, List.map_nil, List.cons_append, List.nil_append, List.replicate_succ, List.replicate_zero, List.all_cons, List.all_nil, List.eraseIdx_cons_zero, List.eraseIdx_cons_succ, List.drop_succ_cons, List.drop_zero, List.filterMap_cons, List.filterMap_nil, Option.some.injEq, exists_eq_left', exists_eq_left, exists_eq', exists_eq, Option.join_some, Option.map_some, Option.bind_some, if_true, if_false, true_and, and_true, Bool.true_and, Bool.and_true, Bool.not_true, Bool.not_false, reduceCtorEq, false_and, exists_false, Bool.false_eq_true, OD.d.injEq, OD.l.injEq, HE.o.injEq, HE.al.injEq, List.cons.injEq, PyData.bool.injEq, PyData.int.injEq, PyData.str.injEq, ite_true, ite_false, Nat.reduceSub, Nat.reduceAdd, Nat.reduceLT, Nat.reduceEqDiff, Bool.and_self, Bool.or_true, Bool.true_or, Bool.or_false, Bool.false_or, Bool.false_and, Bool.and_false, eraseL_map, isd_d, er_d, sz_ok, is_int_n, is_int_b, is_int_i, is_int_s, is_int_l, is_int_t, is_int_d, is_bool_n, is_bool_b, is_bool_i, is_bool_s, is_bool_l, is_bool_t, is_bool_d, is_str_n, is_str_b, is_str_i, is_str_s, is_str_l, is_str_t, is_str_d, is_tuple_n, is_tuple_b, is_tuple_i, is_tuple_s, is_tuple_l, is_tuple_t, is_tuple_d, is_list_n, is_list_b, is_list_i, is_list_s, is_list_l, is_list_t, is_list_d, is_dict_n, is_dict_b, is_dict_i, is_dict_s, is_dict_l, is_dict_t, is_dict_d, ic0, ic1, ic2, ic3, ic4, ic5, ic6, ic7, ic8, ic9, ic10, ic11, ic12, ic13, ic14, ic15, ic16, ic17, ic18, ic19, ic20, ic21, noSL_d, nmL_noS, eq_self, decide_true, decide_false, Int.reduceLT, Int.reduceLE, Int.reduceEq, Int.reduceAdd, Int.reduceSub, Int.reduceNeg, Nat.reduceLeDiff, gNe_nil, gEq_nil, nmL_len, nmL_isd, nmL_er, ex_pair, fApp, hs]
            simp [copyB, hw, hs]
          · simp (config := { maxSteps := 4000000 }) only [w_bind, w_ret, w_ok, w_seq, w_if, w_ifE, w_test, w_and, w_or, w_not, w_andV, w_orV, w_notV, w_do, w_rt, w_asg, w_C, w_var, w_args0, w_args1, w_plc, w_own, w_val, w_prim, w_list, w_tup, w_call, w_callIo, w_callK, w_chain, w_for, w_items, w_rng, w_lc, w_meth1, w_setL2, w_stores, w_aug, w_move, w_str, mNx, mRetN, startE, rds, HE.rd, sh1, sh2, dp1, dp2, gAdd, DL.gSub, gLt, gLe, gGt, gGe, gOrd, gIsI, gLen, gIx, gIxAny, gInAny, isDct, gLenAny, enumOf, zipOf, dat, gMax2, gMin2, gAbs, gNeg, gAddI, gTupOf, gListOf, gTupAny, gListAny, gInt, gIsN, gSl0, gSlL, gSlH, gSlice, OD.erase, OD.noS, noSL, OD.shallow, OD.isD, OD.still, allStill, boolOf, aName, aTup, aAll, outs, wipeE, isL, DL.intAt, DL.putAll, allO, allD, itemsOf, rngA, rngB, fw_ok, gEq_ii, gNe_ii, gEq_ss, gNe_ss, List.getElem?_cons_zero, List.getElem?_cons_succ, List.set_cons_zero, List.set_cons_succ, List.length_cons, List.length_nil, List.map_cons, List.map_nil, List.cons_append, List.nil_append, List.replicate_succ, List.replicate_zero, List.all_cons, List.all_nil, List.eraseIdx_cons_zero, List.eraseIdx_cons_succ, List.drop_succ_cons, List.drop_zero, List.filterMap_cons, List.filterMap_nil, Option.some.injEq, exists_eq_left', exists_eq_left, exists_eq', exists_eq, Option.join_some, Option.map_some, Option.bind_some, if_true, if_false, true_and, and_true, Bool.true_and, Bool.and_true, Bool.not_true, Bool.not_false, reduceCtorEq, false_and, exists_false, Bool.false_eq_true, OD.d.injEq, OD.l.injEq, HE.o.injEq, HE.al.injEq, List.cons.injEq, PyData.bool.injEq, PyData.int.injEq, PyData.str.injEq, ite_true, ite_false, Nat.reduceSub, Nat.reduceAdd, Nat.reduceLT, Nat.reduceEqDiff, Bool.and_self, Bool.or_true, Bool.true_or, Bool.or_false, Bool.false_or, Bool.false_and, Bool.and_false, eraseL_map, isd_d, er_d, sz_ok, is_int_n, is_int_b, is_int_i, is_int_s, is_int_l, is_int_t, is_int_d, is_bool_n, is_bool_b, is_bool_i, is_bool_s, is_bool_l, is_bool_t, is_bool_d, is_str_n, is_str_b, is_str_i, is_str_s, is_str_l, is_str_t, is_str_d, is_tuple_n, is_tuple_b, is_tuple_i, is_tuple_s, is_tuple_l, is_tuple_t, is_tuple_d, is_list_n, is_list_b, is_list_i, is_list_s, is_list_l, is_list_t, is_list_d, is_dict_n, is_dict_b, is_dict_i, is_dict_s, is_dict_l, is_dict_t, is_dict_d, ic0, ic1, ic2, ic3, ic4, ic5, ic6, ic7, ic8, ic9, ic10, ic11, ic12, ic13, ic14, ic15, ic16, ic17, ic18, ic19, ic20, ic21, noSL_d, nmL_noS, eq_self, decide_true, decide_false, Int.reduceLT, Int.reduceLE, Int.reduceEq, Int.reduceAdd, Int.reduceSub, Int.reduceNeg, Nat.reduceLeDiff, gNe_nil, gEq_nil, nmL_len, nmL_isd, nmL_er, ex_pair, fApp, v_is_name, hs]
            rcases Bool.eq_false_or_eq_true (nameB t) with ht | ht
            rotate_left
            · simp (config := { maxSteps := 4000000 }) only [w_bind, w_ret, w_ok, w_seq, w_if, w_ifE, w_test, w_and, w_or, w_not, w_andV, w_orV, w_notV, w_do, w_rt, w_asg, w_C, w_var, w_args0, w_args1, w_plc, w_own, w_val, w_prim, w_list, w_tup, w_call, w_callIo, w_callK, w_chain, w_for, w_items, w_rng, w_lc, w_meth1, w_setL2, w_stores, w_aug, w_move, w_str, mNx, mRetN, startE, rds, HE.rd, sh1, sh2, dp1, dp2, gAdd, DL.gSub, gLt, gLe, gGt, gGe, gOrd, gIsI, gLen, gIx, gIxAny, gInAny, isDct, gLenAny, enumOf, zipOf, dat, gMax2, gMin2, gAbs, gNeg, gAddI, gTupOf, gListOf, gTupAny, gListAny, gInt, gIsN, gSl0, gSlL, gSlH, gSlice, OD.erase, OD.noS, noSL, OD.shallow, OD.isD, OD.still, allStill, boolOf, aName, aTup, aAll, outs, wipeE, isL, DL.intAt, DL.putAll, allO, allD, itemsOf, rngA, rngB, fw_ok, gEq_ii, gNe_ii, gEq_ss, gNe_ss, List.getElem?_cons_zero, List.getElem?_cons_succ, List.set_cons_zero, List.set_cons_succ, List.length_cons, List.length_nil, List.map_cons, List.map_nil, List.cons_append, List.nil_append, List.replicate_succ, List.replicate_zero, List.all_cons, List.all_nil, List.eraseIdx_cons_zero, List.eraseIdx_cons_succ, List.drop_succ_cons, List.drop_zero, List.filterMap_cons, List.filterMap_nil, Option.some.injEq, exists_eq_left', exists_eq_left, exists_eq', exists_eq, Option.join_some, Option.map_some, Option.bind_some, if_true, if_false, true_and, and_true, Bool.true_and, Bool.and_true, Bool.not_true, Bool.not_false, reduceCtorEq, false_and, exists_false, Bool.false_eq_true, OD.d.injEq, OD.l.injEq, HE.o.injEq, HE.al.injEq, List.cons.injEq, PyData.bool.injEq, PyData.int.injEq, PyData.str.injEq, ite_true, ite_false, Nat.reduceSub, Nat.reduceAdd, Nat.reduceLT, Nat.reduceEqDiff, Bool.and_self, Bool.or_true, Bool.true_or, Bool.or_false, Bool.false_or, Bool.false_and, Bool.and_false, eraseL_map, isd_d, er_d, sz_ok, is_int_n, is_int_b, is_int_i, is_int_s, is_int_l, is_int_t, is_int_d, is_bool_n, is_bool_b, is_bool_i, is_bool_s, is_bool_l, is_bool_t, is_bool_d, is_str_n, is_str_b, is_str_i, is_str_s, is_str_l, is_str_t, is_str_d, is_tuple_n, is_tuple_b, is_tuple_i, is_tuple_s, is_tuple_l, is_tuple_t, is_tuple_d, is_list_n, is_list_b, is_list_i, is_list_s, is_list_l, is_list_t, is_list_d, is_dict_n, is_dict_b, is_dict_i, is_dict_s, is_dict_l, is_dict_t, is_dict_d, ic0, ic1, ic2, ic3, ic4, ic5, ic6, ic7, ic8, ic9, ic10, ic11, ic12, ic13, ic14, ic15, ic16, ic17, ic18, ic19, ic20, ic21, noSL_d, nmL_noS, eq_self, decide_true, decide_false, Int.reduceLT, Int.reduceLE, Int.reduceEq, Int.reduceAdd, Int.reduceSub, Int.reduceNeg, Nat.reduceLeDiff, gNe_nil, gEq_nil, nmL_len, nmL_isd, nmL_er, ex_pair, fApp, ht]
              simp [copyB, hw, hs, ht]
            · obtain ⟨x, rfl⟩ := nameB_str hs
              obtain ⟨y, rfl⟩ := nameB_str ht
              simp (config := { maxSteps := 4000000 }) only [w_bind, w_ret, w_ok, w_seq, w_if, w_ifE, w_test, w_and, w_or, w_not, w_andV, w_orV, w_notV, w_do, w_rt, w_asg, w_C, w_var, w_args0, w_args1, w_plc, w_own, w_val, w_prim, w_list, w_tup, w_call, w_callIo, w_callK, w_chain, w_for, w_items, w_rng, w_lc, w_meth1, w_setL2, w_stores, w_aug, w_move, w_str, mNx, mRetN, startE, rds, HE.rd, sh1, sh2, dp1, dp2, gAdd, DL.gSub, gLt, gLe, gGt, gGe, gOrd, gIsI, gLen, gIx, gIxAny, gInAny, isDct, gLenAny, enumOf, zipOf, dat, gMax2, gMin2, gAbs, gNeg, gAddI, gTupOf, gListOf, gTupAny, gListAny, gInt, gIsN, gSl0, gSlL, gSlH, gSlice, OD.erase, OD.noS, noSL, OD.shallow, OD.isD, OD.still, allStill, boolOf, aName, aTup, aAll, outs, wipeE, isL, DL.intAt, DL.putAll, allO, allD, itemsOf, rngA, rngB, fw_ok, gEq_ii, gNe_ii, gEq_ss, gNe_ss, List.getElem?_cons_zero, List.getElem?_cons_succ, List.set_cons_zero, List.set_cons_succ, List.length_cons, List.length_nil, List.map_cons, List.map_nil, List.cons_append, List.nil_append, List.replicate_succ, List.replicate_zero, List.all_cons, List.all_nil, List.eraseIdx_cons_zero, List.eraseIdx_cons_succ, List.drop_succ_cons, List.drop_zero, List.filterMap_cons, List.filterMap_nil, Option.some.injEq, exists_eq_left', exists_eq_left, exists_eq', exists_eq, Option.join_some, Option.map_some, Option.bind_some, if_true, if_false, true_and, and_true, Bool.true_and, Bool.and_true, Bool.not_true, Bool.not_false, reduceCtorEq, false_and, exists_false, Bool.false_eq_true, OD.d.injEq, OD.l.injEq, HE.o.injEq, HE.al.injEq, List.cons.injEq, PyData.bool.injEq, PyData.int.injEq, PyData.str.injEq, ite_true, ite_false, Nat.reduceSub, Nat.reduceAdd, Nat.reduceLT, Nat.reduceEqDiff, Bool.and_self, Bool.or_true, Bool.true_or, Bool.or_false, Bool.false_or, Bool.false_and, Bool.and_false, eraseL_map, isd_d, er_d, sz_ok, is_int_n, is_int_b, is_int_i, is_int_s, is_int_l, is_int_t, is_int_d, is_bool_n, is_bool_b, is_bool_i, is_bool_s, is_bool_l, is_bool_t, is_bool_d, is_str_n, is_str_b, is_str_i, is_str_s, is_str_l, is_str_t, is_str_d, is_tuple_n, is_tuple_b, is_tuple_i, is_tuple_s, is_tuple_l, is_tuple_t, is_tuple_d, is_list_n, is_list_b, is_list_i, is_list_s, is_list_l, is_list_t, is_list_d, is_dict_n, is_dict_b, is_dict_i, is_dict_s, is_dict_l, is_dict_t, is_dict_d, ic0, ic1, ic2, ic3, ic4, ic5, ic6, ic7, ic8, ic9, ic10, ic11, ic12, ic13, ic14, ic15, ic16, ic17, ic18, ic19, ic20, ic21, noSL_d, nmL_noS, eq_self, decide_true, decide_false, Int.reduceLT, Int.reduceLE, Int.reduceEq, Int.reduceAdd, Int.reduceSub, Int.reduceNeg, Nat.reduceLeDiff, gNe_nil, gEq_nil, nmL_len, nmL_isd, nmL_er, ex_pair, fApp, ht]
              simp [copyB, hw, hs, ht, eqv_ss]
      | _ => simp (config := { maxSteps := 4000000 }) only [w_bind, w_ret, w_ok, w_seq, w_if, w_ifE, w_test, w_and, w_or, w_not, w_andV, w_orV, w_notV, w_do, w_rt, w_asg, w_C, w_var, w_args0, w_args1, w_plc, w_own, w_val, w_prim, w_list, w_tup, w_call, w_callIo, w_callK, w_chain, w_for, w_items, w_rng, w_lc, w_meth1, w_setL2, w_stores, w_aug, w_move, w_str, mNx, mRetN, startE, rds, HE.rd, sh1, sh2, dp1, dp2, gAdd, DL.gSub, gLt, gLe, gGt, gGe, gOrd, gIsI, gLen, gIx, gIxAny, gInAny, isDct, gLenAny, enumOf, zipOf, dat, gMax2, gMin2, gAbs, gNeg, gAddI, gTupOf, gListOf, gTupAny, gListAny, gInt, gIsN, gSl0, gSlL, gSlH, gSlice, OD.erase, OD.noS, noSL, OD.shallow, OD.isD, OD.still, allStill, boolOf, aName, aTup, aAll, outs, wipeE, isL, DL.intAt, DL.putAll, allO, allD, itemsOf, rngA, rngB, fw_ok, gEq_ii, gNe_ii, gEq_ss, gNe_ss, List.getElem?_cons_zero, List.getElem?_cons_succ, List.set_cons_zero, List.set_cons_succ, List.length_cons, List.length_nil, List.map_cons, List.map_nil, List.cons_append, List.nil_append, List.replicate_succ, List.replicate_zero, List.all_cons, List.all_nil, List.eraseIdx_cons_zero, List.eraseIdx_cons_succ, List.drop_succ_cons, List.drop_zero, List.filterMap_cons, List.filterMap_nil, Option.some.injEq, exists_eq_left', exists_eq_left, exists_eq', exists_eq, Option.join_some, Option.map_some, Option.bind_some, if_true, if_false, true_and, and_true, Bool.true_and, Bool.and_true, Bool.not_true, Bool.not_false, reduceCtorEq, false_and, exists_false, Bool.false_eq_true, OD.d.injEq, OD.l.injEq, HE.o.injEq, HE.al.injEq, List.cons.injEq, PyData.bool.injEq, PyData.int.injEq, PyData.str.injEq, ite_true, ite_false, Nat.reduceSub, Nat.reduceAdd, Nat.reduceLT, Nat.reduceEqDiff, Bool.and_self, Bool.or_true, Bool.true_or, Bool.or_false, Bool.false_or, Bool.false_and, Bool.and_false, eraseL_map, isd_d, er_d, sz_ok, is_int_n, is_int_b, is_int_i, is_int_s, is_int_l, is_int_t, is_int_d, is_bool_n, is_bool_b, is_bool_i, is_bool_s, is_bool_l, is_bool_t, is_bool_d, is_str_n, is_str_b, is_str_i, is_str_s, is_str_l, is_str_t, is_str_d, is_tuple_n, is_tuple_b, is_tuple_i, is_tuple_s, is_tuple_l, is_tuple_t, is_tuple_d, is_list_n, is_list_b, is_list_i, is_list_s, is_list_l, is_list_t, is_list_d, is_dict_n, is_dict_b, is_dict_i, is_dict_s, is_dict_l, is_dict_t, is_dict_d, ic0, ic1, ic2, ic3, ic4, ic5, ic6, ic7, ic8, ic9, ic10, ic11, ic12, ic13, ic14, ic15, ic16, ic17, ic18, ic19, ic20, ic21, noSL_d, nmL_noS, eq_self, decide_true, decide_false, Int.reduceLT, Int.reduceLE, Int.reduceEq, Int.reduceAdd, Int.reduceSub, Int.reduceNeg, Nat.reduceLeDiff, gNe_nil, gEq_nil, nmL_len, nmL_isd, nmL_er, ex_pair, fApp, at0]; rfl
    · simp (config := { maxSteps := 4000000 }) only [w_bind, w_ret, w_ok, w_seq, w_if, w_ifE, w_test, w_and, w_or, w_not, w_andV, w_orV, w_notV, w_do, w_rt, w_asg, w_C, w_var, w_args0, w_args1, w_plc, w_own, w_val, w_prim, w_list, w_tup, w_call, w_callIo, w_callK, w_chain, w_for, w_items, w_rng, w_lc, w_meth1, w_setL2, w_stores, w_aug, w_move, w_str, mNx, mRetN, startE, rds, HE.rd, sh1, sh2, dp1, dp2, gAdd, DL.gSub, gLt, gLe, gGt, gGe, gOrd, gIsI, gLen, gIx, gIxAny, gInAny, isDct, gLenAny, enumOf, zipOf, dat, gMax2, gMin2, gAbs, gNeg, gAddI, gTupOf, gListOf, gTupAny, gListAny, gInt, gIsN, gSl0, gSlL, gSlH, gSlice, OD.erase, OD.noS, noSL, OD.shallow, OD.isD, OD.still, allStill, boolOf, aName, aTup, aAll, outs, wipeE, isL, DL.intAt, DL.putAll, allO, allD, itemsOf, rngA, rngB, fw_ok, gEq_ii, gNe_ii, gEq_ss, gNe_ss, List.getElem?_cons_zero, List.getElem?_cons_succ, List.set_cons_zero, List.set_cons_succ, List.length_cons, List.length_nil, List.map_cons, List.map_nil, List.cons_append, List.nil_append, List.replicate_succ, List.replicate_zero, List.all_cons, List.all_nil, List.eraseIdx_cons_zero, List.eraseIdx_cons_succ, List.drop_succ_cons, List.drop_zero, List.filterMap_cons, List.filterMap_nil, Option.some.injEq, exists_eq_left', exists_eq_left, exists_eq', exists_eq, Option.join_some, Option.map_some, Option.bind_some, if_true, if_false, true_and, and_true, Bool.true_and, Bool.and_true, Bool.not_true, Bool.not_false, reduceCtorEq, false_and, exists_false, Bool.false_eq_true, OD.d.injEq, OD.l.injEq, HE.o.injEq, HE.al.injEq, List.cons.injEq, PyData.bool.injEq, PyData.int.injEq, PyData.str.injEq, ite_true, ite_false, Nat.reduceSub, Nat.reduceAdd, Nat.reduceLT, Nat.reduceEqDiff, Bool.and_self, Bool.or_true, Bool.true_or, Bool.or_false, Bool.false_or, Bool.false_and, Bool.and_false, eraseL_map, isd_d, er_d, sz_ok, is_int_n, is_int_b, is_int_i, is_int_s, is_int_l, is_int_t, is_int_d, is_bool_n, is_bool_b, is_bool_i, is_bool_s, is_bool_l, is_bool_t, is_bool_d, is_str_n, is_str_b, is_str_i, is_str_s, is_str_l, is_str_t, is_str_d, is_tuple_n, is_tuple_b, is_tuple_i, is_tuple_s, is_tuple_l, is_tuple_t, is_tuple_d, is_list_n, is_list_b, is_list_i, is_list_s, is_list_l, is_list_t, is_list_d, is_dict_n, is_dict_b, is_dict_i, is_dict_s, is_dict_l, is_dict_t, is_dict_d, ic0, ic1, ic2, ic3, ic4, ic5, ic6, ic7, ic8, ic9, ic10, ic11, ic12, ic13, ic14, ic15, ic16, ic17, ic18, ic19, ic20, ic21, noSL_d, nmL_noS, eq_self, decide_true, decide_false, Int.reduceLT, Int.reduceLE, Int.reduceEq, Int.reduceAdd, Int.reduceSub, Int.reduceNeg, Nat.reduceLeDiff, gNe_nil, gEq_nil, nmL_len, nmL_isd, nmL_er, ex_pair, fApp, h, decide_false, copyB_len h]
  | _ => simp (config := { maxSteps := 4000000 }) only [w_bind, w_ret, w_ok, w_seq, w_if, w_ifE, w_test, w_and, w_or, w_not, w_andV, w_orV, w_notV, w_do, w_rt, w_asg, w_C, w_var, w_args0, w_args1, w_plc, w_own, w_val, w_prim, w_list, w_tup, w_call, w_callIo, w_callK, w_chain, w_for, w_items, w_rng, w_lc, w_meth1, w_setL2, w_stores, w_aug, w_move, w_str, mNx, mRetN, startE, rds, HE.rd, sh1, sh2, dp1, dp2, gAdd, DL.gSub, gLt, gLe, gGt, gGe, gOrd, gIsI, gLen, gIx, gIxAny, gInAny, isDct, gLenAny, enumOf, zipOf, dat, gMax2, gMin2, gAbs, gNeg, gAddI, gTupOf, gListOf, gTupAny, gListAny, gInt, gIsN, gSl0, gSlL, gSlH, gSlice, OD.erase, OD.noS, noSL, OD.shallow, OD.isD, OD.still, allStill, boolOf, aName, aTup, aAll, outs, wipeE, isL, DL.intAt, DL.putAll, allO, allD, itemsOf, rngA, rngB, fw_ok, gEq_ii, gNe_ii, gEq_ss, gNe_ss, List.getElem?_cons_zero, List.getElem?_cons_succ, List.set_cons_zero, List.set_cons_succ, List.length_cons, List.length_nil, List.map_cons, List.map_nil, List.cons_append, List.nil_append, List.replicate_succ, List.replicate_zero, List.all_cons, List.all_nil, List.eraseIdx_cons_zero, List.eraseIdx_cons_succ, List.drop_succ_cons, List.drop_zero, List.filterMap_cons, List.filterMap_nil, Option.some.injEq, exists_eq_left', exists_eq_left, exists_eq', exists_eq, Option.join_some, Option.map_some, Option.bind_some, if_true, if_false, true_and, and_true, Bool.true_and, Bool.and_true, Bool.not_true, Bool.not_false, reduceCtorEq, false_and, exists_false, Bool.false_eq_true, OD.d.injEq, OD.l.injEq, HE.o.injEq, HE.al.injEq, List.cons.injEq, PyData.bool.injEq, PyData.int.injEq, PyData.str.injEq, ite_true, ite_false, Nat.reduceSub, Nat.reduceAdd, Nat.reduceLT, Nat.reduceEqDiff, Bool.and_self, Bool.or_true, Bool.true_or, Bool.or_false, Bool.false_or, Bool.false_and, Bool.and_false, eraseL_map, isd_d, er_d, sz_ok, is_int_n, is_int_b, is_int_i, is_int_s, is_int_l, is_int_t, is_int_d, is_bool_n, is_bool_b, is_bool_i, is_bool_s, is_bool_l, is_bool_t, is_bool_d, is_str_n, is_str_b, is_str_i, is_str_s, is_str_l, is_str_t, is_str_d, is_tuple_n, is_tuple_b, is_tuple_i, is_tuple_s, is_tuple_l, is_tuple_t, is_tuple_d, is_list_n, is_list_b, is_list_i, is_list_s, is_list_l, is_list_t, is_list_d, is_dict_n, is_dict_b, is_dict_i, is_dict_s, is_dict_l, is_dict_t, is_dict_d, ic0, ic1, ic2, ic3, ic4, ic5, ic6, ic7, ic8, ic9, ic10, ic11, ic12, ic13, ic14, ic15, ic16, ic17, ic18, ic19, ic20, ic21, noSL_d, nmL_noS, eq_self, decide_true, decide_false, Int.reduceLT, Int.reduceLE, Int.reduceEq, Int.reduceAdd, Int.reduceSub, Int.reduceNeg, Nat.reduceLeDiff, gNe_nil, gEq_nil, nmL_len, nmL_isd, nmL_er, ex_pair, fApp]; rfl
def scriptB : PyData → Bool
  | .tuple xs => decide ((xs.length : Int) ≤ 200) && xs.all copyB
  | _ => false
theorem v_is_script (d : PyData) : f_is_script [.d d] = some (.ok (.d (.bool (scriptB d))), []) := by
  rw [← fw_eq]
  unfold f_is_script
  rw [fw_sem]
  unfold m_is_script m_is_script_0
  cases d with
  | tuple xs =>
    by_cases h : (xs.length : Int) ≤ 200
    · have hz : xs.length ≤ 16777216 := by omega
      simp (config := { maxSteps := 4000000 }) only [w_bind, w_ret, w_ok, w_seq, w_if, w_ifE, w_test, w_and, w_or, w_not, w_andV, w_orV, w_notV, w_do, w_rt, w_asg, w_C, w_var, w_args0, w_args1, w_plc, w_own, w_val, w_prim, w_list, w_tup, w_call, w_callIo, w_callK, w_chain, w_for, w_items, w_rng, w_lc, w_meth1, w_setL2, w_stores, w_aug, w_move, w_str, mNx, mRetN, startE, rds, HE.rd, sh1, sh2, dp1, dp2, gAdd, DL.gSub, gLt, gLe, gGt, gGe, gOrd, gIsI, gLen, gIx, gIxAny, gInAny, isDct, gLenAny, enumOf, zipOf, dat, gMax2, gMin2, gAbs, gNeg, gAddI, gTupOf, gListOf, gTupAny, gListAny, gInt, gIsN, gSl0, gSlL, gSlH, gSlice, OD.erase, OD.noS, noSL, OD.shallow, OD.isD, OD.still, allStill, boolOf, aName, aTup, aAll, outs, wipeE, isL, DL.intAt, DL.putAll, allO, allD, itemsOf, rngA, rngB, fw_ok, gEq_ii, gNe_ii, gEq_ss, gNe_ss, List.getElem?_cons_zero, List.getElem?_cons_succ, List.set_cons_zero, List.set_cons_succ, List.length_cons, List.length_nil, List.map_cons, List.map_nil, List.cons_append, List.nil_append, List.replicate_succ, List.replicate_zero, List.all_cons, List.all_nil, List.eraseIdx_cons_zero, List.eraseIdx_cons_succ, List.drop_succ_cons, List.drop_zero, List.filterMap_cons, List.filterMap_nil, Option.some.injEq, exists_eq_left', exists_eq_left, exists_eq', exists_eq, Option.join_some, Option.map_some, Option.bind_some, if_true, if_false, true_and, and_true, Bool.true_and, Bool.and_true, Bool.not_true, Bool.not_false, reduceCtorEq, false_and, exists_false, Bool.false_eq_true, OD.d.injEq, OD.l.injEq, HE.o.injEq, HE.al.injEq, List.cons.injEq, PyData.bool.injEq, PyData.int.injEq, PyData.str.injEq, ite_true, ite_false, Nat.reduceSub, Nat.reduceAdd, Nat.reduceLT, Nat.reduceEqDiff, Bool.and_self, Bool.or_true, Bool.true_or, Bool.or_false, Bool.false_or, Bool.false_and, Bool.and_false, eraseL_map, isd_d, er_d, sz_ok, is_int_n, is_int_b, is_int_i, is_int_s, is_int_l, is_int_t, is_int_d, is_bool_n, is_bool_b, is_bool_i, is_bool_s, is_bool_l, is_bool_t, is_bool_d, is_str_n, is_str_b, is_str_i, is_str_s, is_str_l, is_str_t, is_str_d, is_tuple_n, is_tuple_b, is_tuple_i, is_tuple_s, is_tuple_l, is_tuple_t, is_tuple_d, is_list_n, is_list_b, is_list_i, is_list_s, is_list_l, is_list_t, is_list_d, is_dict_n, is_dict_b, is_dict_i, is_dict_s, is_dict_l, is_dict_t, is_dict_d, ic0, ic1, ic2, ic3, ic4, ic5, ic6, ic7, ic8, ic9, ic10, ic11, ic12, ic13, ic14, ic15, ic16, ic17, ic18, ic19, ic20, ic21, noSL_d, nmL_noS, eq_self, decide_true, decide_false, Int.reduceLT, Int.reduceLE, Int.reduceEq, Int.reduceAdd, Int.reduceSub, Int.reduceNeg, Nat.reduceLeDiff, gNe_nil, gEq_nil, nmL_len, nmL_isd, nmL_er, ex_pair, fApp, h, decide_true, hz]
      refine lc_fn (E := fun y => [some (.d (.tuple xs)), y]) (g := fun d => .bool (copyB d)) (fun _ => rfl) none (fun d hd => ?_) fun y => ?_
      · simp (config := { maxSteps := 4000000 }) only [w_bind, w_ret, w_ok, w_seq, w_if, w_ifE, w_test, w_and, w_or, w_not, w_andV, w_orV, w_notV, w_do, w_rt, w_asg, w_C, w_var, w_args0, w_args1, w_plc, w_own, w_val, w_prim, w_list, w_tup, w_call, w_callIo, w_callK, w_chain, w_for, w_items, w_rng, w_lc, w_meth1, w_setL2, w_stores, w_aug, w_move, w_str, mNx, mRetN, startE, rds, HE.rd, sh1, sh2, dp1, dp2, gAdd, DL.gSub, gLt, gLe, gGt, gGe, gOrd, gIsI, gLen, gIx, gIxAny, gInAny, isDct, gLenAny, enumOf, zipOf, dat, gMax2, gMin2, gAbs, gNeg, gAddI, gTupOf, gListOf, gTupAny, gListAny, gInt, gIsN, gSl0, gSlL, gSlH, gSlice, OD.erase, OD.noS, noSL, OD.shallow, OD.isD, OD.still, allStill, boolOf, aName, aTup, aAll, outs, wipeE, isL, DL.intAt, DL.putAll, allO, allD, itemsOf, rngA, rngB, fw_ok, gEq_ii, gNe_ii, gEq_ss, gNe_ss, List.getElem?_cons_zero, List.getElem?_cons_succ, List.set_cons_zero, List.set_cons_succ, List.length_cons, List.length_nil, List.map_cons, List.map_nil, List.cons_append, List.nil_append, List.replicate_succ, List.replicate_zero, List.all_cons, List.all_nil, List.eraseIdx_cons_zero, List.eraseIdx_cons_succ, List.drop_succ_cons, List.drop_zero, List.filterMap_cons, List.filterMap_nil, Option.some.injEq, exists_eq_left', exists_eq_left, exists_eq', exists_eq, Option.join_some, Option.map_some, Option.bind_some, if_true, if_false, true_and, and_true, Bool.true_and, Bool.and_true, Bool.not_true, Bool.not_false, reduceCtorEq, false_and, exists_false, Bool.false_eq_true, OD.d.injEq, OD.l.injEq, HE.o.injEq, HE.al.injEq, List.cons.injEq, PyData.bool.injEq, PyData.int.injEq, PyData.str.injEq, ite_true, ite_false, Nat.reduceSub, Nat.reduceAdd, Nat.reduceLT, Nat.reduceEqDiff, Bool.and_self, Bool.or_true, Bool.true_or, Bool.or_false, Bool.false_or, Bool.false_and, Bool.and_false, eraseL_map, isd_d, er_d, sz_ok, is_int_n, is_int_b, is_int_i, is_int_s, is_int_l, is_int_t, is_int_d, is_bool_n, is_bool_b, is_bool_i, is_bool_s, is_bool_l, is_bool_t, is_bool_d, is_str_n, is_str_b, is_str_i, is_str_s, is_str_l, is_str_t, is_str_d, is_tuple_n, is_tuple_b, is_tuple_i, is_tuple_s, is_tuple_l, is_tuple_t, is_tuple_d, is_list_n, is_list_b, is_list_i, is_list_s, is_list_l, is_list_t, is_list_d, is_dict_n, is_dict_b, is_dict_i, is_dict_s, is_dict_l, is_dict_t, is_dict_d, ic0, ic1, ic2, ic3, ic4, ic5, ic6, ic7, ic8, ic9, ic10, ic11, ic12, ic13, ic14, ic15, ic16, ic17, ic18, ic19, ic20, ic21, noSL_d, nmL_noS, eq_self, decide_true, decide_false, Int.reduceLT, Int.reduceLE, Int.reduceEq, Int.reduceAdd, Int.reduceSub, Int.reduceNeg, Nat.reduceLeDiff, gNe_nil, gEq_nil, nmL_len, nmL_isd, nmL_er, ex_pair, fApp, v_is_copy]
      · simp (config := { maxSteps := 4000000 }) only [w_bind, w_ret, w_ok, w_seq, w_if, w_ifE, w_test, w_and, w_or, w_not, w_andV, w_orV, w_notV, w_do, w_rt, w_asg, w_C, w_var, w_args0, w_args1, w_plc, w_own, w_val, w_prim, w_list, w_tup, w_call, w_callIo, w_callK, w_chain, w_for, w_items, w_rng, w_lc, w_meth1, w_setL2, w_stores, w_aug, w_move, w_str, mNx, mRetN, startE, rds, HE.rd, sh1, sh2, dp1, dp2, gAdd, DL.gSub, gLt, gLe, gGt, gGe, gOrd, gIsI, gLen, gIx, gIxAny, gInAny, isDct, gLenAny, enumOf, zipOf, dat, gMax2, gMin2, gAbs, gNeg, gAddI, gTupOf, gListOf, gTupAny, gListAny, gInt, gIsN, gSl0, gSlL, gSlH, gSlice, OD.erase, OD.noS, noSL, OD.shallow, OD.isD, OD.still, allStill, boolOf, aName, aTup, aAll, outs, wipeE, isL, DL.intAt, DL.putAll, allO, allD, itemsOf, rngA, rngB, fw_ok, gEq_ii, gNe_ii, gEq_ss, gNe_ss, List.getElem?_cons_zero, List.getElem?_cons_succ, List.set_cons_zero, List.set_cons_succ, List.length_cons, List.length_nil, List.map_cons, List.map_nil, List.cons_append, List.nil_append, List.replicate_succ, List.replicate_zero, List.all_cons, List.all_nil, List.eraseIdx_cons_zero, List.eraseIdx_cons_succ, List.drop_succ_cons, List.drop_zero, List.filterMap_cons, List.filterMap_nil, Option.some.injEq, exists_eq_left', exists_eq_left, exists_eq', exists_eq, Option.join_some, Option.map_some, Option.bind_some, if_true, if_false, true_and, and_true, Bool.true_and, Bool.and_true, Bool.not_true, Bool.not_false, reduceCtorEq, false_and, exists_false, Bool.false_eq_true, OD.d.injEq, OD.l.injEq, HE.o.injEq, HE.al.injEq, List.cons.injEq, PyData.bool.injEq, PyData.int.injEq, PyData.str.injEq, ite_true, ite_false, Nat.reduceSub, Nat.reduceAdd, Nat.reduceLT, Nat.reduceEqDiff, Bool.and_self, Bool.or_true, Bool.true_or, Bool.or_false, Bool.false_or, Bool.false_and, Bool.and_false, eraseL_map, isd_d, er_d, sz_ok, is_int_n, is_int_b, is_int_i, is_int_s, is_int_l, is_int_t, is_int_d, is_bool_n, is_bool_b, is_bool_i, is_bool_s, is_bool_l, is_bool_t, is_bool_d, is_str_n, is_str_b, is_str_i, is_str_s, is_str_l, is_str_t, is_str_d, is_tuple_n, is_tuple_b, is_tuple_i, is_tuple_s, is_tuple_l, is_tuple_t, is_tuple_d, is_list_n, is_list_b, is_list_i, is_list_s, is_list_l, is_list_t, is_list_d, is_dict_n, is_dict_b, is_dict_i, is_dict_s, is_dict_l, is_dict_t, is_dict_d, ic0, ic1, ic2, ic3, ic4, ic5, ic6, ic7, ic8, ic9, ic10, ic11, ic12, ic13, ic14, ic15, ic16, ic17, ic18, ic19, ic20, ic21, noSL_d, nmL_noS, eq_self, decide_true, decide_false, Int.reduceLT, Int.reduceLE, Int.reduceEq, Int.reduceAdd, Int.reduceSub, Int.reduceNeg, Nat.reduceLeDiff, gNe_nil, gEq_nil, nmL_len, nmL_isd, nmL_er, ex_pair, fApp, gBs_map]
        simp [scriptB, h, Function.comp_def]
    · simp (config := { maxSteps := 4000000 }) only [w_bind, w_ret, w_ok, w_seq, w_if, w_ifE, w_test, w_and, w_or, w_not, w_andV, w_orV, w_notV, w_do, w_rt, w_asg, w_C, w_var, w_args0, w_args1, w_plc, w_own, w_val, w_prim, w_list, w_tup, w_call, w_callIo, w_callK, w_chain, w_for, w_items, w_rng, w_lc, w_meth1, w_setL2, w_stores, w_aug, w_move, w_str, mNx, mRetN, startE, rds, HE.rd, sh1, sh2, dp1, dp2, gAdd, DL.gSub, gLt, gLe, gGt, gGe, gOrd, gIsI, gLen, gIx, gIxAny, gInAny, isDct, gLenAny, enumOf, zipOf, dat, gMax2, gMin2, gAbs, gNeg, gAddI, gTupOf, gListOf, gTupAny, gListAny, gInt, gIsN, gSl0, gSlL, gSlH, gSlice, OD.erase, OD.noS, noSL, OD.shallow, OD.isD, OD.still, allStill, boolOf, aName, aTup, aAll, outs, wipeE, isL, DL.intAt, DL.putAll, allO, allD, itemsOf, rngA, rngB, fw_ok, gEq_ii, gNe_ii, gEq_ss, gNe_ss, List.getElem?_cons_zero, List.getElem?_cons_succ, List.set_cons_zero, List.set_cons_succ, List.length_cons, List.length_nil, List.map_cons, List.map_nil, List.cons_append, List.nil_append, List.replicate_succ, List.replicate_zero, List.all_cons, List.all_nil, List.eraseIdx_cons_zero, List.eraseIdx_cons_succ, List.drop_succ_cons, List.drop_zero, List.filterMap_cons, List.filterMap_nil, Option.some.injEq, exists_eq_left', exists_eq_left, exists_eq', exists_eq, Option.join_some, Option.map_some, Option.bind_some, if_true, if_false, true_and, and_true, Bool.true_and, Bool.and_true, Bool.not_true, Bool.not_false, reduceCtorEq, false_and, exists_false, Bool.false_eq_true, OD.d.injEq, OD.l.injEq, HE.o.injEq, HE.al.injEq, List.cons.injEq, PyData.bool.injEq, PyData.int.injEq, PyData.str.injEq, ite_true, ite_false, Nat.reduceSub, Nat.reduceAdd, Nat.reduceLT, Nat.reduceEqDiff, Bool.and_self, Bool.or_true, Bool.true_or, Bool.or_false, Bool.false_or, Bool.false_and, Bool.and_false, eraseL_map, isd_d, er_d, sz_ok, is_int_n, is_int_b, is_int_i, is_int_s, is_int_l, is_int_t, is_int_d, is_bool_n, is_bool_b, is_bool_i, is_bool_s, is_bool_l, is_bool_t, is_bool_d, is_str_n, is_str_b, is_str_i, is_str_s, is_str_l, is_str_t, is_str_d, is_tuple_n, is_tuple_b, is_tuple_i, is_tuple_s, is_tuple_l, is_tuple_t, is_tuple_d, is_list_n, is_list_b, is_list_i, is_list_s, is_list_l, is_list_t, is_list_d, is_dict_n, is_dict_b, is_dict_i, is_dict_s, is_dict_l, is_dict_t, is_dict_d, ic0, ic1, ic2, ic3, ic4, ic5, ic6, ic7, ic8, ic9, ic10, ic11, ic12, ic13, ic14, ic15, ic16, ic17, ic18, ic19, ic20, ic21, noSL_d, nmL_noS, eq_self, decide_true, decide_false, Int.reduceLT, Int.reduceLE, Int.reduceEq, Int.reduceAdd, Int.reduceSub, Int.reduceNeg, Nat.reduceLeDiff, gNe_nil, gEq_nil, nmL_len, nmL_isd, nmL_er, ex_pair, fApp, h, decide_false]
      simp [scriptB, h]
  | _ => simp (config := { maxSteps := 4000000 }) only [w_bind, w_ret, w_ok, w_seq, w_if, w_ifE, w_test, w_and, w_or, w_not, w_andV, w_orV, w_notV, w_do, w_rt, w_asg, w_C, w_var, w_args0, w_args1, w_plc, w_own, w_val, w_prim, w_list, w_tup, w_call, w_callIo, w_callK, w_chain, w_for, w_items, w_rng, w_lc, w_meth1, w_setL2, w_stores, w_aug, w_move, w_str, mNx, mRetN, startE, rds, HE.rd, sh1, sh2, dp1, dp2, gAdd, DL.gSub, gLt, gLe, gGt, gGe, gOrd, gIsI, gLen, gIx, gIxAny, gInAny, isDct, gLenAny, enumOf, zipOf, dat, gMax2, gMin2, gAbs, gNeg, gAddI, gTupOf, gListOf, gTupAny, gListAny, gInt, gIsN, gSl0, gSlL, gSlH, gSlice, OD.erase, OD.noS, noSL, OD.shallow, OD.isD, OD.still, allStill, boolOf, aName, aTup, aAll, outs, wipeE, isL, DL.intAt, DL.putAll, allO, allD, itemsOf, rngA, rngB, fw_ok, gEq_ii, gNe_ii, gEq_ss, gNe_ss, List.getElem?_cons_zero, List.getElem?_cons_succ, List.set_cons_zero, List.set_cons_succ, List.length_cons, List.length_nil, List.map_cons, List.map_nil, List.cons_append, List.nil_append, List.replicate_succ, List.replicate_zero, List.all_cons, List.all_nil, List.eraseIdx_cons_zero, List.eraseIdx_cons_succ, List.drop_succ_cons, List.drop_zero, List.filterMap_cons, List.filterMap_nil, Option.some.injEq, exists_eq_left', exists_eq_left, exists_eq', exists_eq, Option.join_some, Option.map_some, Option.bind_some, if_true, if_false, true_and, and_true, Bool.true_and, Bool.and_true, Bool.not_true, Bool.not_false, reduceCtorEq, false_and, exists_false, Bool.false_eq_true, OD.d.injEq, OD.l.injEq, HE.o.injEq, HE.al.injEq, List.cons.injEq, PyData.bool.injEq, PyData.int.injEq, PyData.str.injEq, ite_true, ite_false, Nat.reduceSub, Nat.reduceAdd, Nat.reduceLT, Nat.reduceEqDiff, Bool.and_self, Bool.or_true, Bool.true_or, Bool.or_false, Bool.false_or, Bool.false_and, Bool.and_false, eraseL_map, isd_d, er_d, sz_ok, is_int_n, is_int_b, is_int_i, is_int_s, is_int_l, is_int_t, is_int_d, is_bool_n, is_bool_b, is_bool_i, is_bool_s, is_bool_l, is_bool_t, is_bool_d, is_str_n, is_str_b, is_str_i, is_str_s, is_str_l, is_str_t, is_str_d, is_tuple_n, is_tuple_b, is_tuple_i, is_tuple_s, is_tuple_l, is_tuple_t, is_tuple_d, is_list_n, is_list_b, is_list_i, is_list_s, is_list_l, is_list_t, is_list_d, is_dict_n, is_dict_b, is_dict_i, is_dict_s, is_dict_l, is_dict_t, is_dict_d, ic0, ic1, ic2, ic3, ic4, ic5, ic6, ic7, ic8, ic9, ic10, ic11, ic12, ic13, ic14, ic15, ic16, ic17, ic18, ic19, ic20, ic21, noSL_d, nmL_noS, eq_self, decide_true, decide_false, Int.reduceLT, Int.reduceLE, Int.reduceEq, Int.reduceAdd, Int.reduceSub, Int.reduceNeg, Nat.reduceLeDiff, gNe_nil, gEq_nil, nmL_len, nmL_isd, nmL_er, ex_pair, fApp]; rfl
theorem sl1 {α : Type} (x y z : α) : cutD [x, y, z] (some 1) none = [y, z] := rfl
theorem fil_emp {α : Type} (p : α → Bool) : ∀ l : List α, (l.filter p).isEmpty = l.all fun a => !p a
  | [] => rfl
  | a :: l => by
    rw [List.filter_cons]
    cases h : p a <;> simp [h, fil_emp p l]
def strayB (d : PyData) : Bool := match d with
  | .str y => !strIn y "abcdefghijklmnopqrstuvwxyz"
  | _ => false
theorem stray_emp (x : Str) : ((chars x).filter strayB).isEmpty = x.cps.toList.all letB := by
  rw [fil_emp]
  unfold chars
  rw [List.all_map]
  congr 1
  funext c
  simp [strayB, letB]
theorem v_law_is_copy (d : PyData) : f__law_is_copy [.d d] = some (.ok (.d (.bool (copyB d))), []) := by
  rw [← fw_eq]
  unfold f__law_is_copy
  rw [fw_sem]
  unfold m__law_is_copy m__law_is_copy_0 m__law_is_copy_1 m__law_is_copy_2
  cases d with
  | tuple xs =>
    by_cases h : (xs.length : Int) = 3
    · obtain ⟨w, s, t, rfl⟩ := is3 h
      have z3 : 3 ≤ 16777216 := by decide
      have z2 : 2 ≤ 16777216 := by decide
      simp (config := { maxSteps := 4000000 }) only [w_bind, w_ret, w_ok, w_seq, w_if, w_ifE, w_test, w_and, w_or, w_not, w_andV, w_orV, w_notV, w_do, w_rt, w_asg, w_C, w_var, w_args0, w_args1, w_plc, w_own, w_val, w_prim, w_list, w_tup, w_call, w_callIo, w_callK, w_chain, w_for, w_items, w_rng, w_lc, w_meth1, w_setL2, w_stores, w_aug, w_move, w_str, mNx, mRetN, startE, rds, HE.rd, sh1, sh2, dp1, dp2, gAdd, DL.gSub, gLt, gLe, gGt, gGe, gOrd, gIsI, gLen, gIx, gIxAny, gInAny, isDct, gLenAny, enumOf, zipOf, dat, gMax2, gMin2, gAbs, gNeg, gAddI, gTupOf, gListOf, gTupAny, gListAny, gInt, gIsN, gSl0, gSlL, gSlH, gSlice, OD.erase, OD.noS, noSL, OD.shallow, OD.isD, OD.still, allStill, boolOf, aName, aTup, aAll, outs, wipeE, isL, DL.intAt, DL.putAll, allO, allD, itemsOf, rngA, rngB, fw_ok, gEq_ii, gNe_ii, gEq_ss, gNe_ss, List.getElem?_cons_zero, List.getElem?_cons_succ, List.set_cons_zero, List.set_cons_succ, List.length_cons, List.length_nil, List.map_cons, List.map_nil, List.cons_append, List.nil_append, List.replicate_succ, List.replicate_zero, List.all_cons, List.all_nil, List.eraseIdx_cons_zero, List.eraseIdx_cons_succ, List.drop_succ_cons, List.drop_zero, List.filterMap_cons, List.filterMap_nil, Option.some.injEq, exists_eq_left', exists_eq_left, exists_eq', exists_eq, Option.join_some, Option.map_some, Option.bind_some, if_true, if_false, true_and, and_true, Bool.true_and, Bool.and_true, Bool.not_true, Bool.not_false, reduceCtorEq, false_and, exists_false, Bool.false_eq_true, OD.d.injEq, OD.l.injEq, HE.o.injEq, HE.al.injEq, List.cons.injEq, PyData.bool.injEq, PyData.int.injEq, PyData.str.injEq, ite_true, ite_false, Nat.reduceSub, Nat.reduceAdd, Nat.reduceLT, Nat.reduceEqDiff, Bool.and_self, Bool.or_true, Bool.true_or, Bool.or_false, Bool.false_or, Bool.false_and, Bool.and_false, eraseL_map, isd_d, er_d, sz_ok, is_int_n, is_int_b, is_int_i, is_int_s, is_int_l, is_int_t, is_int_d, is_bool_n, is_bool_b, is_bool_i, is_bool_s, is_bool_l, is_bool_t, is_bool_d, is_str_n, is_str_b, is_str_i, is_str_s, is_str_l, is_str_t, is_str_d, is_tuple_n, is_tuple_b, is_tuple_i, is_tuple_s, is_tuple_l, is_tuple_t, is_tuple_d, is_list_n, is_list_b, is_list_i, is_list_s, is_list_l, is_list_t, is_list_d, is_dict_n, is_dict_b, is_dict_i, is_dict_s, is_dict_l, is_dict_t, is_dict_d, ic0, ic1, ic2, ic3, ic4, ic5, ic6, ic7, ic8, ic9, ic10, ic11, ic12, ic13, ic14, ic15, ic16, ic17, ic18, ic19, ic20, ic21, noSL_d, nmL_noS, eq_self, decide_true, decide_false, Int.reduceLT, Int.reduceLE, Int.reduceEq, Int.reduceAdd, Int.reduceSub, Int.reduceNeg, Nat.reduceLeDiff, gNe_nil, gEq_nil, nmL_len, nmL_isd, nmL_er, ex_pair, fApp]
      refine lc_if (E := fun y => [some (.d (.tuple [w, s, t])), y, none]) (p := fun d => !DL.is_str d) (g := id) (fun _ => rfl) none (fun d hd => ?_) fun y => ?_
      · simp (config := { maxSteps := 4000000 }) only [w_bind, w_ret, w_ok, w_seq, w_if, w_ifE, w_test, w_and, w_or, w_not, w_andV, w_orV, w_notV, w_do, w_rt, w_asg, w_C, w_var, w_args0, w_args1, w_plc, w_own, w_val, w_prim, w_list, w_tup, w_call, w_callIo, w_callK, w_chain, w_for, w_items, w_rng, w_lc, w_meth1, w_setL2, w_stores, w_aug, w_move, w_str, mNx, mRetN, startE, rds, HE.rd, sh1, sh2, dp1, dp2, gAdd, DL.gSub, gLt, gLe, gGt, gGe, gOrd, gIsI, gLen, gIx, gIxAny, gInAny, isDct, gLenAny, enumOf, zipOf, dat, gMax2, gMin2, gAbs, gNeg, gAddI, gTupOf, gListOf, gTupAny, gListAny, gInt, gIsN, gSl0, gSlL, gSlH, gSlice, OD.erase, OD.noS, noSL, OD.shallow, OD.isD, OD.still, allStill, boolOf, aName, aTup, aAll, outs, wipeE, isL, DL.intAt, DL.putAll, allO, allD, itemsOf, rngA, rngB, fw_ok, gEq_ii, gNe_ii, gEq_ss, gNe_ss, List.getElem?_cons_zero, List.getElem?_cons_succ, List.set_cons_zero, List.set_cons_succ, List.length_cons, List.length_nil, List.map_cons, List.map_nil, List.cons_append, List.nil_append, List.replicate_succ, List.replicate_zero, List.all_cons, List.all_nil, List.eraseIdx_cons_zero, List.eraseIdx_cons_succ, List.drop_succ_cons, List.drop_zero, List.filterMap_cons, List.filterMap_nil, Option.some.injEq, exists_eq_left', exists_eq_left, exists_eq', exists_eq, Option.join_some, Option.map_some, Option.bind_some, if_true, if_false, true_and, and_true, Bool.true_and, Bool.and_true, Bool.not_true, Bool.not_false, reduceCtorEq, false_and, exists_false, Bool.false_eq_true, OD.d.injEq, OD.l.injEq, HE.o.injEq, HE.al.injEq, List.cons.injEq, PyData.bool.injEq, PyData.int.injEq, PyData.str.injEq, ite_true, ite_false, Nat.reduceSub, Nat.reduceAdd, Nat.reduceLT, Nat.reduceEqDiff, Bool.and_self, Bool.or_true, Bool.true_or, Bool.or_false, Bool.false_or, Bool.false_and, Bool.and_false, eraseL_map, isd_d, er_d, sz_ok, is_int_n, is_int_b, is_int_i, is_int_s, is_int_l, is_int_t, is_int_d, is_bool_n, is_bool_b, is_bool_i, is_bool_s, is_bool_l, is_bool_t, is_bool_d, is_str_n, is_str_b, is_str_i, is_str_s, is_str_l, is_str_t, is_str_d, is_tuple_n, is_tuple_b, is_tuple_i, is_tuple_s, is_tuple_l, is_tuple_t, is_tuple_d, is_list_n, is_list_b, is_list_i, is_list_s, is_list_l, is_list_t, is_list_d, is_dict_n, is_dict_b, is_dict_i, is_dict_s, is_dict_l, is_dict_t, is_dict_d, ic0, ic1, ic2, ic3, ic4, ic5, ic6, ic7, ic8, ic9, ic10, ic11, ic12, ic13, ic14, ic15, ic16, ic17, ic18, ic19, ic20, ic21, noSL_d, nmL_noS, eq_self, decide_true, decide_false, Int.reduceLT, Int.reduceLE, Int.reduceEq, Int.reduceAdd, Int.reduceSub, Int.reduceNeg, Nat.reduceLeDiff, gNe_nil, gEq_nil, nmL_len, nmL_isd, nmL_er, ex_pair, fApp]
        rcases Bool.eq_false_or_eq_true (DL.is_str d) with q | q <;> simp (config := { maxSteps := 4000000 }) only [w_bind, w_ret, w_ok, w_seq, w_if, w_ifE, w_test, w_and, w_or, w_not, w_andV, w_orV, w_notV, w_do, w_rt, w_asg, w_C, w_var, w_args0, w_args1, w_plc, w_own, w_val, w_prim, w_list, w_tup, w_call, w_callIo, w_callK, w_chain, w_for, w_items, w_rng, w_lc, w_meth1, w_setL2, w_stores, w_aug, w_move, w_str, mNx, mRetN, startE, rds, HE.rd, sh1, sh2, dp1, dp2, gAdd, DL.gSub, gLt, gLe, gGt, gGe, gOrd, gIsI, gLen, gIx, gIxAny, gInAny, isDct, gLenAny, enumOf, zipOf, dat, gMax2, gMin2, gAbs, gNeg, gAddI, gTupOf, gListOf, gTupAny, gListAny, gInt, gIsN, gSl0, gSlL, gSlH, gSlice, OD.erase, OD.noS, noSL, OD.shallow, OD.isD, OD.still, allStill, boolOf, aName, aTup, aAll, outs, wipeE, isL, DL.intAt, DL.putAll, allO, allD, itemsOf, rngA, rngB, fw_ok, gEq_ii, gNe_ii, gEq_ss, gNe_ss, List.getElem?_cons_zero, List.getElem?_cons_succ, List.set_cons_zero, List.set_cons_succ, List.length_cons, List.length_nil, List.map_cons, List.map_nil, List.cons_append, List.nil_append, List.replicate_succ, List.replicate_zero, List.all_cons, List.all_nil, List.eraseIdx_cons_zero, List.eraseIdx_cons_succ, List.drop_succ_cons, List.drop_zero, List.filterMap_cons, List.filterMap_nil, Option.some.injEq, exists_eq_left', exists_eq_left, exists_eq', exists_eq, Option.join_some, Option.map_some, Option.bind_some, if_true, if_false, true_and, and_true, Bool.true_and, Bool.and_true, Bool.not_true, Bool.not_false, reduceCtorEq, false_and, exists_false, Bool.false_eq_true, OD.d.injEq, OD.l.injEq, HE.o.injEq, HE.al.injEq, List.cons.injEq, PyData.bool.injEq, PyData.int.injEq, PyData.str.injEq, ite_true, ite_false, Nat.reduceSub, Nat.reduceAdd, Nat.reduceLT, Nat.reduceEqDiff, Bool.and_self, Bool.or_true, Bool.true_or, Bool.or_false, Bool.false_or, Bool.false_and, Bool.and_false, eraseL_map, isd_d, er_d, sz_ok, is_int_n, is_int_b, is_int_i, is_int_s, is_int_l, is_int_t, is_int_d, is_bool_n, is_bool_b, is_bool_i, is_bool_s, is_bool_l, is_bool_t, is_bool_d, is_str_n, is_str_b, is_str_i, is_str_s, is_str_l, is_str_t, is_str_d, is_tuple_n, is_tuple_b, is_tuple_i, is_tuple_s, is_tuple_l, is_tuple_t, is_tuple_d, is_list_n, is_list_b, is_list_i, is_list_s, is_list_l, is_list_t, is_list_d, is_dict_n, is_dict_b, is_dict_i, is_dict_s, is_dict_l, is_dict_t, is_dict_d, ic0, ic1, ic2, ic3, ic4, ic5, ic6, ic7, ic8, ic9, ic10, ic11, ic12, ic13, ic14, ic15, ic16, ic17, ic18, ic19, ic20, ic21, noSL_d, nmL_noS, eq_self, decide_true, decide_false, Int.reduceLT, Int.reduceLE, Int.reduceEq, Int.reduceAdd, Int.reduceSub, Int.reduceNeg, Nat.reduceLeDiff, gNe_nil, gEq_nil, nmL_len, nmL_isd, nmL_er, ex_pair, fApp, q, id]
      · rw [List.map_id]
        simp (config := { maxSteps := 4000000 }) only [w_bind, w_ret, w_ok, w_seq, w_if, w_ifE, w_test, w_and, w_or, w_not, w_andV, w_orV, w_notV, w_do, w_rt, w_asg, w_C, w_var, w_args0, w_args1, w_plc, w_own, w_val, w_prim, w_list, w_tup, w_call, w_callIo, w_callK, w_chain, w_for, w_items, w_rng, w_lc, w_meth1, w_setL2, w_stores, w_aug, w_move, w_str, mNx, mRetN, startE, rds, HE.rd, sh1, sh2, dp1, dp2, gAdd, DL.gSub, gLt, gLe, gGt, gGe, gOrd, gIsI, gLen, gIx, gIxAny, gInAny, isDct, gLenAny, enumOf, zipOf, dat, gMax2, gMin2, gAbs, gNeg, gAddI, gTupOf, gListOf, gTupAny, gListAny, gInt, gIsN, gSl0, gSlL, gSlH, gSlice, OD.erase, OD.noS, noSL, OD.shallow, OD.isD, OD.still, allStill, boolOf, aName, aTup, aAll, outs, wipeE, isL, DL.intAt, DL.putAll, allO, allD, itemsOf, rngA, rngB, fw_ok, gEq_ii, gNe_ii, gEq_ss, gNe_ss, List.getElem?_cons_zero, List.getElem?_cons_succ, List.set_cons_zero, List.set_cons_succ, List.length_cons, List.length_nil, List.map_cons, List.map_nil, List.cons_append, List.nil_append, List.replicate_succ, List.replicate_zero, List.all_cons, List.all_nil, List.eraseIdx_cons_zero, List.eraseIdx_cons_succ, List.drop_succ_cons, List.drop_zero, List.filterMap_cons, List.filterMap_nil, Option.some.injEq, exists_eq_left', exists_eq_left, exists_eq', exists_eq, Option.join_some, Option.map_some, Option.bind_some, if_true, if_false, true_and, and_true, Bool.true_and, Bool.and_true, Bool.not_true, Bool.not_false, reduceCtorEq, false_and, exists_false, Bool.false_eq_true, OD.d.injEq, OD.l.injEq, HE.o.injEq, HE.al.injEq, List.cons.injEq, PyData.bool.injEq, PyData.int.injEq, PyData.str.injEq, ite_true, ite_false, Nat.reduceSub, Nat.reduceAdd, Nat.reduceLT, Nat.reduceEqDiff, Bool.and_self, Bool.or_true, Bool.true_or, Bool.or_false, Bool.false_or, Bool.false_and, Bool.and_false, eraseL_map, isd_d, er_d, sz_ok, is_int_n, is_int_b, is_int_i, is_int_s, is_int_l, is_int_t, is_int_d, is_bool_n, is_bool_b, is_bool_i, is_bool_s, is_bool_l, is_bool_t, is_bool_d, is_str_n, is_str_b, is_str_i, is_str_s, is_str_l, is_str_t, is_str_d, is_tuple_n, is_tuple_b, is_tuple_i, is_tuple_s, is_tuple_l, is_tuple_t, is_tuple_d, is_list_n, is_list_b, is_list_i, is_list_s, is_list_l, is_list_t, is_list_d, is_dict_n, is_dict_b, is_dict_i, is_dict_s, is_dict_l, is_dict_t, is_dict_d, ic0, ic1, ic2, ic3, ic4, ic5, ic6, ic7, ic8, ic9, ic10, ic11, ic12, ic13, ic14, ic15, ic16, ic17, ic18, ic19, ic20, ic21, noSL_d, nmL_noS, eq_self, decide_true, decide_false, Int.reduceLT, Int.reduceLE, Int.reduceEq, Int.reduceAdd, Int.reduceSub, Int.reduceNeg, Nat.reduceLeDiff, gNe_nil, gEq_nil, nmL_len, nmL_isd, nmL_er, ex_pair, fApp, gNe_nil]
        by_cases hs : DL.is_str w = true ∧ DL.is_str s = true ∧ DL.is_str t = true
        · obtain ⟨hw, hs, ht⟩ := hs
          have e0 : ([w, s, t].filter fun d => !DL.is_str d) = [] := by simp [hw, hs, ht]
          cases w with
          | str w =>
            cases s with
            | str s =>
              cases t with
              | str t =>
                simp (config := { maxSteps := 4000000 }) only [w_bind, w_ret, w_ok, w_seq, w_if, w_ifE, w_test, w_and, w_or, w_not, w_andV, w_orV, w_notV, w_do, w_rt, w_asg, w_C, w_var, w_args0, w_args1, w_plc, w_own, w_val, w_prim, w_list, w_tup, w_call, w_callIo, w_callK, w_chain, w_for, w_items, w_rng, w_lc, w_meth1, w_setL2, w_stores, w_aug, w_move, w_str, mNx, mRetN, startE, rds, HE.rd, sh1, sh2, dp1, dp2, gAdd, DL.gSub, gLt, gLe, gGt, gGe, gOrd, gIsI, gLen, gIx, gIxAny, gInAny, isDct, gLenAny, enumOf, zipOf, dat, gMax2, gMin2, gAbs, gNeg, gAddI, gTupOf, gListOf, gTupAny, gListAny, gInt, gIsN, gSl0, gSlL, gSlH, gSlice, OD.erase, OD.noS, noSL, OD.shallow, OD.isD, OD.still, allStill, boolOf, aName, aTup, aAll, outs, wipeE, isL, DL.intAt, DL.putAll, allO, allD, itemsOf, rngA, rngB, fw_ok, gEq_ii, gNe_ii, gEq_ss, gNe_ss, List.getElem?_cons_zero, List.getElem?_cons_succ, List.set_cons_zero, List.set_cons_succ, List.length_cons, List.length_nil, List.map_cons, List.map_nil, List.cons_append, List.nil_append, List.replicate_succ, List.replicate_zero, List.all_cons, List.all_nil, List.eraseIdx_cons_zero, List.eraseIdx_cons_succ, List.drop_succ_cons, List.drop_zero, List.filterMap_cons, List.filterMap_nil, Option.some.injEq, exists_eq_left', exists_eq_left, exists_eq', exists_eq, Option.join_some, Option.map_some, Option.bind_some, if_true, if_false, true_and, and_true, Bool.true_and, Bool.and_true, Bool.not_true, Bool.not_false, reduceCtorEq, false_and, exists_false, Bool.false_eq_true, OD.d.injEq, OD.l.injEq, HE.o.injEq, HE.al.injEq, List.cons.injEq, PyData.bool.injEq, PyData.int.injEq, PyData.str.injEq, ite_true, ite_false, Nat.reduceSub, Nat.reduceAdd, Nat.reduceLT, Nat.reduceEqDiff, Bool.and_self, Bool.or_true, Bool.true_or, Bool.or_false, Bool.false_or, Bool.false_and, Bool.and_false, eraseL_map, isd_d, er_d, sz_ok, is_int_n, is_int_b, is_int_i, is_int_s, is_int_l, is_int_t, is_int_d, is_bool_n, is_bool_b, is_bool_i, is_bool_s, is_bool_l, is_bool_t, is_bool_d, is_str_n, is_str_b, is_str_i, is_str_s, is_str_l, is_str_t, is_str_d, is_tuple_n, is_tuple_b, is_tuple_i, is_tuple_s, is_tuple_l, is_tuple_t, is_tuple_d, is_list_n, is_list_b, is_list_i, is_list_s, is_list_l, is_list_t, is_list_d, is_dict_n, is_dict_b, is_dict_i, is_dict_s, is_dict_l, is_dict_t, is_dict_d, ic0, ic1, ic2, ic3, ic4, ic5, ic6, ic7, ic8, ic9, ic10, ic11, ic12, ic13, ic14, ic15, ic16, ic17, ic18, ic19, ic20, ic21, noSL_d, nmL_noS, eq_self, decide_true, decide_false, Int.reduceLT, Int.reduceLE, Int.reduceEq, Int.reduceAdd, Int.reduceSub, Int.reduceNeg, Nat.reduceLeDiff, gNe_nil, gEq_nil, nmL_len, nmL_isd, nmL_er, ex_pair, fApp, e0, List.isEmpty_nil, sl1]
                refine each_by (I := fun k e => (∀ j < k, ∀ d, [PyData.str s, .str t][j]? = some d → nameB d = true) ∧ ∃ x y, e = [some (.d (.tuple [.str w, .str s, .str t])), x, y]) 0 ⟨fun j hj => by omega, _, _, rfl⟩ ?_ ?_
                · rintro j d e hj ⟨ha, x, y, rfl⟩
                  obtain ⟨u, rfl⟩ : ∃ u, d = .str u := by
                    match j, hj with
                    | 0, hj => cases hj; exact ⟨_, rfl⟩
                    | 1, hj => cases hj; exact ⟨_, rfl⟩
                    | j + 2, hj => simp at hj
                  have no : nameB (.str u) = false → copyB (.tuple [.str w, .str s, .str t]) = false := by
                    intro hu
                    match j, hj with
                    | 0, hj => cases hj; simp [copyB, hu]
                    | 1, hj => cases hj; simp [copyB, hu]
                    | j + 2, hj => simp at hj
                  by_cases h1 : (1 : Int) ≤ (u.length : Int)
                  · by_cases h2 : (u.length : Int) ≤ 8
                    · have hz : (chars u).length ≤ 16777216 := by rw [chars_len]; omega
                      simp (config := { maxSteps := 4000000 }) only [w_bind, w_ret, w_ok, w_seq, w_if, w_ifE, w_test, w_and, w_or, w_not, w_andV, w_orV, w_notV, w_do, w_rt, w_asg, w_C, w_var, w_args0, w_args1, w_plc, w_own, w_val, w_prim, w_list, w_tup, w_call, w_callIo, w_callK, w_chain, w_for, w_items, w_rng, w_lc, w_meth1, w_setL2, w_stores, w_aug, w_move, w_str, mNx, mRetN, startE, rds, HE.rd, sh1, sh2, dp1, dp2, gAdd, DL.gSub, gLt, gLe, gGt, gGe, gOrd, gIsI, gLen, gIx, gIxAny, gInAny, isDct, gLenAny, enumOf, zipOf, dat, gMax2, gMin2, gAbs, gNeg, gAddI, gTupOf, gListOf, gTupAny, gListAny, gInt, gIsN, gSl0, gSlL, gSlH, gSlice, OD.erase, OD.noS, noSL, OD.shallow, OD.isD, OD.still, allStill, boolOf, aName, aTup, aAll, outs, wipeE, isL, DL.intAt, DL.putAll, allO, allD, itemsOf, rngA, rngB, fw_ok, gEq_ii, gNe_ii, gEq_ss, gNe_ss, List.getElem?_cons_zero, List.getElem?_cons_succ, List.set_cons_zero, List.set_cons_succ, List.length_cons, List.length_nil, List.map_cons, List.map_nil, List.cons_append, List.nil_append, List.replicate_succ, List.replicate_zero, List.all_cons, List.all_nil, List.eraseIdx_cons_zero, List.eraseIdx_cons_succ, List.drop_succ_cons, List.drop_zero, List.filterMap_cons, List.filterMap_nil, Option.some.injEq, exists_eq_left', exists_eq_left, exists_eq', exists_eq, Option.join_some, Option.map_some, Option.bind_some, if_true, if_false, true_and, and_true, Bool.true_and, Bool.and_true, Bool.not_true, Bool.not_false, reduceCtorEq, false_and, exists_false, Bool.false_eq_true, OD.d.injEq, OD.l.injEq, HE.o.injEq, HE.al.injEq, List.cons.injEq, PyData.bool.injEq, PyData.int.injEq, PyData.str.injEq, ite_true, ite_false, Nat.reduceSub, Nat.reduceAdd, Nat.reduceLT, Nat.reduceEqDiff, Bool.and_self, Bool.or_true, Bool.true_or, Bool.or_false, Bool.false_or, Bool.false_and, Bool.and_false, eraseL_map, isd_d, er_d, sz_ok, is_int_n, is_int_b, is_int_i, is_int_s, is_int_l, is_int_t, is_int_d, is_bool_n, is_bool_b, is_bool_i, is_bool_s, is_bool_l, is_bool_t, is_bool_d, is_str_n, is_str_b, is_str_i, is_str_s, is_str_l, is_str_t, is_str_d, is_tuple_n, is_tuple_b, is_tuple_i, is_tuple_s, is_tuple_l, is_tuple_t, is_tuple_d, is_list_n, is_list_b, is_list_i, is_list_s, is_list_l, is_list_t, is_list_d, is_dict_n, is_dict_b, is_dict_i, is_dict_s, is_dict_l, is_dict_t, is_dict_d, ic0, ic1, ic2, ic3, ic4, ic5, ic6, ic7, ic8, ic9, ic10, ic11, ic12, ic13, ic14, ic15, ic16, ic17, ic18, ic19, ic20, ic21, noSL_d, nmL_noS, eq_self, decide_true, decide_false, Int.reduceLT, Int.reduceLE, Int.reduceEq, Int.reduceAdd, Int.reduceSub, Int.reduceNeg, Nat.reduceLeDiff, gNe_nil, gEq_nil, nmL_len, nmL_isd, nmL_er, ex_pair, fApp, h1, h2, decide_true, hz]
                      refine lc_if (E := fun y => [some (.d (.tuple [.str w, .str s, .str t])), some (.d (.str u)), y]) (p := strayB) (g := id) (fun _ => rfl) y (fun d hd => ?_) fun y => ?_
                      · obtain ⟨c, _, rfl⟩ := chars_mem hd
                        simp (config := { maxSteps := 4000000 }) only [w_bind, w_ret, w_ok, w_seq, w_if, w_ifE, w_test, w_and, w_or, w_not, w_andV, w_orV, w_notV, w_do, w_rt, w_asg, w_C, w_var, w_args0, w_args1, w_plc, w_own, w_val, w_prim, w_list, w_tup, w_call, w_callIo, w_callK, w_chain, w_for, w_items, w_rng, w_lc, w_meth1, w_setL2, w_stores, w_aug, w_move, w_str, mNx, mRetN, startE, rds, HE.rd, sh1, sh2, dp1, dp2, gAdd, DL.gSub, gLt, gLe, gGt, gGe, gOrd, gIsI, gLen, gIx, gIxAny, gInAny, isDct, gLenAny, enumOf, zipOf, dat, gMax2, gMin2, gAbs, gNeg, gAddI, gTupOf, gListOf, gTupAny, gListAny, gInt, gIsN, gSl0, gSlL, gSlH, gSlice, OD.erase, OD.noS, noSL, OD.shallow, OD.isD, OD.still, allStill, boolOf, aName, aTup, aAll, outs, wipeE, isL, DL.intAt, DL.putAll, allO, allD, itemsOf, rngA, rngB, fw_ok, gEq_ii, gNe_ii, gEq_ss, gNe_ss, List.getElem?_cons_zero, List.getElem?_cons_succ, List.set_cons_zero, List.set_cons_succ, List.length_cons, List.length_nil, List.map_cons, List.map_nil, List.cons_append, List.nil_append, List.replicate_succ, List.replicate_zero, List.all_cons, List.all_nil, List.eraseIdx_cons_zero, List.eraseIdx_cons_succ, List.drop_succ_cons, List.drop_zero, List.filterMap_cons, List.filterMap_nil, Option.some.injEq, exists_eq_left', exists_eq_left, exists_eq', exists_eq, Option.join_some, Option.map_some, Option.bind_some, if_true, if_false, true_and, and_true, Bool.true_and, Bool.and_true, Bool.not_true, Bool.not_false, reduceCtorEq, false_and, exists_false, Bool.false_eq_true, OD.d.injEq, OD.l.injEq, HE.o.injEq, HE.al.injEq, List.cons.injEq, PyData.bool.injEq, PyData.int.injEq, PyData.str.injEq, ite_true, ite_false, Nat.reduceSub, Nat.reduceAdd, Nat.reduceLT, Nat.reduceEqDiff, Bool.and_self, Bool.or_true, Bool.true_or, Bool.or_false, Bool.false_or, Bool.false_and, Bool.and_false, eraseL_map, isd_d, er_d, sz_ok, is_int_n, is_int_b, is_int_i, is_int_s, is_int_l, is_int_t, is_int_d, is_bool_n, is_bool_b, is_bool_i, is_bool_s, is_bool_l, is_bool_t, is_bool_d, is_str_n, is_str_b, is_str_i, is_str_s, is_str_l, is_str_t, is_str_d, is_tuple_n, is_tuple_b, is_tuple_i, is_tuple_s, is_tuple_l, is_tuple_t, is_tuple_d, is_list_n, is_list_b, is_list_i, is_list_s, is_list_l, is_list_t, is_list_d, is_dict_n, is_dict_b, is_dict_i, is_dict_s, is_dict_l, is_dict_t, is_dict_d, ic0, ic1, ic2, ic3, ic4, ic5, ic6, ic7, ic8, ic9, ic10, ic11, ic12, ic13, ic14, ic15, ic16, ic17, ic18, ic19, ic20, ic21, noSL_d, nmL_noS, eq_self, decide_true, decide_false, Int.reduceLT, Int.reduceLE, Int.reduceEq, Int.reduceAdd, Int.reduceSub, Int.reduceNeg, Nat.reduceLeDiff, gNe_nil, gEq_nil, nmL_len, nmL_isd, nmL_er, ex_pair, fApp, gInB]
                        rcases Bool.eq_false_or_eq_true (strIn ⟨#[c]⟩ "abcdefghijklmnopqrstuvwxyz") with q | q <;> simp (config := { maxSteps := 4000000 }) only [w_bind, w_ret, w_ok, w_seq, w_if, w_ifE, w_test, w_and, w_or, w_not, w_andV, w_orV, w_notV, w_do, w_rt, w_asg, w_C, w_var, w_args0, w_args1, w_plc, w_own, w_val, w_prim, w_list, w_tup, w_call, w_callIo, w_callK, w_chain, w_for, w_items, w_rng, w_lc, w_meth1, w_setL2, w_stores, w_aug, w_move, w_str, mNx, mRetN, startE, rds, HE.rd, sh1, sh2, dp1, dp2, gAdd, DL.gSub, gLt, gLe, gGt, gGe, gOrd, gIsI, gLen, gIx, gIxAny, gInAny, isDct, gLenAny, enumOf, zipOf, dat, gMax2, gMin2, gAbs, gNeg, gAddI, gTupOf, gListOf, gTupAny, gListAny, gInt, gIsN, gSl0, gSlL, gSlH, gSlice, OD.erase, OD.noS, noSL, OD.shallow, OD.isD, OD.still, allStill, boolOf, aName, aTup, aAll, outs, wipeE, isL, DL.intAt, DL.putAll, allO, allD, itemsOf, rngA, rngB, fw_ok, gEq_ii, gNe_ii, gEq_ss, gNe_ss, List.getElem?_cons_zero, List.getElem?_cons_succ, List.set_cons_zero, List.set_cons_succ, List.length_cons, List.length_nil, List.map_cons, List.map_nil, List.cons_append, List.nil_append, List.replicate_succ, List.replicate_zero, List.all_cons, List.all_nil, List.eraseIdx_cons_zero, List.eraseIdx_cons_succ, List.drop_succ_cons, List.drop_zero, List.filterMap_cons, List.filterMap_nil, Option.some.injEq, exists_eq_left', exists_eq_left, exists_eq', exists_eq, Option.join_some, Option.map_some, Option.bind_some, if_true, if_false, true_and, and_true, Bool.true_and, Bool.and_true, Bool.not_true, Bool.not_false, reduceCtorEq, false_and, exists_false, Bool.false_eq_true, OD.d.injEq, OD.l.injEq, HE.o.injEq, HE.al.injEq, List.cons.injEq, PyData.bool.injEq, PyData.int.injEq, PyData.str.injEq, ite_true, ite_false, Nat.reduceSub, Nat.reduceAdd, Nat.reduceLT, Nat.reduceEqDiff, Bool.and_self, Bool.or_true, Bool.true_or, Bool.or_false, Bool.false_or, Bool.false_and, Bool.and_false, eraseL_map, isd_d, er_d, sz_ok, is_int_n, is_int_b, is_int_i, is_int_s, is_int_l, is_int_t, is_int_d, is_bool_n, is_bool_b, is_bool_i, is_bool_s, is_bool_l, is_bool_t, is_bool_d, is_str_n, is_str_b, is_str_i, is_str_s, is_str_l, is_str_t, is_str_d, is_tuple_n, is_tuple_b, is_tuple_i, is_tuple_s, is_tuple_l, is_tuple_t, is_tuple_d, is_list_n, is_list_b, is_list_i, is_list_s, is_list_l, is_list_t, is_list_d, is_dict_n, is_dict_b, is_dict_i, is_dict_s, is_dict_l, is_dict_t, is_dict_d, ic0, ic1, ic2, ic3, ic4, ic5, ic6, ic7, ic8, ic9, ic10, ic11, ic12, ic13, ic14, ic15, ic16, ic17, ic18, ic19, ic20, ic21, noSL_d, nmL_noS, eq_self, decide_true, decide_false, Int.reduceLT, Int.reduceLE, Int.reduceEq, Int.reduceAdd, Int.reduceSub, Int.reduceNeg, Nat.reduceLeDiff, gNe_nil, gEq_nil, nmL_len, nmL_isd, nmL_er, ex_pair, fApp, q, strayB, id]
                      · rw [List.map_id]
                        simp (config := { maxSteps := 4000000 }) only [w_bind, w_ret, w_ok, w_seq, w_if, w_ifE, w_test, w_and, w_or, w_not, w_andV, w_orV, w_notV, w_do, w_rt, w_asg, w_C, w_var, w_args0, w_args1, w_plc, w_own, w_val, w_prim, w_list, w_tup, w_call, w_callIo, w_callK, w_chain, w_for, w_items, w_rng, w_lc, w_meth1, w_setL2, w_stores, w_aug, w_move, w_str, mNx, mRetN, startE, rds, HE.rd, sh1, sh2, dp1, dp2, gAdd, DL.gSub, gLt, gLe, gGt, gGe, gOrd, gIsI, gLen, gIx, gIxAny, gInAny, isDct, gLenAny, enumOf, zipOf, dat, gMax2, gMin2, gAbs, gNeg, gAddI, gTupOf, gListOf, gTupAny, gListAny, gInt, gIsN, gSl0, gSlL, gSlH, gSlice, OD.erase, OD.noS, noSL, OD.shallow, OD.isD, OD.still, allStill, boolOf, aName, aTup, aAll, outs, wipeE, isL, DL.intAt, DL.putAll, allO, allD, itemsOf, rngA, rngB, fw_ok, gEq_ii, gNe_ii, gEq_ss, gNe_ss, List.getElem?_cons_zero, List.getElem?_cons_succ, List.set_cons_zero, List.set_cons_succ, List.length_cons, List.length_nil, List.map_cons, List.map_nil, List.cons_append, List.nil_append, List.replicate_succ, List.replicate_zero, List.all_cons, List.all_nil, List.eraseIdx_cons_zero, List.eraseIdx_cons_succ, List.drop_succ_cons, List.drop_zero, List.filterMap_cons, List.filterMap_nil, Option.some.injEq, exists_eq_left', exists_eq_left, exists_eq', exists_eq, Option.join_some, Option.map_some, Option.bind_some, if_true, if_false, true_and, and_true, Bool.true_and, Bool.and_true, Bool.not_true, Bool.not_false, reduceCtorEq, false_and, exists_false, Bool.false_eq_true, OD.d.injEq, OD.l.injEq, HE.o.injEq, HE.al.injEq, List.cons.injEq, PyData.bool.injEq, PyData.int.injEq, PyData.str.injEq, ite_true, ite_false, Nat.reduceSub, Nat.reduceAdd, Nat.reduceLT, Nat.reduceEqDiff, Bool.and_self, Bool.or_true, Bool.true_or, Bool.or_false, Bool.false_or, Bool.false_and, Bool.and_false, eraseL_map, isd_d, er_d, sz_ok, is_int_n, is_int_b, is_int_i, is_int_s, is_int_l, is_int_t, is_int_d, is_bool_n, is_bool_b, is_bool_i, is_bool_s, is_bool_l, is_bool_t, is_bool_d, is_str_n, is_str_b, is_str_i, is_str_s, is_str_l, is_str_t, is_str_d, is_tuple_n, is_tuple_b, is_tuple_i, is_tuple_s, is_tuple_l, is_tuple_t, is_tuple_d, is_list_n, is_list_b, is_list_i, is_list_s, is_list_l, is_list_t, is_list_d, is_dict_n, is_dict_b, is_dict_i, is_dict_s, is_dict_l, is_dict_t, is_dict_d, ic0, ic1, ic2, ic3, ic4, ic5, ic6, ic7, ic8, ic9, ic10, ic11, ic12, ic13, ic14, ic15, ic16, ic17, ic18, ic19, ic20, ic21, noSL_d, nmL_noS, eq_self, decide_true, decide_false, Int.reduceLT, Int.reduceLE, Int.reduceEq, Int.reduceAdd, Int.reduceSub, Int.reduceNeg, Nat.reduceLeDiff, gNe_nil, gEq_nil, nmL_len, nmL_isd, nmL_er, ex_pair, fApp, gNe_nil, stray_emp]
                        rcases Bool.eq_false_or_eq_true (u.cps.toList.all letB) with hl | hl
                        rotate_left
                        · simp (config := { maxSteps := 4000000 }) only [w_bind, w_ret, w_ok, w_seq, w_if, w_ifE, w_test, w_and, w_or, w_not, w_andV, w_orV, w_notV, w_do, w_rt, w_asg, w_C, w_var, w_args0, w_args1, w_plc, w_own, w_val, w_prim, w_list, w_tup, w_call, w_callIo, w_callK, w_chain, w_for, w_items, w_rng, w_lc, w_meth1, w_setL2, w_stores, w_aug, w_move, w_str, mNx, mRetN, startE, rds, HE.rd, sh1, sh2, dp1, dp2, gAdd, DL.gSub, gLt, gLe, gGt, gGe, gOrd, gIsI, gLen, gIx, gIxAny, gInAny, isDct, gLenAny, enumOf, zipOf, dat, gMax2, gMin2, gAbs, gNeg, gAddI, gTupOf, gListOf, gTupAny, gListAny, gInt, gIsN, gSl0, gSlL, gSlH, gSlice, OD.erase, OD.noS, noSL, OD.shallow, OD.isD, OD.still, allStill, boolOf, aName, aTup, aAll, outs, wipeE, isL, DL.intAt, DL.putAll, allO, allD, itemsOf, rngA, rngB, fw_ok, gEq_ii, gNe_ii, gEq_ss, gNe_ss, List.getElem?_cons_zero, List.getElem?_cons_succ, List.set_cons_zero, List.set_cons_succ, List.length_cons, List.length_nil, List.map_cons, List.map_nil, List.cons_append, List.nil_append, List.replicate_succ, List.replicate_zero, List.all_cons, List.all_nil, List.eraseIdx_cons_zero, List.eraseIdx_cons_succ, List.drop_succ_cons, List.drop_zero, List.filterMap_cons, List.filterMap_nil, Option.some.injEq, exists_eq_left', exists_eq_left, exists_eq', exists_eq, Option.join_some, Option.map_some, Option.bind_some, if_true, if_false, true_and, and_true, Bool.true_and, Bool.and_true, Bool.not_true, Bool.not_false, reduceCtorEq, false_and, exists_false, Bool.false_eq_true, OD.d.injEq, OD.l.injEq, HE.o.injEq, HE.al.injEq, List.cons.injEq, PyData.bool.injEq, PyData.int.injEq, PyData.str.injEq, ite_true, ite_false, Nat.reduceSub, Nat.reduceAdd, Nat.reduceLT, Nat.reduceEqDiff, Bool.and_self, Bool.or_true, Bool.true_or, Bool.or_false, Bool.false_or, Bool.false_and, Bool.and_false, eraseL_map, isd_d, er_d, sz_ok, is_int_n, is_int_b, is_int_i, is_int_s, is_int_l, is_int_t, is_int_d, is_bool_n, is_bool_b, is_bool_i, is_bool_s, is_bool_l, is_bool_t, is_bool_d, is_str_n, is_str_b, is_str_i, is_str_s, is_str_l, is_str_t, is_str_d, is_tuple_n, is_tuple_b, is_tuple_i, is_tuple_s, is_tuple_l, is_tuple_t, is_tuple_d, is_list_n, is_list_b, is_list_i, is_list_s, is_list_l, is_list_t, is_list_d, is_dict_n, is_dict_b, is_dict_i, is_dict_s, is_dict_l, is_dict_t, is_dict_d, ic0, ic1, ic2, ic3, ic4, ic5, ic6, ic7, ic8, ic9, ic10, ic11, ic12, ic13, ic14, ic15, ic16, ic17, ic18, ic19, ic20, ic21, noSL_d, nmL_noS, eq_self, decide_true, decide_false, Int.reduceLT, Int.reduceLE, Int.reduceEq, Int.reduceAdd, Int.reduceSub, Int.reduceNeg, Nat.reduceLeDiff, gNe_nil, gEq_nil, nmL_len, nmL_isd, nmL_er, ex_pair, fApp, hl]
                          exact (no (by simp [nameB, hl])).symm
                        · simp (config := { maxSteps := 4000000 }) only [w_bind, w_ret, w_ok, w_seq, w_if, w_ifE, w_test, w_and, w_or, w_not, w_andV, w_orV, w_notV, w_do, w_rt, w_asg, w_C, w_var, w_args0, w_args1, w_plc, w_own, w_val, w_prim, w_list, w_tup, w_call, w_callIo, w_callK, w_chain, w_for, w_items, w_rng, w_lc, w_meth1, w_setL2, w_stores, w_aug, w_move, w_str, mNx, mRetN, startE, rds, HE.rd, sh1, sh2, dp1, dp2, gAdd, DL.gSub, gLt, gLe, gGt, gGe, gOrd, gIsI, gLen, gIx, gIxAny, gInAny, isDct, gLenAny, enumOf, zipOf, dat, gMax2, gMin2, gAbs, gNeg, gAddI, gTupOf, gListOf, gTupAny, gListAny, gInt, gIsN, gSl0, gSlL, gSlH, gSlice, OD.erase, OD.noS, noSL, OD.shallow, OD.isD, OD.still, allStill, boolOf, aName, aTup, aAll, outs, wipeE, isL, DL.intAt, DL.putAll, allO, allD, itemsOf, rngA, rngB, fw_ok, gEq_ii, gNe_ii, gEq_ss, gNe_ss, List.getElem?_cons_zero, List.getElem?_cons_succ, List.set_cons_zero, List.set_cons_succ, List.length_cons, List.length_nil, List.map_cons, List.map_nil, List.cons_append, List.nil_append, List.replicate_succ, List.replicate_zero, List.all_cons, List.all_nil, List.eraseIdx_cons_zero, List.eraseIdx_cons_succ, List.drop_succ_cons, List.drop_zero, List.filterMap_cons, List.filterMap_nil, Option.some.injEq, exists_eq_left', exists_eq_left, exists_eq', exists_eq, Option.join_some, Option.map_some, Option.bind_some, if_true, if_false, true_and, and_true, Bool.true_and, Bool.and_true, Bool.not_true, Bool.not_false, reduceCtorEq, false_and, exists_false, Bool.false_eq_true, OD.d.injEq, OD.l.injEq, HE.o.injEq, HE.al.injEq, List.cons.injEq, PyData.bool.injEq, PyData.int.injEq, PyData.str.injEq, ite_true, ite_false, Nat.reduceSub, Nat.reduceAdd, Nat.reduceLT, Nat.reduceEqDiff, Bool.and_self, Bool.or_true, Bool.true_or, Bool.or_false, Bool.false_or, Bool.false_and, Bool.and_false, eraseL_map, isd_d, er_d, sz_ok, is_int_n, is_int_b, is_int_i, is_int_s, is_int_l, is_int_t, is_int_d, is_bool_n, is_bool_b, is_bool_i, is_bool_s, is_bool_l, is_bool_t, is_bool_d, is_str_n, is_str_b, is_str_i, is_str_s, is_str_l, is_str_t, is_str_d, is_tuple_n, is_tuple_b, is_tuple_i, is_tuple_s, is_tuple_l, is_tuple_t, is_tuple_d, is_list_n, is_list_b, is_list_i, is_list_s, is_list_l, is_list_t, is_list_d, is_dict_n, is_dict_b, is_dict_i, is_dict_s, is_dict_l, is_dict_t, is_dict_d, ic0, ic1, ic2, ic3, ic4, ic5, ic6, ic7, ic8, ic9, ic10, ic11, ic12, ic13, ic14, ic15, ic16, ic17, ic18, ic19, ic20, ic21, noSL_d, nmL_noS, eq_self, decide_true, decide_false, Int.reduceLT, Int.reduceLE, Int.reduceEq, Int.reduceAdd, Int.reduceSub, Int.reduceNeg, Nat.reduceLeDiff, gNe_nil, gEq_nil, nmL_len, nmL_isd, nmL_er, ex_pair, fApp, hl]
                          refine ⟨?_, _, _, rfl, rfl⟩
                          intro j' hj' d hd
                          by_cases e : j' = j
                          · subst e
                            rw [hj] at hd
                            cases hd
                            simp [nameB, h1, h2, hl]
                          · exact ha j' (by omega) d hd
                    · simp (config := { maxSteps := 4000000 }) only [w_bind, w_ret, w_ok, w_seq, w_if, w_ifE, w_test, w_and, w_or, w_not, w_andV, w_orV, w_notV, w_do, w_rt, w_asg, w_C, w_var, w_args0, w_args1, w_plc, w_own, w_val, w_prim, w_list, w_tup, w_call, w_callIo, w_callK, w_chain, w_for, w_items, w_rng, w_lc, w_meth1, w_setL2, w_stores, w_aug, w_move, w_str, mNx, mRetN, startE, rds, HE.rd, sh1, sh2, dp1, dp2, gAdd, DL.gSub, gLt, gLe, gGt, gGe, gOrd, gIsI, gLen, gIx, gIxAny, gInAny, isDct, gLenAny, enumOf, zipOf, dat, gMax2, gMin2, gAbs, gNeg, gAddI, gTupOf, gListOf, gTupAny, gListAny, gInt, gIsN, gSl0, gSlL, gSlH, gSlice, OD.erase, OD.noS, noSL, OD.shallow, OD.isD, OD.still, allStill, boolOf, aName, aTup, aAll, outs, wipeE, isL, DL.intAt, DL.putAll, allO, allD, itemsOf, rngA, rngB, fw_ok, gEq_ii, gNe_ii, gEq_ss, gNe_ss, List.getElem?_cons_zero, List.getElem?_cons_succ, List.set_cons_zero, List.set_cons_succ, List.length_cons, List.length_nil, List.map_cons, List.map_nil, List.cons_append, List.nil_append, List.replicate_succ, List.replicate_zero, List.all_cons, List.all_nil, List.eraseIdx_cons_zero, List.eraseIdx_cons_succ, List.drop_succ_cons, List.drop_zero, List.filterMap_cons, List.filterMap_nil, Option.some.injEq, exists_eq_left', exists_eq_left, exists_eq', exists_eq, Option.join_some, Option.map_some, Option.bind_some, if_true, if_false, true_and, and_true, Bool.true_and, Bool.and_true, Bool.not_true, Bool.not_false, reduceCtorEq, false_and, exists_false, Bool.false_eq_true, OD.d.injEq, OD.l.injEq, HE.o.injEq, HE.al.injEq, List.cons.injEq, PyData.bool.injEq, PyData.int.injEq, PyData.str.injEq, ite_true, ite_false, Nat.reduceSub, Nat.reduceAdd, Nat.reduceLT, Nat.reduceEqDiff, Bool.and_self, Bool.or_true, Bool.true_or, Bool.or_false, Bool.false_or, Bool.false_and, Bool.and_false, eraseL_map, isd_d, er_d, sz_ok, is_int_n, is_int_b, is_int_i, is_int_s, is_int_l, is_int_t, is_int_d, is_bool_n, is_bool_b, is_bool_i, is_bool_s, is_bool_l, is_bool_t, is_bool_d, is_str_n, is_str_b, is_str_i, is_str_s, is_str_l, is_str_t, is_str_d, is_tuple_n, is_tuple_b, is_tuple_i, is_tuple_s, is_tuple_l, is_tuple_t, is_tuple_d, is_list_n, is_list_b, is_list_i, is_list_s, is_list_l, is_list_t, is_list_d, is_dict_n, is_dict_b, is_dict_i, is_dict_s, is_dict_l, is_dict_t, is_dict_d, ic0, ic1, ic2, ic3, ic4, ic5, ic6, ic7, ic8, ic9, ic10, ic11, ic12, ic13, ic14, ic15, ic16, ic17, ic18, ic19, ic20, ic21, noSL_d, nmL_noS, eq_self, decide_true, decide_false, Int.reduceLT, Int.reduceLE, Int.reduceEq, Int.reduceAdd, Int.reduceSub, Int.reduceNeg, Nat.reduceLeDiff, gNe_nil, gEq_nil, nmL_len, nmL_isd, nmL_er, ex_pair, fApp, h1, h2, decide_true, decide_false]
                      exact (no (by simp [nameB, h2])).symm
                  · simp (config := { maxSteps := 4000000 }) only [w_bind, w_ret, w_ok, w_seq, w_if, w_ifE, w_test, w_and, w_or, w_not, w_andV, w_orV, w_notV, w_do, w_rt, w_asg, w_C, w_var, w_args0, w_args1, w_plc, w_own, w_val, w_prim, w_list, w_tup, w_call, w_callIo, w_callK, w_chain, w_for, w_items, w_rng, w_lc, w_meth1, w_setL2, w_stores, w_aug, w_move, w_str, mNx, mRetN, startE, rds, HE.rd, sh1, sh2, dp1, dp2, gAdd, DL.gSub, gLt, gLe, gGt, gGe, gOrd, gIsI, gLen, gIx, gIxAny, gInAny, isDct, gLenAny, enumOf, zipOf, dat, gMax2, gMin2, gAbs, gNeg, gAddI, gTupOf, gListOf, gTupAny, gListAny, gInt, gIsN, gSl0, gSlL, gSlH, gSlice, OD.erase, OD.noS, noSL, OD.shallow, OD.isD, OD.still, allStill, boolOf, aName, aTup, aAll, outs, wipeE, isL, DL.intAt, DL.putAll, allO, allD, itemsOf, rngA, rngB, fw_ok, gEq_ii, gNe_ii, gEq_ss, gNe_ss, List.getElem?_cons_zero, List.getElem?_cons_succ, List.set_cons_zero, List.set_cons_succ, List.length_cons, List.length_nil, List.map_cons, List.map_nil, List.cons_append, List.nil_append, List.replicate_succ, List.replicate_zero, List.all_cons, List.all_nil, List.eraseIdx_cons_zero, List.eraseIdx_cons_succ, List.drop_succ_cons, List.drop_zero, List.filterMap_cons, List.filterMap_nil, Option.some.injEq, exists_eq_left', exists_eq_left, exists_eq', exists_eq, Option.join_some, Option.map_some, Option.bind_some, if_true, if_false, true_and, and_true, Bool.true_and, Bool.and_true, Bool.not_true, Bool.not_false, reduceCtorEq, false_and, exists_false, Bool.false_eq_true, OD.d.injEq, OD.l.injEq, HE.o.injEq, HE.al.injEq, List.cons.injEq, PyData.bool.injEq, PyData.int.injEq, PyData.str.injEq, ite_true, ite_false, Nat.reduceSub, Nat.reduceAdd, Nat.reduceLT, Nat.reduceEqDiff, Bool.and_self, Bool.or_true, Bool.true_or, Bool.or_false, Bool.false_or, Bool.false_and, Bool.and_false, eraseL_map, isd_d, er_d, sz_ok, is_int_n, is_int_b, is_int_i, is_int_s, is_int_l, is_int_t, is_int_d, is_bool_n, is_bool_b, is_bool_i, is_bool_s, is_bool_l, is_bool_t, is_bool_d, is_str_n, is_str_b, is_str_i, is_str_s, is_str_l, is_str_t, is_str_d, is_tuple_n, is_tuple_b, is_tuple_i, is_tuple_s, is_tuple_l, is_tuple_t, is_tuple_d, is_list_n, is_list_b, is_list_i, is_list_s, is_list_l, is_list_t, is_list_d, is_dict_n, is_dict_b, is_dict_i, is_dict_s, is_dict_l, is_dict_t, is_dict_d, ic0, ic1, ic2, ic3, ic4, ic5, ic6, ic7, ic8, ic9, ic10, ic11, ic12, ic13, ic14, ic15, ic16, ic17, ic18, ic19, ic20, ic21, noSL_d, nmL_noS, eq_self, decide_true, decide_false, Int.reduceLT, Int.reduceLE, Int.reduceEq, Int.reduceAdd, Int.reduceSub, Int.reduceNeg, Nat.reduceLeDiff, gNe_nil, gEq_nil, nmL_len, nmL_isd, nmL_er, ex_pair, fApp, h1, decide_false]
                    exact (no (by simp [nameB, h1])).symm
                · rintro e ⟨ha, x, y, rfl⟩
                  have n1 := ha 0 (by simp) (.str s) rfl
                  have n2 := ha 1 (by simp) (.str t) rfl
                  simp (config := { maxSteps := 4000000 }) only [w_bind, w_ret, w_ok, w_seq, w_if, w_ifE, w_test, w_and, w_or, w_not, w_andV, w_orV, w_notV, w_do, w_rt, w_asg, w_C, w_var, w_args0, w_args1, w_plc, w_own, w_val, w_prim, w_list, w_tup, w_call, w_callIo, w_callK, w_chain, w_for, w_items, w_rng, w_lc, w_meth1, w_setL2, w_stores, w_aug, w_move, w_str, mNx, mRetN, startE, rds, HE.rd, sh1, sh2, dp1, dp2, gAdd, DL.gSub, gLt, gLe, gGt, gGe, gOrd, gIsI, gLen, gIx, gIxAny, gInAny, isDct, gLenAny, enumOf, zipOf, dat, gMax2, gMin2, gAbs, gNeg, gAddI, gTupOf, gListOf, gTupAny, gListAny, gInt, gIsN, gSl0, gSlL, gSlH, gSlice, OD.erase, OD.noS, noSL, OD.shallow, OD.isD, OD.still, allStill, boolOf, aName, aTup, aAll, outs, wipeE, isL, DL.intAt, DL.putAll, allO, allD, itemsOf, rngA, rngB, fw_ok, gEq_ii, gNe_ii, gEq_ss, gNe_ss, List.getElem?_cons_zero, List.getElem?_cons_succ, List.set_cons_zero, List.set_cons_succ, List.length_cons, List.length_nil, List.map_cons, List.map_nil, List.cons_append, List.nil_append, List.replicate_succ, List.replicate_zero, List.all_cons, List.all_nil, List.eraseIdx_cons_zero, List.eraseIdx_cons_succ, List.drop_succ_cons, List.drop_zero, List.filterMap_cons, List.filterMap_nil, Option.some.injEq, exists_eq_left', exists_eq_left, exists_eq', exists_eq, Option.join_some, Option.map_some, Option.bind_some, if_true, if_false, true_and, and_true, Bool.true_and, Bool.and_true, Bool.not_true, Bool.not_false, reduceCtorEq, false_and, exists_false, Bool.false_eq_true, OD.d.injEq, OD.l.injEq, HE.o.injEq, HE.al.injEq, List.cons.injEq, PyData.bool.injEq, PyData.int.injEq, PyData.str.injEq, ite_true, ite_false, Nat.reduceSub, Nat.reduceAdd, Nat.reduceLT, Nat.reduceEqDiff, Bool.and_self, Bool.or_true, Bool.true_or, Bool.or_false, Bool.false_or, Bool.false_and, Bool.and_false, eraseL_map, isd_d, er_d, sz_ok, is_int_n, is_int_b, is_int_i, is_int_s, is_int_l, is_int_t, is_int_d, is_bool_n, is_bool_b, is_bool_i, is_bool_s, is_bool_l, is_bool_t, is_bool_d, is_str_n, is_str_b, is_str_i, is_str_s, is_str_l, is_str_t, is_str_d, is_tuple_n, is_tuple_b, is_tuple_i, is_tuple_s, is_tuple_l, is_tuple_t, is_tuple_d, is_list_n, is_list_b, is_list_i, is_list_s, is_list_l, is_list_t, is_list_d, is_dict_n, is_dict_b, is_dict_i, is_dict_s, is_dict_l, is_dict_t, is_dict_d, ic0, ic1, ic2, ic3, ic4, ic5, ic6, ic7, ic8, ic9, ic10, ic11, ic12, ic13, ic14, ic15, ic16, ic17, ic18, ic19, ic20, ic21, noSL_d, nmL_noS, eq_self, decide_true, decide_false, Int.reduceLT, Int.reduceLE, Int.reduceEq, Int.reduceAdd, Int.reduceSub, Int.reduceNeg, Nat.reduceLeDiff, gNe_nil, gEq_nil, nmL_len, nmL_isd, nmL_er, ex_pair, fApp, at0, at1, at2, in_words]
                  cases hw : wordB (.str w)
                  · simp (config := { maxSteps := 4000000 }) only [w_bind, w_ret, w_ok, w_seq, w_if, w_ifE, w_test, w_and, w_or, w_not, w_andV, w_orV, w_notV, w_do, w_rt, w_asg, w_C, w_var, w_args0, w_args1, w_plc, w_own, w_val, w_prim, w_list, w_tup, w_call, w_callIo, w_callK, w_chain, w_for, w_items, w_rng, w_lc, w_meth1, w_setL2, w_stores, w_aug, w_move, w_str, mNx, mRetN, startE, rds, HE.rd, sh1, sh2, dp1, dp2, gAdd, DL.gSub, gLt, gLe, gGt, gGe, gOrd, gIsI, gLen, gIx, gIxAny, gInAny, isDct, gLenAny, enumOf, zipOf, dat, gMax2, gMin2, gAbs, gNeg, gAddI, gTupOf, gListOf, gTupAny, gListAny, gInt, gIsN, gSl0, gSlL, gSlH, gSlice, OD.erase, OD.noS, noSL, OD.shallow, OD.isD, OD.still, allStill, boolOf, aName, aTup, aAll, outs, wipeE, isL, DL.intAt, DL.putAll, allO, allD, itemsOf, rngA, rngB, fw_ok, gEq_ii, gNe_ii, gEq_ss, gNe_ss, List.getElem?_cons_zero, List.getElem?_cons_succ, List.set_cons_zero, List.set_cons_succ, List.length_cons, List.length_nil, List.map_cons, List.map_nil, List.cons_append, List.nil_append, List.replicate_succ, List.replicate_zero, List.all_cons, List.all_nil, List.eraseIdx_cons_zero, List.eraseIdx_cons_succ, List.drop_succ_cons, List.drop_zero, List.filterMap_cons, List.filterMap_nil, Option.some.injEq, exists_eq_left', exists_eq_left, exists_eq', exists_eq, Option.join_some, Option.map_some, Option.bind_some, if_true, if_false, true_and, and_true, Bool.true_and, Bool.and_true, Bool.not_true, Bool.not_false, reduceCtorEq, false_and, exists_false, Bool.false_eq_true, OD.d.injEq, OD.l.injEq, HE.o.injEq, HE.al.injEq, List.cons.injEq, PyData.bool.injEq, PyData.int.injEq, PyData.str.injEq, ite_true, ite_false, Nat.reduceSub, Nat.reduceAdd, Nat.reduceLT, Nat.reduceEqDiff, Bool.and_self, Bool.or_true, Bool.true_or, Bool.or_false, Bool.false_or, Bool.false_and, Bool.and_false, eraseL_map, isd_d, er_d, sz_ok, is_int_n, is_int_b, is_int_i, is_int_s, is_int_l, is_int_t, is_int_d, is_bool_n, is_bool_b, is_bool_i, is_bool_s, is_bool_l, is_bool_t, is_bool_d, is_str_n, is_str_b, is_str_i, is_str_s, is_str_l, is_str_t, is_str_d, is_tuple_n, is_tuple_b, is_tuple_i, is_tuple_s, is_tuple_l, is_tuple_t, is_tuple_d, is_list_n, is_list_b, is_list_i, is_list_s, is_list_l, is_list_t, is_list_d, is_dict_n, is_dict_b, is_dict_i, is_dict_s, is_dict_l, is_dict_t, is_dict_d, ic0, ic1, ic2, ic3, ic4, ic5, ic6, ic7, ic8, ic9, ic10, ic11, ic12, ic13, ic14, ic15, ic16, ic17, ic18, ic19, ic20, ic21, noSL_d, nmL_noS, eq_self, decide_true, decide_false, Int.reduceLT, Int.reduceLE, Int.reduceEq, Int.reduceAdd, Int.reduceSub, Int.reduceNeg, Nat.reduceLeDiff, gNe_nil, gEq_nil, nmL_len, nmL_isd, nmL_er, ex_pair, fApp]
                    simp [copyB, hw]
                  · simp (config := { maxSteps := 4000000 }) only [w_bind, w_ret, w_ok, w_seq, w_if, w_ifE, w_test, w_and, w_or, w_not, w_andV, w_orV, w_notV, w_do, w_rt, w_asg, w_C, w_var, w_args0, w_args1, w_plc, w_own, w_val, w_prim, w_list, w_tup, w_call, w_callIo, w_callK, w_chain, w_for, w_items, w_rng, w_lc, w_meth1, w_setL2, w_stores, w_aug, w_move, w_str, mNx, mRetN, startE, rds, HE.rd, sh1, sh2, dp1, dp2, gAdd, DL.gSub, gLt, gLe, gGt, gGe, gOrd, gIsI, gLen, gIx, gIxAny, gInAny, isDct, gLenAny, enumOf, zipOf, dat, gMax2, gMin2, gAbs, gNeg, gAddI, gTupOf, gListOf, gTupAny, gListAny, gInt, gIsN, gSl0, gSlL, gSlH, gSlice, OD.erase, OD.noS, noSL, OD.shallow, OD.isD, OD.still, allStill, boolOf, aName, aTup, aAll, outs, wipeE, isL, DL.intAt, DL.putAll, allO, allD, itemsOf, rngA, rngB, fw_ok, gEq_ii, gNe_ii, gEq_ss, gNe_ss, List.getElem?_cons_zero, List.getElem?_cons_succ, List.set_cons_zero, List.set_cons_succ, List.length_cons, List.length_nil, List.map_cons, List.map_nil, List.cons_append, List.nil_append, List.replicate_succ, List.replicate_zero, List.all_cons, List.all_nil, List.eraseIdx_cons_zero, List.eraseIdx_cons_succ, List.drop_succ_cons, List.drop_zero, List.filterMap_cons, List.filterMap_nil, Option.some.injEq, exists_eq_left', exists_eq_left, exists_eq', exists_eq, Option.join_some, Option.map_some, Option.bind_some, if_true, if_false, true_and, and_true, Bool.true_and, Bool.and_true, Bool.not_true, Bool.not_false, reduceCtorEq, false_and, exists_false, Bool.false_eq_true, OD.d.injEq, OD.l.injEq, HE.o.injEq, HE.al.injEq, List.cons.injEq, PyData.bool.injEq, PyData.int.injEq, PyData.str.injEq, ite_true, ite_false, Nat.reduceSub, Nat.reduceAdd, Nat.reduceLT, Nat.reduceEqDiff, Bool.and_self, Bool.or_true, Bool.true_or, Bool.or_false, Bool.false_or, Bool.false_and, Bool.and_false, eraseL_map, isd_d, er_d, sz_ok, is_int_n, is_int_b, is_int_i, is_int_s, is_int_l, is_int_t, is_int_d, is_bool_n, is_bool_b, is_bool_i, is_bool_s, is_bool_l, is_bool_t, is_bool_d, is_str_n, is_str_b, is_str_i, is_str_s, is_str_l, is_str_t, is_str_d, is_tuple_n, is_tuple_b, is_tuple_i, is_tuple_s, is_tuple_l, is_tuple_t, is_tuple_d, is_list_n, is_list_b, is_list_i, is_list_s, is_list_l, is_list_t, is_list_d, is_dict_n, is_dict_b, is_dict_i, is_dict_s, is_dict_l, is_dict_t, is_dict_d, ic0, ic1, ic2, ic3, ic4, ic5, ic6, ic7, ic8, ic9, ic10, ic11, ic12, ic13, ic14, ic15, ic16, ic17, ic18, ic19, ic20, ic21, noSL_d, nmL_noS, eq_self, decide_true, decide_false, Int.reduceLT, Int.reduceLE, Int.reduceEq, Int.reduceAdd, Int.reduceSub, Int.reduceNeg, Nat.reduceLeDiff, gNe_nil, gEq_nil, nmL_len, nmL_isd, nmL_er, ex_pair, fApp, at0, at1, at2]
                    simp [copyB, hw, n1, n2, eqv_ss]
              | _ => cases ht
            | _ => cases hs
          | _ => cases hw
        · have e0 : ([w, s, t].filter fun d => !DL.is_str d).isEmpty = false := by
            rw [fil_emp]
            cases hw : DL.is_str w <;> cases hs : DL.is_str s <;> cases ht : DL.is_str t <;> simp_all
          have e1 : copyB (.tuple [w, s, t]) = false := by
            cases w <;> cases s <;> cases t <;> first | rfl | (exact absurd ⟨rfl, rfl, rfl⟩ hs) | simp [copyB, nameB]
          simp (config := { maxSteps := 4000000 }) only [w_bind, w_ret, w_ok, w_seq, w_if, w_ifE, w_test, w_and, w_or, w_not, w_andV, w_orV, w_notV, w_do, w_rt, w_asg, w_C, w_var, w_args0, w_args1, w_plc, w_own, w_val, w_prim, w_list, w_tup, w_call, w_callIo, w_callK, w_chain, w_for, w_items, w_rng, w_lc, w_meth1, w_setL2, w_stores, w_aug, w_move, w_str, mNx, mRetN, startE, rds, HE.rd, sh1, sh2, dp1, dp2, gAdd, DL.gSub, gLt, gLe, gGt, gGe, gOrd, gIsI, gLen, gIx, gIxAny, gInAny, isDct, gLenAny, enumOf, zipOf, dat, gMax2, gMin2, gAbs, gNeg, gAddI, gTupOf, gListOf, gTupAny, gListAny, gInt, gIsN, gSl0, gSlL, gSlH, gSlice, OD.erase, OD.noS, noSL, OD.shallow, OD.isD, OD.still, allStill, boolOf, aName, aTup, aAll, outs, wipeE, isL, DL.intAt, DL.putAll, allO, allD, itemsOf, rngA, rngB, fw_ok, gEq_ii, gNe_ii, gEq_ss, gNe_ss, List.getElem?_cons_zero, List.getElem?_cons_succ, List.set_cons_zero, List.set_cons_succ, List.length_cons, List.length_nil, List.map_cons, List.map_nil, List.cons_append, List.nil_append, List.replicate_succ, List.replicate_zero, List.all_cons, List.all_nil, List.eraseIdx_cons_zero, List.eraseIdx_cons_succ, List.drop_succ_cons, List.drop_zero, List.filterMap_cons, List.filterMap_nil, Option.some.injEq, exists_eq_left', exists_eq_left, exists_eq', exists_eq, Option.join_some, Option.map_some, Option.bind_some, if_true, if_false, true_and, and_true, Bool.true_and, Bool.and_true, Bool.not_true, Bool.not_false, reduceCtorEq, false_and, exists_false, Bool.false_eq_true, OD.d.injEq, OD.l.injEq, HE.o.injEq, HE.al.injEq, List.cons.injEq, PyData.bool.injEq, PyData.int.injEq, PyData.str.injEq, ite_true, ite_false, Nat.reduceSub, Nat.reduceAdd, Nat.reduceLT, Nat.reduceEqDiff, Bool.and_self, Bool.or_true, Bool.true_or, Bool.or_false, Bool.false_or, Bool.false_and, Bool.and_false, eraseL_map, isd_d, er_d, sz_ok, is_int_n, is_int_b, is_int_i, is_int_s, is_int_l, is_int_t, is_int_d, is_bool_n, is_bool_b, is_bool_i, is_bool_s, is_bool_l, is_bool_t, is_bool_d, is_str_n, is_str_b, is_str_i, is_str_s, is_str_l, is_str_t, is_str_d, is_tuple_n, is_tuple_b, is_tuple_i, is_tuple_s, is_tuple_l, is_tuple_t, is_tuple_d, is_list_n, is_list_b, is_list_i, is_list_s, is_list_l, is_list_t, is_list_d, is_dict_n, is_dict_b, is_dict_i, is_dict_s, is_dict_l, is_dict_t, is_dict_d, ic0, ic1, ic2, ic3, ic4, ic5, ic6, ic7, ic8, ic9, ic10, ic11, ic12, ic13, ic14, ic15, ic16, ic17, ic18, ic19, ic20, ic21, noSL_d, nmL_noS, eq_self, decide_true, decide_false, Int.reduceLT, Int.reduceLE, Int.reduceEq, Int.reduceAdd, Int.reduceSub, Int.reduceNeg, Nat.reduceLeDiff, gNe_nil, gEq_nil, nmL_len, nmL_isd, nmL_er, ex_pair, fApp, e0, e1]
    · simp (config := { maxSteps := 4000000 }) only [w_bind, w_ret, w_ok, w_seq, w_if, w_ifE, w_test, w_and, w_or, w_not, w_andV, w_orV, w_notV, w_do, w_rt, w_asg, w_C, w_var, w_args0, w_args1, w_plc, w_own, w_val, w_prim, w_list, w_tup, w_call, w_callIo, w_callK, w_chain, w_for, w_items, w_rng, w_lc, w_meth1, w_setL2, w_stores, w_aug, w_move, w_str, mNx, mRetN, startE, rds, HE.rd, sh1, sh2, dp1, dp2, gAdd, DL.gSub, gLt, gLe, gGt, gGe, gOrd, gIsI, gLen, gIx, gIxAny, gInAny, isDct, gLenAny, enumOf, zipOf, dat, gMax2, gMin2, gAbs, gNeg, gAddI, gTupOf, gListOf, gTupAny, gListAny, gInt, gIsN, gSl0, gSlL, gSlH, gSlice, OD.erase, OD.noS, noSL, OD.shallow, OD.isD, OD.still, allStill, boolOf, aName, aTup, aAll, outs, wipeE, isL, DL.intAt, DL.putAll, allO, allD, itemsOf, rngA, rngB, fw_ok, gEq_ii, gNe_ii, gEq_ss, gNe_ss, List.getElem?_cons_zero, List.getElem?_cons_succ, List.set_cons_zero, List.set_cons_succ, List.length_cons, List.length_nil, List.map_cons, List.map_nil, List.cons_append, List.nil_append, List.replicate_succ, List.replicate_zero, List.all_cons, List.all_nil, List.eraseIdx_cons_zero, List.eraseIdx_cons_succ, List.drop_succ_cons, List.drop_zero, List.filterMap_cons, List.filterMap_nil, Option.some.injEq, exists_eq_left', exists_eq_left, exists_eq', exists_eq, Option.join_some, Option.map_some, Option.bind_some, if_true, if_false, true_and, and_true, Bool.true_and, Bool.and_true, Bool.not_true, Bool.not_false, reduceCtorEq, false_and, exists_false, Bool.false_eq_true, OD.d.injEq, OD.l.injEq, HE.o.injEq, HE.al.injEq, List.cons.injEq, PyData.bool.injEq, PyData.int.injEq, PyData.str.injEq, ite_true, ite_false, Nat.reduceSub, Nat.reduceAdd, Nat.reduceLT, Nat.reduceEqDiff, Bool.and_self, Bool.or_true, Bool.true_or, Bool.or_false, Bool.false_or, Bool.false_and, Bool.and_false, eraseL_map, isd_d, er_d, sz_ok, is_int_n, is_int_b, is_int_i, is_int_s, is_int_l, is_int_t, is_int_d, is_bool_n, is_bool_b, is_bool_i, is_bool_s, is_bool_l, is_bool_t, is_bool_d, is_str_n, is_str_b, is_str_i, is_str_s, is_str_l, is_str_t, is_str_d, is_tuple_n, is_tuple_b, is_tuple_i, is_tuple_s, is_tuple_l, is_tuple_t, is_tuple_d, is_list_n, is_list_b, is_list_i, is_list_s, is_list_l, is_list_t, is_list_d, is_dict_n, is_dict_b, is_dict_i, is_dict_s, is_dict_l, is_dict_t, is_dict_d, ic0, ic1, ic2, ic3, ic4, ic5, ic6, ic7, ic8, ic9, ic10, ic11, ic12, ic13, ic14, ic15, ic16, ic17, ic18, ic19, ic20, ic21, noSL_d, nmL_noS, eq_self, decide_true, decide_false, Int.reduceLT, Int.reduceLE, Int.reduceEq, Int.reduceAdd, Int.reduceSub, Int.reduceNeg, Nat.reduceLeDiff, gNe_nil, gEq_nil, nmL_len, nmL_isd, nmL_er, ex_pair, fApp, h, decide_false, copyB_len h]
  | _ => simp (config := { maxSteps := 4000000 }) only [w_bind, w_ret, w_ok, w_seq, w_if, w_ifE, w_test, w_and, w_or, w_not, w_andV, w_orV, w_notV, w_do, w_rt, w_asg, w_C, w_var, w_args0, w_args1, w_plc, w_own, w_val, w_prim, w_list, w_tup, w_call, w_callIo, w_callK, w_chain, w_for, w_items, w_rng, w_lc, w_meth1, w_setL2, w_stores, w_aug, w_move, w_str, mNx, mRetN, startE, rds, HE.rd, sh1, sh2, dp1, dp2, gAdd, DL.gSub, gLt, gLe, gGt, gGe, gOrd, gIsI, gLen, gIx, gIxAny, gInAny, isDct, gLenAny, enumOf, zipOf, dat, gMax2, gMin2, gAbs, gNeg, gAddI, gTupOf, gListOf, gTupAny, gListAny, gInt, gIsN, gSl0, gSlL, gSlH, gSlice, OD.erase, OD.noS, noSL, OD.shallow, OD.isD, OD.still, allStill, boolOf, aName, aTup, aAll, outs, wipeE, isL, DL.intAt, DL.putAll, allO, allD, itemsOf, rngA, rngB, fw_ok, gEq_ii, gNe_ii, gEq_ss, gNe_ss, List.getElem?_cons_zero, List.getElem?_cons_succ, List.set_cons_zero, List.set_cons_succ, List.length_cons, List.length_nil, List.map_cons, List.map_nil, List.cons_append, List.nil_append, List.replicate_succ, List.replicate_zero, List.all_cons, List.all_nil, List.eraseIdx_cons_zero, List.eraseIdx_cons_succ, List.drop_succ_cons, List.drop_zero, List.filterMap_cons, List.filterMap_nil, Option.some.injEq, exists_eq_left', exists_eq_left, exists_eq', exists_eq, Option.join_some, Option.map_some, Option.bind_some, if_true, if_false, true_and, and_true, Bool.true_and, Bool.and_true, Bool.not_true, Bool.not_false, reduceCtorEq, false_and, exists_false, Bool.false_eq_true, OD.d.injEq, OD.l.injEq, HE.o.injEq, HE.al.injEq, List.cons.injEq, PyData.bool.injEq, PyData.int.injEq, PyData.str.injEq, ite_true, ite_false, Nat.reduceSub, Nat.reduceAdd, Nat.reduceLT, Nat.reduceEqDiff, Bool.and_self, Bool.or_true, Bool.true_or, Bool.or_false, Bool.false_or, Bool.false_and, Bool.and_false, eraseL_map, isd_d, er_d, sz_ok, is_int_n, is_int_b, is_int_i, is_int_s, is_int_l, is_int_t, is_int_d, is_bool_n, is_bool_b, is_bool_i, is_bool_s, is_bool_l, is_bool_t, is_bool_d, is_str_n, is_str_b, is_str_i, is_str_s, is_str_l, is_str_t, is_str_d, is_tuple_n, is_tuple_b, is_tuple_i, is_tuple_s, is_tuple_l, is_tuple_t, is_tuple_d, is_list_n, is_list_b, is_list_i, is_list_s, is_list_l, is_list_t, is_list_d, is_dict_n, is_dict_b, is_dict_i, is_dict_s, is_dict_l, is_dict_t, is_dict_d, ic0, ic1, ic2, ic3, ic4, ic5, ic6, ic7, ic8, ic9, ic10, ic11, ic12, ic13, ic14, ic15, ic16, ic17, ic18, ic19, ic20, ic21, noSL_d, nmL_noS, eq_self, decide_true, decide_false, Int.reduceLT, Int.reduceLE, Int.reduceEq, Int.reduceAdd, Int.reduceSub, Int.reduceNeg, Nat.reduceLeDiff, gNe_nil, gEq_nil, nmL_len, nmL_isd, nmL_er, ex_pair, fApp]; rfl
end LW

set_option Elab.async false
set_option linter.all false
set_option autoImplicit false
set_option maxRecDepth 100000
set_option maxHeartbeats 2000000
namespace LW
open PySem PySem.Spec PyProof.Rows L2 DL

theorem v_jar (ns : List Int) (k : Nat) (hk : k < 10) : FWp (f__law_jar [.s ns, .d (.int k)]) (fun o l => l = [] ∧ Jr 0 o) (fun _ _ => False) := by
  unfold f__law_jar
  rw [fw_sem]
  unfold m__law_jar m__law_jar_0
  have p1 : gPow (.int 10) (.int 18) = some (.d (.int (10 ^ 18))) := rfl
  have p2 : gPow (.int 10) (.int 38) = some (.d (.int (10 ^ 38))) := rfl
  have d1 : ∀ x : Int, gMod (.int x) (.int (10 ^ 38 + 133)) = some (.d (.int (x % (10 ^ 38 + 133)))) := fun x => gMod_pos (by decide)
  have g1 : ∀ x : Int, gMul (.int x) (.int 83) = some (.d (.int (x * 83))) := fun x => gMul_r (by decide)
  have g2 : ∀ x : Int, gMul (.int 19) (.int x) = some (.d (.int (19 * x))) := fun x => gMul_l (by decide)
  have z3 : 3 ≤ 16777216 := by decide
  have cell : ∀ z : Int, Jr 0 (OD.l [.d (.int (if (if z < 0 then -z else z) - 10 ^ 18 > 0 then (if z < 0 then -z else z) - 10 ^ 18 else 0)), .d (.int ((z * 83 + 19 * (k : Int) + 11) % (10 ^ 38 + 133))), .d (.int 0)]) := by
    intro z
    refine ⟨_, _, _, rfl, ?_, ?_, ?_, ?_, ?_⟩
    · split <;> omega
    · exact Int.emod_nonneg _ (by decide)
    · have := Int.emod_lt_of_pos (z * 83 + 19 * (k : Int) + 11) (show (0 : Int) < 10 ^ 38 + 133 by decide)
      have e1 : ((10 : Int) ^ 38 + 133) < 2 ^ 200 := by decide
      omega
    · exact Int.le_refl 0
    · exact Int.le_refl 0
  by_cases hlt : (k : Int) < (ns.length : Int)
  · have hk2 : k < ns.length := by omega
    simp (config := { maxSteps := 4000000 }) only [w_bind, w_ret, w_ok, w_seq, w_if, w_ifE, w_test, w_and, w_or, w_not, w_andV, w_orV, w_notV, w_do, w_rt, w_asg, w_C, w_var, w_args0, w_args1, w_plc, w_own, w_val, w_prim, w_list, w_tup, w_call, w_callIo, w_callK, w_chain, w_for, w_items, w_rng, w_lc, w_meth1, w_setL2, w_stores, w_aug, w_move, w_str, mNx, mRetN, startE, rds, HE.rd, sh1, sh2, dp1, dp2, gAdd, DL.gSub, gLt, gLe, gGt, gGe, gOrd, gIsI, gLen, gIx, gIxAny, gInAny, isDct, gLenAny, enumOf, zipOf, dat, gMax2, gMin2, gAbs, gNeg, gAddI, gTupOf, gListOf, gTupAny, gListAny, gInt, gIsN, gSl0, gSlL, gSlH, gSlice, OD.erase, OD.noS, noSL, OD.shallow, OD.isD, OD.still, allStill, boolOf, aName, aTup, aAll, outs, wipeE, isL, DL.intAt, DL.putAll, allO, allD, itemsOf, rngA, rngB, fw_ok, gEq_ii, gNe_ii, gEq_ss, gNe_ss, List.getElem?_cons_zero, List.getElem?_cons_succ, List.set_cons_zero, List.set_cons_succ, List.length_cons, List.length_nil, List.map_cons, List.map_nil, List.cons_append, List.nil_append, List.replicate_succ, List.replicate_zero, List.all_cons, List.all_nil, List.eraseIdx_cons_zero, List.eraseIdx_cons_succ, List.drop_succ_cons, List.drop_zero, List.filterMap_cons, List.filterMap_nil, Option.some.injEq, exists_eq_left', exists_eq_left, exists_eq', exists_eq, Option.join_some, Option.map_some, Option.bind_some, if_true, if_false, true_and, and_true, Bool.true_and, Bool.and_true, Bool.not_true, Bool.not_false, reduceCtorEq, false_and, exists_false, Bool.false_eq_true, OD.d.injEq, OD.l.injEq, HE.o.injEq, HE.al.injEq, List.cons.injEq, PyData.bool.injEq, PyData.int.injEq, PyData.str.injEq, ite_true, ite_false, Nat.reduceSub, Nat.reduceAdd, Nat.reduceLT, Nat.reduceEqDiff, Bool.and_self, Bool.or_true, Bool.true_or, Bool.or_false, Bool.false_or, Bool.false_and, Bool.and_false, eraseL_map, isd_d, er_d, sz_ok, is_int_n, is_int_b, is_int_i, is_int_s, is_int_l, is_int_t, is_int_d, is_bool_n, is_bool_b, is_bool_i, is_bool_s, is_bool_l, is_bool_t, is_bool_d, is_str_n, is_str_b, is_str_i, is_str_s, is_str_l, is_str_t, is_str_d, is_tuple_n, is_tuple_b, is_tuple_i, is_tuple_s, is_tuple_l, is_tuple_t, is_tuple_d, is_list_n, is_list_b, is_list_i, is_list_s, is_list_l, is_list_t, is_list_d, is_dict_n, is_dict_b, is_dict_i, is_dict_s, is_dict_l, is_dict_t, is_dict_d, ic0, ic1, ic2, ic3, ic4, ic5, ic6, ic7, ic8, ic9, ic10, ic11, ic12, ic13, ic14, ic15, ic16, ic17, ic18, ic19, ic20, ic21, noSL_d, nmL_noS, eq_self, decide_true, decide_false, Int.reduceLT, Int.reduceLE, Int.reduceEq, Int.reduceAdd, Int.reduceSub, Int.reduceNeg, Nat.reduceLeDiff, gNe_nil, gEq_nil, nmL_len, nmL_isd, nmL_er, ex_pair, fApp, hlt, decide_true, at_ok hk2, p1, p2, d1, g1, g2, z3]
    exact cell ns[k]
  · simp (config := { maxSteps := 4000000 }) only [w_bind, w_ret, w_ok, w_seq, w_if, w_ifE, w_test, w_and, w_or, w_not, w_andV, w_orV, w_notV, w_do, w_rt, w_asg, w_C, w_var, w_args0, w_args1, w_plc, w_own, w_val, w_prim, w_list, w_tup, w_call, w_callIo, w_callK, w_chain, w_for, w_items, w_rng, w_lc, w_meth1, w_setL2, w_stores, w_aug, w_move, w_str, mNx, mRetN, startE, rds, HE.rd, sh1, sh2, dp1, dp2, gAdd, DL.gSub, gLt, gLe, gGt, gGe, gOrd, gIsI, gLen, gIx, gIxAny, gInAny, isDct, gLenAny, enumOf, zipOf, dat, gMax2, gMin2, gAbs, gNeg, gAddI, gTupOf, gListOf, gTupAny, gListAny, gInt, gIsN, gSl0, gSlL, gSlH, gSlice, OD.erase, OD.noS, noSL, OD.shallow, OD.isD, OD.still, allStill, boolOf, aName, aTup, aAll, outs, wipeE, isL, DL.intAt, DL.putAll, allO, allD, itemsOf, rngA, rngB, fw_ok, gEq_ii, gNe_ii, gEq_ss, gNe_ss, List.getElem?_cons_zero, List.getElem?_cons_succ, List.set_cons_zero, List.set_cons_succ, List.length_cons, List.length_nil, List.map_cons, List.map_nil, List.cons_append, List.nil_append, List.replicate_succ, List.replicate_zero, List.all_cons, List.all_nil, List.eraseIdx_cons_zero, List.eraseIdx_cons_succ, List.drop_succ_cons, List.drop_zero, List.filterMap_cons, List.filterMap_nil, Option.some.injEq, exists_eq_left', exists_eq_left, exists_eq', exists_eq, Option.join_some, Option.map_some, Option.bind_some, if_true, if_false, true_and, and_true, Bool.true_and, Bool.and_true, Bool.not_true, Bool.not_false, reduceCtorEq, false_and, exists_false, Bool.false_eq_true, OD.d.injEq, OD.l.injEq, HE.o.injEq, HE.al.injEq, List.cons.injEq, PyData.bool.injEq, PyData.int.injEq, PyData.str.injEq, ite_true, ite_false, Nat.reduceSub, Nat.reduceAdd, Nat.reduceLT, Nat.reduceEqDiff, Bool.and_self, Bool.or_true, Bool.true_or, Bool.or_false, Bool.false_or, Bool.false_and, Bool.and_false, eraseL_map, isd_d, er_d, sz_ok, is_int_n, is_int_b, is_int_i, is_int_s, is_int_l, is_int_t, is_int_d, is_bool_n, is_bool_b, is_bool_i, is_bool_s, is_bool_l, is_bool_t, is_bool_d, is_str_n, is_str_b, is_str_i, is_str_s, is_str_l, is_str_t, is_str_d, is_tuple_n, is_tuple_b, is_tuple_i, is_tuple_s, is_tuple_l, is_tuple_t, is_tuple_d, is_list_n, is_list_b, is_list_i, is_list_s, is_list_l, is_list_t, is_list_d, is_dict_n, is_dict_b, is_dict_i, is_dict_s, is_dict_l, is_dict_t, is_dict_d, ic0, ic1, ic2, ic3, ic4, ic5, ic6, ic7, ic8, ic9, ic10, ic11, ic12, ic13, ic14, ic15, ic16, ic17, ic18, ic19, ic20, ic21, noSL_d, nmL_noS, eq_self, decide_true, decide_false, Int.reduceLT, Int.reduceLE, Int.reduceEq, Int.reduceAdd, Int.reduceSub, Int.reduceNeg, Nat.reduceLeDiff, gNe_nil, gEq_nil, nmL_len, nmL_isd, nmL_er, ex_pair, fApp, hlt, decide_false, p1, p2, d1, g1, g2, z3]
    exact cell 0
theorem v_dip {o : OD} {z : Int} {M : Nat} (h : Jr M o) (n : Nat) (hz : z = (n : Int)) (hn : 0 < n) (hn2 : n ≤ 1000) (hM : M ≤ 1000000) : FWp (f__law_dip [o, .d (.int z)]) (Dip n M) (fun _ _ => False) := by
  obtain ⟨a, b, c, rfl, h1, h2, h3, h4, h5⟩ := h
  subst hz
  unfold f__law_dip
  rw [fw_sem]
  unfold m__law_dip m__law_dip_0 m__law_dip_1 m__law_dip_2
  have i0 : ∀ x y z : Int, atI [OD.d (.int x), OD.d (.int y), OD.d (.int z)] 0 = some (.d (.int x)) := fun _ _ _ => rfl
  have i1 : ∀ x y z : Int, atI [OD.d (.int x), OD.d (.int y), OD.d (.int z)] 1 = some (.d (.int y)) := fun _ _ _ => rfl
  have i2 : ∀ x y z : Int, atI [OD.d (.int x), OD.d (.int y), OD.d (.int z)] 2 = some (.d (.int z)) := fun _ _ _ => rfl
  have j0 : ixN 3 0 = some 0 := rfl
  have j2 : ixN 3 2 = some 2 := rfl
  have g1 : ∀ x : Int, gMul (.int 675248027) (.int x) = some (.d (.int (675248027 * x))) := fun x => gMul_l (by decide)
  have g2 : ∀ x : Int, gMul (.int 314606891) (.int x) = some (.d (.int (314606891 * x))) := fun x => gMul_l (by decide)
  have f1 : ∀ x : Int, gFdiv (.int x) (.int (n : Int)) = some (.d (.int (x / (n : Int)))) := fun x => gFdiv_pos (by omega) (Nat.lt_of_le_of_lt (show (n : Int).natAbs ≤ 1000 by omega) (by decide +kernel))
  have f2 : ∀ x : Int, gFdiv (.int x) (.int (10 ^ 6)) = some (.d (.int (x / 10 ^ 6))) := fun x => gFdiv_pos (by decide) (by decide)
  have d1 : ∀ x : Int, gMod (.int x) (.int (n : Int)) = some (.d (.int (x % (n : Int)))) := fun x => gMod_pos (by omega)
  have d2 : ∀ x : Int, gMod (.int x) (.int (10 ^ 41 + 37)) = some (.d (.int (x % (10 ^ 41 + 37)))) := fun x => gMod_pos (by decide)
  have d3 : ∀ x : Int, gMod (.int x) (.int (10 ^ 40 + 121)) = some (.d (.int (x % (10 ^ 40 + 121)))) := fun x => gMod_pos (by decide)
  have p1 : gPow (.int 10) (.int 41) = some (.d (.int (10 ^ 41))) := by rfl
  have p2 : gPow (.int 10) (.int 40) = some (.d (.int (10 ^ 40))) := by rfl
  have p0 : gPow (.int 10) (.int 6) = some (.d (.int (10 ^ 6))) := by rfl
  have p3 : gPow (.int (b + 675248027 * (c + 1))) (.int 3) = some (.d (.int ((b + 675248027 * (c + 1)) ^ 3))) := gPow_3 (lt_big (by omega))
  have m0 : 0 ≤ (b + 675248027 * (c + 1)) ^ 3 % ((10 : Int) ^ 41 + 37) := Int.emod_nonneg _ (by decide)
  have m1 : (b + 675248027 * (c + 1)) ^ 3 % ((10 : Int) ^ 41 + 37) < 10 ^ 41 + 37 := Int.emod_lt_of_pos _ (by decide)
  have p4 : gPow (.int ((b + 675248027 * (c + 1)) ^ 3 % (10 ^ 41 + 37) + 314606891 * (c + 1))) (.int 2) = some (.d (.int (((b + 675248027 * (c + 1)) ^ 3 % (10 ^ 41 + 37) + 314606891 * (c + 1)) ^ 2))) := gPow_2 (lt_big <| by
    generalize (b + 675248027 * (c + 1)) ^ 3 % ((10 : Int) ^ 41 + 37) = z at m0 m1
    omega)
  have fin : ∀ (x : Int) (a' c' : Int), 0 ≤ a' → 0 ≤ c' → c' ≤ M + 1 → Dip n M (.d (.int (x % (n : Int)))) [.l [.d (.int a'), .d (.int b), .d (.int c')]] := by
    intro x a' c' ha hc0 hc
    have q0 := Int.emod_nonneg x (show (n : Int) ≠ 0 by omega)
    have q1 := Int.emod_lt_of_pos x (show (0 : Int) < n by omega)
    exact ⟨(x % (n : Int)).toNat, _, by rw [Int.toNat_of_nonneg q0], rfl, by omega, _, _, _, rfl, ha, h2, h3, hc0, by omega⟩
  by_cases ha : 0 < a
  · simp (config := { maxSteps := 4000000 }) only [w_bind, w_ret, w_ok, w_seq, w_if, w_ifE, w_test, w_and, w_or, w_not, w_andV, w_orV, w_notV, w_do, w_rt, w_asg, w_C, w_var, w_args0, w_args1, w_plc, w_own, w_val, w_prim, w_list, w_tup, w_call, w_callIo, w_callK, w_chain, w_for, w_items, w_rng, w_lc, w_meth1, w_setL2, w_stores, w_aug, w_move, w_str, mNx, mRetN, startE, rds, HE.rd, sh1, sh2, dp1, dp2, gAdd, DL.gSub, gLt, gLe, gGt, gGe, gOrd, gIsI, gLen, gIx, gIxAny, gInAny, isDct, gLenAny, enumOf, zipOf, dat, gMax2, gMin2, gAbs, gNeg, gAddI, gTupOf, gListOf, gTupAny, gListAny, gInt, gIsN, gSl0, gSlL, gSlH, gSlice, OD.erase, OD.noS, noSL, OD.shallow, OD.isD, OD.still, allStill, boolOf, aName, aTup, aAll, outs, wipeE, isL, DL.intAt, DL.putAll, allO, allD, itemsOf, rngA, rngB, fw_ok, gEq_ii, gNe_ii, gEq_ss, gNe_ss, List.getElem?_cons_zero, List.getElem?_cons_succ, List.set_cons_zero, List.set_cons_succ, List.length_cons, List.length_nil, List.map_cons, List.map_nil, List.cons_append, List.nil_append, List.replicate_succ, List.replicate_zero, List.all_cons, List.all_nil, List.eraseIdx_cons_zero, List.eraseIdx_cons_succ, List.drop_succ_cons, List.drop_zero, List.filterMap_cons, List.filterMap_nil, Option.some.injEq, exists_eq_left', exists_eq_left, exists_eq', exists_eq, Option.join_some, Option.map_some, Option.bind_some, if_true, if_false, true_and, and_true, Bool.true_and, Bool.and_true, Bool.not_true, Bool.not_false, reduceCtorEq, false_and, exists_false, Bool.false_eq_true, OD.d.injEq, OD.l.injEq, HE.o.injEq, HE.al.injEq, List.cons.injEq, PyData.bool.injEq, PyData.int.injEq, PyData.str.injEq, ite_true, ite_false, Nat.reduceSub, Nat.reduceAdd, Nat.reduceLT, Nat.reduceEqDiff, Bool.and_self, Bool.or_true, Bool.true_or, Bool.or_false, Bool.false_or, Bool.false_and, Bool.and_false, eraseL_map, isd_d, er_d, sz_ok, is_int_n, is_int_b, is_int_i, is_int_s, is_int_l, is_int_t, is_int_d, is_bool_n, is_bool_b, is_bool_i, is_bool_s, is_bool_l, is_bool_t, is_bool_d, is_str_n, is_str_b, is_str_i, is_str_s, is_str_l, is_str_t, is_str_d, is_tuple_n, is_tuple_b, is_tuple_i, is_tuple_s, is_tuple_l, is_tuple_t, is_tuple_d, is_list_n, is_list_b, is_list_i, is_list_s, is_list_l, is_list_t, is_list_d, is_dict_n, is_dict_b, is_dict_i, is_dict_s, is_dict_l, is_dict_t, is_dict_d, ic0, ic1, ic2, ic3, ic4, ic5, ic6, ic7, ic8, ic9, ic10, ic11, ic12, ic13, ic14, ic15, ic16, ic17, ic18, ic19, ic20, ic21, noSL_d, nmL_noS, eq_self, decide_true, decide_false, Int.reduceLT, Int.reduceLE, Int.reduceEq, Int.reduceAdd, Int.reduceSub, Int.reduceNeg, Nat.reduceLeDiff, gNe_nil, gEq_nil, nmL_len, nmL_isd, nmL_er, ex_pair, fApp, i0, i1, i2, j0, j2, g1, g2, f1, f2, d1, d2, d3, p0, p1, p2, p3, p4, ha, decide_true]
    exact fin _ _ _ (Int.ediv_nonneg h1 (by omega)) h4 (by omega)
  · simp (config := { maxSteps := 4000000 }) only [w_bind, w_ret, w_ok, w_seq, w_if, w_ifE, w_test, w_and, w_or, w_not, w_andV, w_orV, w_notV, w_do, w_rt, w_asg, w_C, w_var, w_args0, w_args1, w_plc, w_own, w_val, w_prim, w_list, w_tup, w_call, w_callIo, w_callK, w_chain, w_for, w_items, w_rng, w_lc, w_meth1, w_setL2, w_stores, w_aug, w_move, w_str, mNx, mRetN, startE, rds, HE.rd, sh1, sh2, dp1, dp2, gAdd, DL.gSub, gLt, gLe, gGt, gGe, gOrd, gIsI, gLen, gIx, gIxAny, gInAny, isDct, gLenAny, enumOf, zipOf, dat, gMax2, gMin2, gAbs, gNeg, gAddI, gTupOf, gListOf, gTupAny, gListAny, gInt, gIsN, gSl0, gSlL, gSlH, gSlice, OD.erase, OD.noS, noSL, OD.shallow, OD.isD, OD.still, allStill, boolOf, aName, aTup, aAll, outs, wipeE, isL, DL.intAt, DL.putAll, allO, allD, itemsOf, rngA, rngB, fw_ok, gEq_ii, gNe_ii, gEq_ss, gNe_ss, List.getElem?_cons_zero, List.getElem?_cons_succ, List.set_cons_zero, List.set_cons_succ, List.length_cons, List.length_nil, List.map_cons, List.map_nil, List.cons_append, List.nil_append, List.replicate_succ, List.replicate_zero, List.all_cons, List.all_nil, List.eraseIdx_cons_zero, List.eraseIdx_cons_succ, List.drop_succ_cons, List.drop_zero, List.filterMap_cons, List.filterMap_nil, Option.some.injEq, exists_eq_left', exists_eq_left, exists_eq', exists_eq, Option.join_some, Option.map_some, Option.bind_some, if_true, if_false, true_and, and_true, Bool.true_and, Bool.and_true, Bool.not_true, Bool.not_false, reduceCtorEq, false_and, exists_false, Bool.false_eq_true, OD.d.injEq, OD.l.injEq, HE.o.injEq, HE.al.injEq, List.cons.injEq, PyData.bool.injEq, PyData.int.injEq, PyData.str.injEq, ite_true, ite_false, Nat.reduceSub, Nat.reduceAdd, Nat.reduceLT, Nat.reduceEqDiff, Bool.and_self, Bool.or_true, Bool.true_or, Bool.or_false, Bool.false_or, Bool.false_and, Bool.and_false, eraseL_map, isd_d, er_d, sz_ok, is_int_n, is_int_b, is_int_i, is_int_s, is_int_l, is_int_t, is_int_d, is_bool_n, is_bool_b, is_bool_i, is_bool_s, is_bool_l, is_bool_t, is_bool_d, is_str_n, is_str_b, is_str_i, is_str_s, is_str_l, is_str_t, is_str_d, is_tuple_n, is_tuple_b, is_tuple_i, is_tuple_s, is_tuple_l, is_tuple_t, is_tuple_d, is_list_n, is_list_b, is_list_i, is_list_s, is_list_l, is_list_t, is_list_d, is_dict_n, is_dict_b, is_dict_i, is_dict_s, is_dict_l, is_dict_t, is_dict_d, ic0, ic1, ic2, ic3, ic4, ic5, ic6, ic7, ic8, ic9, ic10, ic11, ic12, ic13, ic14, ic15, ic16, ic17, ic18, ic19, ic20, ic21, noSL_d, nmL_noS, eq_self, decide_true, decide_false, Int.reduceLT, Int.reduceLE, Int.reduceEq, Int.reduceAdd, Int.reduceSub, Int.reduceNeg, Nat.reduceLeDiff, gNe_nil, gEq_nil, nmL_len, nmL_isd, nmL_er, ex_pair, fApp, i0, i1, i2, j0, j2, g1, g2, f1, f2, d1, d2, d3, p0, p1, p2, p3, p4, ha, decide_false]
    exact fin _ _ _ h1 (by omega) (by omega)

def k20 : List Str := (List.range 20).map fun i => ⟨#[97 + i]⟩
theorem k20_chars : (chars "abcdefghijklmnopqrst").map OD.d = nmL k20 := rfl
theorem k20_ok : ∀ x ∈ k20, sOk 1 x := by decide +kernel
theorem abz_ok : ∀ c ∈ ("abz" : Str).cps.toList, sOk 1 ⟨#[c]⟩ := by decide +kernel
def Nms (many M : Nat) (r : OD) (l : List OD) : Prop := ∃ (xs : List Str) (o' : OD), r = .d (.tuple (xs.map .str)) ∧ l = [o'] ∧ xs.length = many ∧ (∀ x ∈ xs, sOk 8 x) ∧ Jr (M + 200) o'
theorem v_names {o : OD} {M : Nat} (h : Jr M o) (many : Nat) {z : Int} (hz : z = (many : Int)) (hM : M ≤ 10000) (h2 : many ≤ 20) : FWp (f__law_names [o, .d (.int z)]) (Nms many M) (fun _ _ => False) := by
  subst hz
  unfold f__law_names
  rw [fw_sem]
  unfold m__law_names m__law_names_2 m__law_names_0 m__law_names_1
  have z0 : 0 ≤ 16777216 := Nat.zero_le _
  have z4 : 4 ≤ 16777216 := by decide
  have sm : smallB (many : Int) = true := small_ok (by omega)
  simp (config := { maxSteps := 4000000 }) only [w_bind, w_ret, w_ok, w_seq, w_if, w_ifE, w_test, w_and, w_or, w_not, w_andV, w_orV, w_notV, w_do, w_rt, w_asg, w_C, w_var, w_args0, w_args1, w_plc, w_own, w_val, w_prim, w_list, w_tup, w_call, w_callIo, w_callK, w_chain, w_for, w_items, w_rng, w_lc, w_meth1, w_setL2, w_stores, w_aug, w_move, w_str, mNx, mRetN, startE, rds, HE.rd, sh1, sh2, dp1, dp2, gAdd, DL.gSub, gLt, gLe, gGt, gGe, gOrd, gIsI, gLen, gIx, gIxAny, gInAny, isDct, gLenAny, enumOf, zipOf, dat, gMax2, gMin2, gAbs, gNeg, gAddI, gTupOf, gListOf, gTupAny, gListAny, gInt, gIsN, gSl0, gSlL, gSlH, gSlice, OD.erase, OD.noS, noSL, OD.shallow, OD.isD, OD.still, allStill, boolOf, aName, aTup, aAll, outs, wipeE, isL, DL.intAt, DL.putAll, allO, allD, itemsOf, rngA, rngB, fw_ok, gEq_ii, gNe_ii, gEq_ss, gNe_ss, List.getElem?_cons_zero, List.getElem?_cons_succ, List.set_cons_zero, List.set_cons_succ, List.length_cons, List.length_nil, List.map_cons, List.map_nil, List.cons_append, List.nil_append, List.replicate_succ, List.replicate_zero, List.all_cons, List.all_nil, List.eraseIdx_cons_zero, List.eraseIdx_cons_succ, List.drop_succ_cons, List.drop_zero, List.filterMap_cons, List.filterMap_nil, Option.some.injEq, exists_eq_left', exists_eq_left, exists_eq', exists_eq, Option.join_some, Option.map_some, Option.bind_some, if_true, if_false, true_and, and_true, Bool.true_and, Bool.and_true, Bool.not_true, Bool.not_false, reduceCtorEq, false_and, exists_false, Bool.false_eq_true, OD.d.injEq, OD.l.injEq, HE.o.injEq, HE.al.injEq, List.cons.injEq, PyData.bool.injEq, PyData.int.injEq, PyData.str.injEq, ite_true, ite_false, Nat.reduceSub, Nat.reduceAdd, Nat.reduceLT, Nat.reduceEqDiff, Bool.and_self, Bool.or_true, Bool.true_or, Bool.or_false, Bool.false_or, Bool.false_and, Bool.and_false, eraseL_map, isd_d, er_d, sz_ok, is_int_n, is_int_b, is_int_i, is_int_s, is_int_l, is_int_t, is_int_d, is_bool_n, is_bool_b, is_bool_i, is_bool_s, is_bool_l, is_bool_t, is_bool_d, is_str_n, is_str_b, is_str_i, is_str_s, is_str_l, is_str_t, is_str_d, is_tuple_n, is_tuple_b, is_tuple_i, is_tuple_s, is_tuple_l, is_tuple_t, is_tuple_d, is_list_n, is_list_b, is_list_i, is_list_s, is_list_l, is_list_t, is_list_d, is_dict_n, is_dict_b, is_dict_i, is_dict_s, is_dict_l, is_dict_t, is_dict_d, ic0, ic1, ic2, ic3, ic4, ic5, ic6, ic7, ic8, ic9, ic10, ic11, ic12, ic13, ic14, ic15, ic16, ic17, ic18, ic19, ic20, ic21, noSL_d, nmL_noS, eq_self, decide_true, decide_false, Int.reduceLT, Int.reduceLE, Int.reduceEq, Int.reduceAdd, Int.reduceSub, Int.reduceNeg, Nat.reduceLeDiff, gNe_nil, gEq_nil, nmL_len, nmL_isd, nmL_er, ex_pair, fApp, z0, k20_chars, sm]
  refine each_by (fun k e => ∃ o ls xs a b c d, e = [some o, some (.d (.int (many : Int))), some (.l (nmL ls)), some (.l (nmL xs)), a, b, c, d] ∧ Jr (M + 9 * k) o ∧ ls.length = 20 - k ∧ (∀ x ∈ ls, sOk 1 x) ∧ xs.length = k ∧ ∀ x ∈ xs, sOk 8 x) 0 ⟨o, k20, [], none, none, none, none, rfl, h, rfl, k20_ok, rfl, by simp⟩ ?_ ?_
  · rintro j d e hj ⟨o, ls, xs, a, b, c, d, rfl, hJ, hl, hls, hx, hxs⟩
    obtain ⟨hj, rfl⟩ := rng_at hj
    simp (config := { maxSteps := 4000000 }) only [w_bind, w_ret, w_ok, w_seq, w_if, w_ifE, w_test, w_and, w_or, w_not, w_andV, w_orV, w_notV, w_do, w_rt, w_asg, w_C, w_var, w_args0, w_args1, w_plc, w_own, w_val, w_prim, w_list, w_tup, w_call, w_callIo, w_callK, w_chain, w_for, w_items, w_rng, w_lc, w_meth1, w_setL2, w_stores, w_aug, w_move, w_str, mNx, mRetN, startE, rds, HE.rd, sh1, sh2, dp1, dp2, gAdd, DL.gSub, gLt, gLe, gGt, gGe, gOrd, gIsI, gLen, gIx, gIxAny, gInAny, isDct, gLenAny, enumOf, zipOf, dat, gMax2, gMin2, gAbs, gNeg, gAddI, gTupOf, gListOf, gTupAny, gListAny, gInt, gIsN, gSl0, gSlL, gSlH, gSlice, OD.erase, OD.noS, noSL, OD.shallow, OD.isD, OD.still, allStill, boolOf, aName, aTup, aAll, outs, wipeE, isL, DL.intAt, DL.putAll, allO, allD, itemsOf, rngA, rngB, fw_ok, gEq_ii, gNe_ii, gEq_ss, gNe_ss, List.getElem?_cons_zero, List.getElem?_cons_succ, List.set_cons_zero, List.set_cons_succ, List.length_cons, List.length_nil, List.map_cons, List.map_nil, List.cons_append, List.nil_append, List.replicate_succ, List.replicate_zero, List.all_cons, List.all_nil, List.eraseIdx_cons_zero, List.eraseIdx_cons_succ, List.drop_succ_cons, List.drop_zero, List.filterMap_cons, List.filterMap_nil, Option.some.injEq, exists_eq_left', exists_eq_left, exists_eq', exists_eq, Option.join_some, Option.map_some, Option.bind_some, if_true, if_false, true_and, and_true, Bool.true_and, Bool.and_true, Bool.not_true, Bool.not_false, reduceCtorEq, false_and, exists_false, Bool.false_eq_true, OD.d.injEq, OD.l.injEq, HE.o.injEq, HE.al.injEq, List.cons.injEq, PyData.bool.injEq, PyData.int.injEq, PyData.str.injEq, ite_true, ite_false, Nat.reduceSub, Nat.reduceAdd, Nat.reduceLT, Nat.reduceEqDiff, Bool.and_self, Bool.or_true, Bool.true_or, Bool.or_false, Bool.false_or, Bool.false_and, Bool.and_false, eraseL_map, isd_d, er_d, sz_ok, is_int_n, is_int_b, is_int_i, is_int_s, is_int_l, is_int_t, is_int_d, is_bool_n, is_bool_b, is_bool_i, is_bool_s, is_bool_l, is_bool_t, is_bool_d, is_str_n, is_str_b, is_str_i, is_str_s, is_str_l, is_str_t, is_str_d, is_tuple_n, is_tuple_b, is_tuple_i, is_tuple_s, is_tuple_l, is_tuple_t, is_tuple_d, is_list_n, is_list_b, is_list_i, is_list_s, is_list_l, is_list_t, is_list_d, is_dict_n, is_dict_b, is_dict_i, is_dict_s, is_dict_l, is_dict_t, is_dict_d, ic0, ic1, ic2, ic3, ic4, ic5, ic6, ic7, ic8, ic9, ic10, ic11, ic12, ic13, ic14, ic15, ic16, ic17, ic18, ic19, ic20, ic21, noSL_d, nmL_noS, eq_self, decide_true, decide_false, Int.reduceLT, Int.reduceLE, Int.reduceEq, Int.reduceAdd, Int.reduceSub, Int.reduceNeg, Nat.reduceLeDiff, gNe_nil, gEq_nil, nmL_len, nmL_isd, nmL_er, ex_pair, fApp, z4]
    refine (v_dip hJ 4 rfl (by decide) (by decide) (by omega)).imp ?_ (fun _ _ z => z.elim)
    rintro _ _ ⟨i, o1, rfl, rfl, hi, hJ1⟩
    simp (config := { maxSteps := 4000000 }) only [w_bind, w_ret, w_ok, w_seq, w_if, w_ifE, w_test, w_and, w_or, w_not, w_andV, w_orV, w_notV, w_do, w_rt, w_asg, w_C, w_var, w_args0, w_args1, w_plc, w_own, w_val, w_prim, w_list, w_tup, w_call, w_callIo, w_callK, w_chain, w_for, w_items, w_rng, w_lc, w_meth1, w_setL2, w_stores, w_aug, w_move, w_str, mNx, mRetN, startE, rds, HE.rd, sh1, sh2, dp1, dp2, gAdd, DL.gSub, gLt, gLe, gGt, gGe, gOrd, gIsI, gLen, gIx, gIxAny, gInAny, isDct, gLenAny, enumOf, zipOf, dat, gMax2, gMin2, gAbs, gNeg, gAddI, gTupOf, gListOf, gTupAny, gListAny, gInt, gIsN, gSl0, gSlL, gSlH, gSlice, OD.erase, OD.noS, noSL, OD.shallow, OD.isD, OD.still, allStill, boolOf, aName, aTup, aAll, outs, wipeE, isL, DL.intAt, DL.putAll, allO, allD, itemsOf, rngA, rngB, fw_ok, gEq_ii, gNe_ii, gEq_ss, gNe_ss, List.getElem?_cons_zero, List.getElem?_cons_succ, List.set_cons_zero, List.set_cons_succ, List.length_cons, List.length_nil, List.map_cons, List.map_nil, List.cons_append, List.nil_append, List.replicate_succ, List.replicate_zero, List.all_cons, List.all_nil, List.eraseIdx_cons_zero, List.eraseIdx_cons_succ, List.drop_succ_cons, List.drop_zero, List.filterMap_cons, List.filterMap_nil, Option.some.injEq, exists_eq_left', exists_eq_left, exists_eq', exists_eq, Option.join_some, Option.map_some, Option.bind_some, if_true, if_false, true_and, and_true, Bool.true_and, Bool.and_true, Bool.not_true, Bool.not_false, reduceCtorEq, false_and, exists_false, Bool.false_eq_true, OD.d.injEq, OD.l.injEq, HE.o.injEq, HE.al.injEq, List.cons.injEq, PyData.bool.injEq, PyData.int.injEq, PyData.str.injEq, ite_true, ite_false, Nat.reduceSub, Nat.reduceAdd, Nat.reduceLT, Nat.reduceEqDiff, Bool.and_self, Bool.or_true, Bool.true_or, Bool.or_false, Bool.false_or, Bool.false_and, Bool.and_false, eraseL_map, isd_d, er_d, sz_ok, is_int_n, is_int_b, is_int_i, is_int_s, is_int_l, is_int_t, is_int_d, is_bool_n, is_bool_b, is_bool_i, is_bool_s, is_bool_l, is_bool_t, is_bool_d, is_str_n, is_str_b, is_str_i, is_str_s, is_str_l, is_str_t, is_str_d, is_tuple_n, is_tuple_b, is_tuple_i, is_tuple_s, is_tuple_l, is_tuple_t, is_tuple_d, is_list_n, is_list_b, is_list_i, is_list_s, is_list_l, is_list_t, is_list_d, is_dict_n, is_dict_b, is_dict_i, is_dict_s, is_dict_l, is_dict_t, is_dict_d, ic0, ic1, ic2, ic3, ic4, ic5, ic6, ic7, ic8, ic9, ic10, ic11, ic12, ic13, ic14, ic15, ic16, ic17, ic18, ic19, ic20, ic21, noSL_d, nmL_noS, eq_self, decide_true, decide_false, Int.reduceLT, Int.reduceLE, Int.reduceEq, Int.reduceAdd, Int.reduceSub, Int.reduceNeg, Nat.reduceLeDiff, gNe_nil, gEq_nil, nmL_len, nmL_isd, nmL_er, ex_pair, fApp, z4]
    refine ix_any_l (fun d => ∃ n : Nat, d = .int n ∧ n ≤ 7) ?_ (by simpa using hi) ?_
    · intro o ho
      simp only [List.mem_cons, List.not_mem_nil, or_false] at ho
      rcases ho with rfl | rfl | rfl | rfl
      · exact ⟨_, rfl, 0, rfl, by decide⟩
      · exact ⟨_, rfl, 0, rfl, by decide⟩
      · exact ⟨_, rfl, 1, rfl, by decide⟩
      · exact ⟨_, rfl, 7, rfl, by decide⟩
    rintro _ ⟨n, rfl, hn⟩
    have sm2 : smallB (n : Int) = true := small_ok (by omega)
    have hz2 : (rngOf 0 (n : Int)).length ≤ 16777216 := by rw [rng_len]; omega
    simp (config := { maxSteps := 4000000 }) only [w_bind, w_ret, w_ok, w_seq, w_if, w_ifE, w_test, w_and, w_or, w_not, w_andV, w_orV, w_notV, w_do, w_rt, w_asg, w_C, w_var, w_args0, w_args1, w_plc, w_own, w_val, w_prim, w_list, w_tup, w_call, w_callIo, w_callK, w_chain, w_for, w_items, w_rng, w_lc, w_meth1, w_setL2, w_stores, w_aug, w_move, w_str, mNx, mRetN, startE, rds, HE.rd, sh1, sh2, dp1, dp2, gAdd, DL.gSub, gLt, gLe, gGt, gGe, gOrd, gIsI, gLen, gIx, gIxAny, gInAny, isDct, gLenAny, enumOf, zipOf, dat, gMax2, gMin2, gAbs, gNeg, gAddI, gTupOf, gListOf, gTupAny, gListAny, gInt, gIsN, gSl0, gSlL, gSlH, gSlice, OD.erase, OD.noS, noSL, OD.shallow, OD.isD, OD.still, allStill, boolOf, aName, aTup, aAll, outs, wipeE, isL, DL.intAt, DL.putAll, allO, allD, itemsOf, rngA, rngB, fw_ok, gEq_ii, gNe_ii, gEq_ss, gNe_ss, List.getElem?_cons_zero, List.getElem?_cons_succ, List.set_cons_zero, List.set_cons_succ, List.length_cons, List.length_nil, List.map_cons, List.map_nil, List.cons_append, List.nil_append, List.replicate_succ, List.replicate_zero, List.all_cons, List.all_nil, List.eraseIdx_cons_zero, List.eraseIdx_cons_succ, List.drop_succ_cons, List.drop_zero, List.filterMap_cons, List.filterMap_nil, Option.some.injEq, exists_eq_left', exists_eq_left, exists_eq', exists_eq, Option.join_some, Option.map_some, Option.bind_some, if_true, if_false, true_and, and_true, Bool.true_and, Bool.and_true, Bool.not_true, Bool.not_false, reduceCtorEq, false_and, exists_false, Bool.false_eq_true, OD.d.injEq, OD.l.injEq, HE.o.injEq, HE.al.injEq, List.cons.injEq, PyData.bool.injEq, PyData.int.injEq, PyData.str.injEq, ite_true, ite_false, Nat.reduceSub, Nat.reduceAdd, Nat.reduceLT, Nat.reduceEqDiff, Bool.and_self, Bool.or_true, Bool.true_or, Bool.or_false, Bool.false_or, Bool.false_and, Bool.and_false, eraseL_map, isd_d, er_d, sz_ok, is_int_n, is_int_b, is_int_i, is_int_s, is_int_l, is_int_t, is_int_d, is_bool_n, is_bool_b, is_bool_i, is_bool_s, is_bool_l, is_bool_t, is_bool_d, is_str_n, is_str_b, is_str_i, is_str_s, is_str_l, is_str_t, is_str_d, is_tuple_n, is_tuple_b, is_tuple_i, is_tuple_s, is_tuple_l, is_tuple_t, is_tuple_d, is_list_n, is_list_b, is_list_i, is_list_s, is_list_l, is_list_t, is_list_d, is_dict_n, is_dict_b, is_dict_i, is_dict_s, is_dict_l, is_dict_t, is_dict_d, ic0, ic1, ic2, ic3, ic4, ic5, ic6, ic7, ic8, ic9, ic10, ic11, ic12, ic13, ic14, ic15, ic16, ic17, ic18, ic19, ic20, ic21, noSL_d, nmL_noS, eq_self, decide_true, decide_false, Int.reduceLT, Int.reduceLE, Int.reduceEq, Int.reduceAdd, Int.reduceSub, Int.reduceNeg, Nat.reduceLeDiff, gNe_nil, gEq_nil, nmL_len, nmL_isd, nmL_er, ex_pair, fApp, sm2, hz2]
    refine map_by (fun k acc e => ∃ o ys y, acc = nmL ys ∧ ys.length = k ∧ (∀ x ∈ ys, sOk 1 x) ∧ Jr (M + 9 * j + 1 + k) o ∧ e = [some o, some (.d (.int (many : Int))), some (.l (nmL ls)), some (.l (nmL xs)), some (.d (.int (0 + (j : Int)))), some (.d (.int (n : Int))), c, y]) 0 ⟨o1, [], _, rfl, rfl, by simp, hJ1.mono (by omega), rfl⟩ ?_ ?_
    · rintro i2 d acc e hi2 ⟨o, ys, y, rfl, hy, hys, hJ2, rfl⟩
      obtain ⟨hi2, rfl⟩ := rng_at hi2
      simp (config := { maxSteps := 4000000 }) only [w_bind, w_ret, w_ok, w_seq, w_if, w_ifE, w_test, w_and, w_or, w_not, w_andV, w_orV, w_notV, w_do, w_rt, w_asg, w_C, w_var, w_args0, w_args1, w_plc, w_own, w_val, w_prim, w_list, w_tup, w_call, w_callIo, w_callK, w_chain, w_for, w_items, w_rng, w_lc, w_meth1, w_setL2, w_stores, w_aug, w_move, w_str, mNx, mRetN, startE, rds, HE.rd, sh1, sh2, dp1, dp2, gAdd, DL.gSub, gLt, gLe, gGt, gGe, gOrd, gIsI, gLen, gIx, gIxAny, gInAny, isDct, gLenAny, enumOf, zipOf, dat, gMax2, gMin2, gAbs, gNeg, gAddI, gTupOf, gListOf, gTupAny, gListAny, gInt, gIsN, gSl0, gSlL, gSlH, gSlice, OD.erase, OD.noS, noSL, OD.shallow, OD.isD, OD.still, allStill, boolOf, aName, aTup, aAll, outs, wipeE, isL, DL.intAt, DL.putAll, allO, allD, itemsOf, rngA, rngB, fw_ok, gEq_ii, gNe_ii, gEq_ss, gNe_ss, List.getElem?_cons_zero, List.getElem?_cons_succ, List.set_cons_zero, List.set_cons_succ, List.length_cons, List.length_nil, List.map_cons, List.map_nil, List.cons_append, List.nil_append, List.replicate_succ, List.replicate_zero, List.all_cons, List.all_nil, List.eraseIdx_cons_zero, List.eraseIdx_cons_succ, List.drop_succ_cons, List.drop_zero, List.filterMap_cons, List.filterMap_nil, Option.some.injEq, exists_eq_left', exists_eq_left, exists_eq', exists_eq, Option.join_some, Option.map_some, Option.bind_some, if_true, if_false, true_and, and_true, Bool.true_and, Bool.and_true, Bool.not_true, Bool.not_false, reduceCtorEq, false_and, exists_false, Bool.false_eq_true, OD.d.injEq, OD.l.injEq, HE.o.injEq, HE.al.injEq, List.cons.injEq, PyData.bool.injEq, PyData.int.injEq, PyData.str.injEq, ite_true, ite_false, Nat.reduceSub, Nat.reduceAdd, Nat.reduceLT, Nat.reduceEqDiff, Bool.and_self, Bool.or_true, Bool.true_or, Bool.or_false, Bool.false_or, Bool.false_and, Bool.and_false, eraseL_map, isd_d, er_d, sz_ok, is_int_n, is_int_b, is_int_i, is_int_s, is_int_l, is_int_t, is_int_d, is_bool_n, is_bool_b, is_bool_i, is_bool_s, is_bool_l, is_bool_t, is_bool_d, is_str_n, is_str_b, is_str_i, is_str_s, is_str_l, is_str_t, is_str_d, is_tuple_n, is_tuple_b, is_tuple_i, is_tuple_s, is_tuple_l, is_tuple_t, is_tuple_d, is_list_n, is_list_b, is_list_i, is_list_s, is_list_l, is_list_t, is_list_d, is_dict_n, is_dict_b, is_dict_i, is_dict_s, is_dict_l, is_dict_t, is_dict_d, ic0, ic1, ic2, ic3, ic4, ic5, ic6, ic7, ic8, ic9, ic10, ic11, ic12, ic13, ic14, ic15, ic16, ic17, ic18, ic19, ic20, ic21, noSL_d, nmL_noS, eq_self, decide_true, decide_false, Int.reduceLT, Int.reduceLE, Int.reduceEq, Int.reduceAdd, Int.reduceSub, Int.reduceNeg, Nat.reduceLeDiff, gNe_nil, gEq_nil, nmL_len, nmL_isd, nmL_er, ex_pair, fApp]
      refine (v_dip hJ2 3 rfl (by decide) (by decide) (by omega)).imp ?_ (fun _ _ z => z.elim)
      rintro _ _ ⟨i3, o3, rfl, rfl, hi3, hJ3⟩
      simp (config := { maxSteps := 4000000 }) only [w_bind, w_ret, w_ok, w_seq, w_if, w_ifE, w_test, w_and, w_or, w_not, w_andV, w_orV, w_notV, w_do, w_rt, w_asg, w_C, w_var, w_args0, w_args1, w_plc, w_own, w_val, w_prim, w_list, w_tup, w_call, w_callIo, w_callK, w_chain, w_for, w_items, w_rng, w_lc, w_meth1, w_setL2, w_stores, w_aug, w_move, w_str, mNx, mRetN, startE, rds, HE.rd, sh1, sh2, dp1, dp2, gAdd, DL.gSub, gLt, gLe, gGt, gGe, gOrd, gIsI, gLen, gIx, gIxAny, gInAny, isDct, gLenAny, enumOf, zipOf, dat, gMax2, gMin2, gAbs, gNeg, gAddI, gTupOf, gListOf, gTupAny, gListAny, gInt, gIsN, gSl0, gSlL, gSlH, gSlice, OD.erase, OD.noS, noSL, OD.shallow, OD.isD, OD.still, allStill, boolOf, aName, aTup, aAll, outs, wipeE, isL, DL.intAt, DL.putAll, allO, allD, itemsOf, rngA, rngB, fw_ok, gEq_ii, gNe_ii, gEq_ss, gNe_ss, List.getElem?_cons_zero, List.getElem?_cons_succ, List.set_cons_zero, List.set_cons_succ, List.length_cons, List.length_nil, List.map_cons, List.map_nil, List.cons_append, List.nil_append, List.replicate_succ, List.replicate_zero, List.all_cons, List.all_nil, List.eraseIdx_cons_zero, List.eraseIdx_cons_succ, List.drop_succ_cons, List.drop_zero, List.filterMap_cons, List.filterMap_nil, Option.some.injEq, exists_eq_left', exists_eq_left, exists_eq', exists_eq, Option.join_some, Option.map_some, Option.bind_some, if_true, if_false, true_and, and_true, Bool.true_and, Bool.and_true, Bool.not_true, Bool.not_false, reduceCtorEq, false_and, exists_false, Bool.false_eq_true, OD.d.injEq, OD.l.injEq, HE.o.injEq, HE.al.injEq, List.cons.injEq, PyData.bool.injEq, PyData.int.injEq, PyData.str.injEq, ite_true, ite_false, Nat.reduceSub, Nat.reduceAdd, Nat.reduceLT, Nat.reduceEqDiff, Bool.and_self, Bool.or_true, Bool.true_or, Bool.or_false, Bool.false_or, Bool.false_and, Bool.and_false, eraseL_map, isd_d, er_d, sz_ok, is_int_n, is_int_b, is_int_i, is_int_s, is_int_l, is_int_t, is_int_d, is_bool_n, is_bool_b, is_bool_i, is_bool_s, is_bool_l, is_bool_t, is_bool_d, is_str_n, is_str_b, is_str_i, is_str_s, is_str_l, is_str_t, is_str_d, is_tuple_n, is_tuple_b, is_tuple_i, is_tuple_s, is_tuple_l, is_tuple_t, is_tuple_d, is_list_n, is_list_b, is_list_i, is_list_s, is_list_l, is_list_t, is_list_d, is_dict_n, is_dict_b, is_dict_i, is_dict_s, is_dict_l, is_dict_t, is_dict_d, ic0, ic1, ic2, ic3, ic4, ic5, ic6, ic7, ic8, ic9, ic10, ic11, ic12, ic13, ic14, ic15, ic16, ic17, ic18, ic19, ic20, ic21, noSL_d, nmL_noS, eq_self, decide_true, decide_false, Int.reduceLT, Int.reduceLE, Int.reduceEq, Int.reduceAdd, Int.reduceSub, Int.reduceNeg, Nat.reduceLeDiff, gNe_nil, gEq_nil, nmL_len, nmL_isd, nmL_er, ex_pair, fApp]
      refine ix_any_s (show i3 < 3 from hi3) fun ch hch => ?_
      rw [nmL_snoc]
      exact ⟨o3, ys ++ [⟨#[ch]⟩], _, rfl, by simp [hy], fun x hx => by
        rcases List.mem_append.mp hx with z | z
        · exact hys x z
        · simp at z
          rw [z]
          exact abz_ok ch hch, hJ3.mono (by omega), by (repeat' apply And.intro) <;> rfl⟩
    · rintro acc e ⟨o, ys, y, rfl, hy, hys, hJ2, rfl⟩
      rw [rng_len] at hy hJ2
      have hy7 : ys.length ≤ 7 := by omega
      have hj20 : j < 20 := by omega
      simp (config := { maxSteps := 4000000 }) only [w_bind, w_ret, w_ok, w_seq, w_if, w_ifE, w_test, w_and, w_or, w_not, w_andV, w_orV, w_notV, w_do, w_rt, w_asg, w_C, w_var, w_args0, w_args1, w_plc, w_own, w_val, w_prim, w_list, w_tup, w_call, w_callIo, w_callK, w_chain, w_for, w_items, w_rng, w_lc, w_meth1, w_setL2, w_stores, w_aug, w_move, w_str, mNx, mRetN, startE, rds, HE.rd, sh1, sh2, dp1, dp2, gAdd, DL.gSub, gLt, gLe, gGt, gGe, gOrd, gIsI, gLen, gIx, gIxAny, gInAny, isDct, gLenAny, enumOf, zipOf, dat, gMax2, gMin2, gAbs, gNeg, gAddI, gTupOf, gListOf, gTupAny, gListAny, gInt, gIsN, gSl0, gSlL, gSlH, gSlice, OD.erase, OD.noS, noSL, OD.shallow, OD.isD, OD.still, allStill, boolOf, aName, aTup, aAll, outs, wipeE, isL, DL.intAt, DL.putAll, allO, allD, itemsOf, rngA, rngB, fw_ok, gEq_ii, gNe_ii, gEq_ss, gNe_ss, List.getElem?_cons_zero, List.getElem?_cons_succ, List.set_cons_zero, List.set_cons_succ, List.length_cons, List.length_nil, List.map_cons, List.map_nil, List.cons_append, List.nil_append, List.replicate_succ, List.replicate_zero, List.all_cons, List.all_nil, List.eraseIdx_cons_zero, List.eraseIdx_cons_succ, List.drop_succ_cons, List.drop_zero, List.filterMap_cons, List.filterMap_nil, Option.some.injEq, exists_eq_left', exists_eq_left, exists_eq', exists_eq, Option.join_some, Option.map_some, Option.bind_some, if_true, if_false, true_and, and_true, Bool.true_and, Bool.and_true, Bool.not_true, Bool.not_false, reduceCtorEq, false_and, exists_false, Bool.false_eq_true, OD.d.injEq, OD.l.injEq, HE.o.injEq, HE.al.injEq, List.cons.injEq, PyData.bool.injEq, PyData.int.injEq, PyData.str.injEq, ite_true, ite_false, Nat.reduceSub, Nat.reduceAdd, Nat.reduceLT, Nat.reduceEqDiff, Bool.and_self, Bool.or_true, Bool.true_or, Bool.or_false, Bool.false_or, Bool.false_and, Bool.and_false, eraseL_map, isd_d, er_d, sz_ok, is_int_n, is_int_b, is_int_i, is_int_s, is_int_l, is_int_t, is_int_d, is_bool_n, is_bool_b, is_bool_i, is_bool_s, is_bool_l, is_bool_t, is_bool_d, is_str_n, is_str_b, is_str_i, is_str_s, is_str_l, is_str_t, is_str_d, is_tuple_n, is_tuple_b, is_tuple_i, is_tuple_s, is_tuple_l, is_tuple_t, is_tuple_d, is_list_n, is_list_b, is_list_i, is_list_s, is_list_l, is_list_t, is_list_d, is_dict_n, is_dict_b, is_dict_i, is_dict_s, is_dict_l, is_dict_t, is_dict_d, ic0, ic1, ic2, ic3, ic4, ic5, ic6, ic7, ic8, ic9, ic10, ic11, ic12, ic13, ic14, ic15, ic16, ic17, ic18, ic19, ic20, ic21, noSL_d, nmL_noS, eq_self, decide_true, decide_false, Int.reduceLT, Int.reduceLE, Int.reduceEq, Int.reduceAdd, Int.reduceSub, Int.reduceNeg, Nat.reduceLeDiff, gNe_nil, gEq_nil, nmL_len, nmL_isd, nmL_er, ex_pair, fApp, gJoin_ones hys (by omega), nmL_len]
      refine (v_dip hJ2 ls.length rfl (by omega) (by omega) (by omega)).imp ?_ (fun _ _ z => z.elim)
      rintro _ _ ⟨r, o3, rfl, rfl, hr, hJ3⟩
      have s1 := sOk.join hys hy7
      have s2 := hls _ (List.getElem_mem hr)
      have s3 := s1.app s2
      have hl3 : (Txt.join "" ys).length + ls[r].length ≤ 16777216 := by have := s1.1; have := s2.1; omega
      have hl4 : xs.length < 16777216 := by omega
      simp (config := { maxSteps := 4000000 }) only [w_bind, w_ret, w_ok, w_seq, w_if, w_ifE, w_test, w_and, w_or, w_not, w_andV, w_orV, w_notV, w_do, w_rt, w_asg, w_C, w_var, w_args0, w_args1, w_plc, w_own, w_val, w_prim, w_list, w_tup, w_call, w_callIo, w_callK, w_chain, w_for, w_items, w_rng, w_lc, w_meth1, w_setL2, w_stores, w_aug, w_move, w_str, mNx, mRetN, startE, rds, HE.rd, sh1, sh2, dp1, dp2, gAdd, DL.gSub, gLt, gLe, gGt, gGe, gOrd, gIsI, gLen, gIx, gIxAny, gInAny, isDct, gLenAny, enumOf, zipOf, dat, gMax2, gMin2, gAbs, gNeg, gAddI, gTupOf, gListOf, gTupAny, gListAny, gInt, gIsN, gSl0, gSlL, gSlH, gSlice, OD.erase, OD.noS, noSL, OD.shallow, OD.isD, OD.still, allStill, boolOf, aName, aTup, aAll, outs, wipeE, isL, DL.intAt, DL.putAll, allO, allD, itemsOf, rngA, rngB, fw_ok, gEq_ii, gNe_ii, gEq_ss, gNe_ss, List.getElem?_cons_zero, List.getElem?_cons_succ, List.set_cons_zero, List.set_cons_succ, List.length_cons, List.length_nil, List.map_cons, List.map_nil, List.cons_append, List.nil_append, List.replicate_succ, List.replicate_zero, List.all_cons, List.all_nil, List.eraseIdx_cons_zero, List.eraseIdx_cons_succ, List.drop_succ_cons, List.drop_zero, List.filterMap_cons, List.filterMap_nil, Option.some.injEq, exists_eq_left', exists_eq_left, exists_eq', exists_eq, Option.join_some, Option.map_some, Option.bind_some, if_true, if_false, true_and, and_true, Bool.true_and, Bool.and_true, Bool.not_true, Bool.not_false, reduceCtorEq, false_and, exists_false, Bool.false_eq_true, OD.d.injEq, OD.l.injEq, HE.o.injEq, HE.al.injEq, List.cons.injEq, PyData.bool.injEq, PyData.int.injEq, PyData.str.injEq, ite_true, ite_false, Nat.reduceSub, Nat.reduceAdd, Nat.reduceLT, Nat.reduceEqDiff, Bool.and_self, Bool.or_true, Bool.true_or, Bool.or_false, Bool.false_or, Bool.false_and, Bool.and_false, eraseL_map, isd_d, er_d, sz_ok, is_int_n, is_int_b, is_int_i, is_int_s, is_int_l, is_int_t, is_int_d, is_bool_n, is_bool_b, is_bool_i, is_bool_s, is_bool_l, is_bool_t, is_bool_d, is_str_n, is_str_b, is_str_i, is_str_s, is_str_l, is_str_t, is_str_d, is_tuple_n, is_tuple_b, is_tuple_i, is_tuple_s, is_tuple_l, is_tuple_t, is_tuple_d, is_list_n, is_list_b, is_list_i, is_list_s, is_list_l, is_list_t, is_list_d, is_dict_n, is_dict_b, is_dict_i, is_dict_s, is_dict_l, is_dict_t, is_dict_d, ic0, ic1, ic2, ic3, ic4, ic5, ic6, ic7, ic8, ic9, ic10, ic11, ic12, ic13, ic14, ic15, ic16, ic17, ic18, ic19, ic20, ic21, noSL_d, nmL_noS, eq_self, decide_true, decide_false, Int.reduceLT, Int.reduceLE, Int.reduceEq, Int.reduceAdd, Int.reduceSub, Int.reduceNeg, Nat.reduceLeDiff, gNe_nil, gEq_nil, nmL_len, nmL_isd, nmL_er, ex_pair, fApp, fpop hr (by omega), hl3, fApp, hl4]
      rw [nmL_snoc]
      refine ⟨o3, ls.eraseIdx r, xs ++ [Txt.join "" ys ++ ls[r]], _, _, _, _, by (repeat' apply And.intro) <;> rfl, hJ3.mono (by omega), ?_, fun x hx => hls x (List.mem_of_mem_eraseIdx hx), by simp [hx], fun x hx => ?_⟩
      · rw [List.length_eraseIdx_of_lt hr]
        omega
      · rcases List.mem_append.mp hx with z | z
        · exact hxs x z
        · simp at z
          rw [z]
          exact s3
  · rintro e ⟨o, ls, xs, a, b, c, d, rfl, hJ, hl, hls, hx, hxs⟩
    rw [rng_len] at hx hJ
    have hz : (nmL xs).length ≤ 16777216 := by rw [nmL_len]; omega
    simp (config := { maxSteps := 4000000 }) only [w_bind, w_ret, w_ok, w_seq, w_if, w_ifE, w_test, w_and, w_or, w_not, w_andV, w_orV, w_notV, w_do, w_rt, w_asg, w_C, w_var, w_args0, w_args1, w_plc, w_own, w_val, w_prim, w_list, w_tup, w_call, w_callIo, w_callK, w_chain, w_for, w_items, w_rng, w_lc, w_meth1, w_setL2, w_stores, w_aug, w_move, w_str, mNx, mRetN, startE, rds, HE.rd, sh1, sh2, dp1, dp2, gAdd, DL.gSub, gLt, gLe, gGt, gGe, gOrd, gIsI, gLen, gIx, gIxAny, gInAny, isDct, gLenAny, enumOf, zipOf, dat, gMax2, gMin2, gAbs, gNeg, gAddI, gTupOf, gListOf, gTupAny, gListAny, gInt, gIsN, gSl0, gSlL, gSlH, gSlice, OD.erase, OD.noS, noSL, OD.shallow, OD.isD, OD.still, allStill, boolOf, aName, aTup, aAll, outs, wipeE, isL, DL.intAt, DL.putAll, allO, allD, itemsOf, rngA, rngB, fw_ok, gEq_ii, gNe_ii, gEq_ss, gNe_ss, List.getElem?_cons_zero, List.getElem?_cons_succ, List.set_cons_zero, List.set_cons_succ, List.length_cons, List.length_nil, List.map_cons, List.map_nil, List.cons_append, List.nil_append, List.replicate_succ, List.replicate_zero, List.all_cons, List.all_nil, List.eraseIdx_cons_zero, List.eraseIdx_cons_succ, List.drop_succ_cons, List.drop_zero, List.filterMap_cons, List.filterMap_nil, Option.some.injEq, exists_eq_left', exists_eq_left, exists_eq', exists_eq, Option.join_some, Option.map_some, Option.bind_some, if_true, if_false, true_and, and_true, Bool.true_and, Bool.and_true, Bool.not_true, Bool.not_false, reduceCtorEq, false_and, exists_false, Bool.false_eq_true, OD.d.injEq, OD.l.injEq, HE.o.injEq, HE.al.injEq, List.cons.injEq, PyData.bool.injEq, PyData.int.injEq, PyData.str.injEq, ite_true, ite_false, Nat.reduceSub, Nat.reduceAdd, Nat.reduceLT, Nat.reduceEqDiff, Bool.and_self, Bool.or_true, Bool.true_or, Bool.or_false, Bool.false_or, Bool.false_and, Bool.and_false, eraseL_map, isd_d, er_d, sz_ok, is_int_n, is_int_b, is_int_i, is_int_s, is_int_l, is_int_t, is_int_d, is_bool_n, is_bool_b, is_bool_i, is_bool_s, is_bool_l, is_bool_t, is_bool_d, is_str_n, is_str_b, is_str_i, is_str_s, is_str_l, is_str_t, is_str_d, is_tuple_n, is_tuple_b, is_tuple_i, is_tuple_s, is_tuple_l, is_tuple_t, is_tuple_d, is_list_n, is_list_b, is_list_i, is_list_s, is_list_l, is_list_t, is_list_d, is_dict_n, is_dict_b, is_dict_i, is_dict_s, is_dict_l, is_dict_t, is_dict_d, ic0, ic1, ic2, ic3, ic4, ic5, ic6, ic7, ic8, ic9, ic10, ic11, ic12, ic13, ic14, ic15, ic16, ic17, ic18, ic19, ic20, ic21, noSL_d, nmL_noS, eq_self, decide_true, decide_false, Int.reduceLT, Int.reduceLE, Int.reduceEq, Int.reduceAdd, Int.reduceSub, Int.reduceNeg, Nat.reduceLeDiff, gNe_nil, gEq_nil, nmL_len, nmL_isd, nmL_er, ex_pair, fApp, nmL_isd, nmL_er]
    exact ⟨xs, o, rfl, rfl, by omega, hxs, hJ.mono (by omega)⟩
end LW

set_option Elab.async false
set_option linter.all false
set_option autoImplicit false
set_option maxRecDepth 100000
set_option maxHeartbeats 1000000
namespace LW
open PySem PySem.Spec PyProof.Rows L2 DL

def Trip (d : PyData) : Prop := ∃ w s t : Str, d = .tuple [.str w, .str s, .str t] ∧ sOk 8 w ∧ sOk 8 s ∧ sOk 8 t
def Plan (most M : Nat) (r : OD) (l : List OD) : Prop := ∃ (ts : List PyData) (o' : OD), r = .d (.tuple ts) ∧ l = [o'] ∧ ts.length ≤ most ∧ (∀ t ∈ ts, Trip t) ∧ Jr (M + 1500) o'
theorem names_at {xs : List Str} {i : Nat} (h : i < xs.length) : atI (xs.map PyData.str) (i : Int) = some (.str xs[i]) := by
  rw [at_ok (by simpa using h)]
  simp
theorem mod_nat (a n : Nat) : ((a : Int) + 1) % (n : Int) = (((a + 1) % n : Nat) : Int) := by
  rw [Int.natCast_emod, Int.natCast_add]; rfl
theorem mod_nat0 (a n : Nat) : (a : Int) % (n : Int) = ((a % n : Nat) : Int) := by
  rw [Int.natCast_emod]
theorem words_ok : ∀ o ∈ [OD.d (.str "over"), .d (.str "skip")], ∃ d, o = .d d ∧ ∃ w : Str, d = .str w ∧ sOk 8 w := by
  intro o ho
  simp only [List.mem_cons, List.not_mem_nil, or_false] at ho
  rcases ho with rfl | rfl
  · exact ⟨_, rfl, _, rfl, by decide +kernel⟩
  · exact ⟨_, rfl, _, rfl, by decide +kernel⟩
/-- the slots while one copy is made -/
def Ic (xs : List Str) (ts : List PyData) (most way j N : Nat) (e : DEnv) : Prop := ∃ (o : OD) (a b : Nat) (w : Option OD), e = [some o, some (.d (.tuple (xs.map .str))), some (.d (.int (most : Int))), some (.d (.int (xs.length : Int))), some (.d (.int (way : Int))), some (.l (ts.map .d)), some (.d (.int (j : Int))), some (.d (.int (a : Int))), some (.d (.int (b : Int))), w] ∧ a < xs.length ∧ b < xs.length ∧ Jr N o
theorem v_turn (xs : List Str) (hxs : ∀ x ∈ xs, sOk 8 x) (n1 : 2 ≤ xs.length) (n2 : xs.length ≤ 20) (most way j N : Nat) (hj : j < 201) (hway : way < 6) (hN : N ≤ 50000) (ts : List PyData) (hts : ∀ t ∈ ts, Trip t) (hl : ts.length = j)
    (o : OD) (a b c : Option OD) (hJ : Jr N o) :
    Mwp ((mSeq (mStores [7, 8] [.own (mCallIo 0 f__law_dip [.plc 0, .val (mVar 3)]), .own (mCallIo 0 f__law_dip [.plc 0, .val (mVar 3)])])
    (mSeq (mIf (mTest (prim (dp2 gEq) [.plc 4, .own (mC (.int 1))])) (mStores [7, 8] [.own (prim (sh2 gMod) [.own (prim (sh2 gAdd) [.plc 6, .own (mC (.int 1))]), .plc 3]), .own (prim (sh2 gMod) [.plc 6, .plc 3])]) (mNx))
    (mSeq (mIf (mTest (prim (dp2 gEq) [.plc 4, .own (mC (.int 2))])) (mAsg (mC (.int 0)) (aName 8)) (mNx))
    (mSeq (mIf (mTest (prim (dp2 gEq) [.plc 4, .own (mC (.int 3))])) (mAsg (mC (.int 0)) (aName 7)) (mNx))
    (mSeq (mIf (mTest (prim (dp2 gEq) [.plc 4, .own (mC (.int 4))])) (mStores [7, 8] [.own (mCallIo 0 f__law_dip [.plc 0, .val (prim (gMin2) [.plc 3, .own (mC (.int 3))])]), .own (mCallIo 0 f__law_dip [.plc 0, .val (prim (gMin2) [.plc 3, .own (mC (.int 3))])])]) (mNx))
    (mSeq (mAsg (mIfE (mTest (prim (dp2 gNe) [.plc 8, .plc 7])) (mVar 8) (prim (sh2 gMod) [.own (prim (sh2 gAdd) [.plc 7, .own (mC (.int 1))]), .plc 3])) (aName 8))
    (mSeq (mAsg (prim gIxAny [.own (mList [.val (mC (.str "over")), .val (mC (.str "skip"))]), .own (prim gIxAny [.own (mList [.val (mCallIo 0 f__law_dip [.plc 0, .val (mC (.int 2))]), .val (mC (.int 0)), .val (prim (gInt) [.own (prim (dp2 gEq) [.own (prim (sh2 gMod) [.plc 6, .own (mC (.int 5))]), .own (mC (.int 4))])])]), .own (prim (sh2 gMod) [.plc 4, .own (mC (.int 3))])])]) (aName 9))
    (mDo (mMeth1 5 (.own (mTup [.val (mVar 9), .val (prim gIxAny [.plc 1, .plc 7]), .val (prim gIxAny [.plc 1, .plc 8])])) fApp)))))))))
     [some o, some (.d (.tuple (xs.map .str))), some (.d (.int (most : Int))), some (.d (.int (xs.length : Int))), some (.d (.int (way : Int))), some (.l (ts.map .d)), some (.d (.int (j : Int))), a, b, c])
    (fun fl e => fl = .nx ∧ ∃ (o : OD) (ts' : List PyData) (a b c : Option OD), e = [some o, some (.d (.tuple (xs.map .str))), some (.d (.int (most : Int))), some (.d (.int (xs.length : Int))), some (.d (.int (way : Int))), some (.l (ts'.map .d)), some (.d (.int (j : Int))), a, b, c] ∧ Jr (N + 5) o ∧ ts'.length = j + 1 ∧ ∀ t ∈ ts', Trip t) (fun _ _ => False) := by
  have hn0 : (0 : Int) < (xs.length : Int) := by omega
  have dn : ∀ x : Int, gMod (.int x) (.int (xs.length : Int)) = some (.d (.int (x % (xs.length : Int)))) := fun x => gMod_pos hn0
  have sz : ∀ a : Nat, a < xs.length → (((a + 1) % xs.length : Nat)) < xs.length := fun a _ => Nat.mod_lt _ (by omega)
  refine seq_by (Ic xs ts most way j (N + 2)) ?_ ?_
  · simp (config := { maxSteps := 4000000 }) only [w_bind, w_ret, w_ok, w_seq, w_if, w_ifE, w_test, w_and, w_or, w_not, w_andV, w_orV, w_notV, w_do, w_rt, w_asg, w_C, w_var, w_args0, w_args1, w_plc, w_own, w_val, w_prim, w_list, w_tup, w_call, w_callIo, w_callK, w_chain, w_for, w_items, w_rng, w_lc, w_meth1, w_setL2, w_stores, w_aug, w_move, w_str, mNx, mRetN, startE, rds, HE.rd, sh1, sh2, dp1, dp2, gAdd, DL.gSub, gLt, gLe, gGt, gGe, gOrd, gIsI, gLen, gIx, gIxAny, gInAny, isDct, gLenAny, enumOf, zipOf, dat, gMax2, gMin2, gAbs, gNeg, gAddI, gTupOf, gListOf, gTupAny, gListAny, gInt, gIsN, gSl0, gSlL, gSlH, gSlice, OD.erase, OD.noS, noSL, OD.shallow, OD.isD, OD.still, allStill, boolOf, aName, aTup, aAll, outs, wipeE, isL, DL.intAt, DL.putAll, allO, allD, itemsOf, rngA, rngB, fw_ok, gEq_ii, gNe_ii, gEq_ss, gNe_ss, List.getElem?_cons_zero, List.getElem?_cons_succ, List.set_cons_zero, List.set_cons_succ, List.length_cons, List.length_nil, List.map_cons, List.map_nil, List.cons_append, List.nil_append, List.replicate_succ, List.replicate_zero, List.all_cons, List.all_nil, List.eraseIdx_cons_zero, List.eraseIdx_cons_succ, List.drop_succ_cons, List.drop_zero, List.filterMap_cons, List.filterMap_nil, Option.some.injEq, exists_eq_left', exists_eq_left, exists_eq', exists_eq, Option.join_some, Option.map_some, Option.bind_some, if_true, if_false, true_and, and_true, Bool.true_and, Bool.and_true, Bool.not_true, Bool.not_false, reduceCtorEq, false_and, exists_false, Bool.false_eq_true, OD.d.injEq, OD.l.injEq, HE.o.injEq, HE.al.injEq, List.cons.injEq, PyData.bool.injEq, PyData.int.injEq, PyData.str.injEq, ite_true, ite_false, Nat.reduceSub, Nat.reduceAdd, Nat.reduceLT, Nat.reduceEqDiff, Bool.and_self, Bool.or_true, Bool.true_or, Bool.or_false, Bool.false_or, Bool.false_and, Bool.and_false, eraseL_map, isd_d, er_d, sz_ok, is_int_n, is_int_b, is_int_i, is_int_s, is_int_l, is_int_t, is_int_d, is_bool_n, is_bool_b, is_bool_i, is_bool_s, is_bool_l, is_bool_t, is_bool_d, is_str_n, is_str_b, is_str_i, is_str_s, is_str_l, is_str_t, is_str_d, is_tuple_n, is_tuple_b, is_tuple_i, is_tuple_s, is_tuple_l, is_tuple_t, is_tuple_d, is_list_n, is_list_b, is_list_i, is_list_s, is_list_l, is_list_t, is_list_d, is_dict_n, is_dict_b, is_dict_i, is_dict_s, is_dict_l, is_dict_t, is_dict_d, ic0, ic1, ic2, ic3, ic4, ic5, ic6, ic7, ic8, ic9, ic10, ic11, ic12, ic13, ic14, ic15, ic16, ic17, ic18, ic19, ic20, ic21, noSL_d, nmL_noS, eq_self, decide_true, decide_false, Int.reduceLT, Int.reduceLE, Int.reduceEq, Int.reduceAdd, Int.reduceSub, Int.reduceNeg, Nat.reduceLeDiff, gNe_nil, gEq_nil, nmL_len, nmL_isd, nmL_er, ex_pair, fApp]
    refine (v_dip hJ xs.length rfl (by omega) (by omega) (by omega)).imp ?_ (fun _ _ z => z.elim)
    rintro _ _ ⟨i1, o1, rfl, rfl, h1, hJ1⟩
    simp (config := { maxSteps := 4000000 }) only [w_bind, w_ret, w_ok, w_seq, w_if, w_ifE, w_test, w_and, w_or, w_not, w_andV, w_orV, w_notV, w_do, w_rt, w_asg, w_C, w_var, w_args0, w_args1, w_plc, w_own, w_val, w_prim, w_list, w_tup, w_call, w_callIo, w_callK, w_chain, w_for, w_items, w_rng, w_lc, w_meth1, w_setL2, w_stores, w_aug, w_move, w_str, mNx, mRetN, startE, rds, HE.rd, sh1, sh2, dp1, dp2, gAdd, DL.gSub, gLt, gLe, gGt, gGe, gOrd, gIsI, gLen, gIx, gIxAny, gInAny, isDct, gLenAny, enumOf, zipOf, dat, gMax2, gMin2, gAbs, gNeg, gAddI, gTupOf, gListOf, gTupAny, gListAny, gInt, gIsN, gSl0, gSlL, gSlH, gSlice, OD.erase, OD.noS, noSL, OD.shallow, OD.isD, OD.still, allStill, boolOf, aName, aTup, aAll, outs, wipeE, isL, DL.intAt, DL.putAll, allO, allD, itemsOf, rngA, rngB, fw_ok, gEq_ii, gNe_ii, gEq_ss, gNe_ss, List.getElem?_cons_zero, List.getElem?_cons_succ, List.set_cons_zero, List.set_cons_succ, List.length_cons, List.length_nil, List.map_cons, List.map_nil, List.cons_append, List.nil_append, List.replicate_succ, List.replicate_zero, List.all_cons, List.all_nil, List.eraseIdx_cons_zero, List.eraseIdx_cons_succ, List.drop_succ_cons, List.drop_zero, List.filterMap_cons, List.filterMap_nil, Option.some.injEq, exists_eq_left', exists_eq_left, exists_eq', exists_eq, Option.join_some, Option.map_some, Option.bind_some, if_true, if_false, true_and, and_true, Bool.true_and, Bool.and_true, Bool.not_true, Bool.not_false, reduceCtorEq, false_and, exists_false, Bool.false_eq_true, OD.d.injEq, OD.l.injEq, HE.o.injEq, HE.al.injEq, List.cons.injEq, PyData.bool.injEq, PyData.int.injEq, PyData.str.injEq, ite_true, ite_false, Nat.reduceSub, Nat.reduceAdd, Nat.reduceLT, Nat.reduceEqDiff, Bool.and_self, Bool.or_true, Bool.true_or, Bool.or_false, Bool.false_or, Bool.false_and, Bool.and_false, eraseL_map, isd_d, er_d, sz_ok, is_int_n, is_int_b, is_int_i, is_int_s, is_int_l, is_int_t, is_int_d, is_bool_n, is_bool_b, is_bool_i, is_bool_s, is_bool_l, is_bool_t, is_bool_d, is_str_n, is_str_b, is_str_i, is_str_s, is_str_l, is_str_t, is_str_d, is_tuple_n, is_tuple_b, is_tuple_i, is_tuple_s, is_tuple_l, is_tuple_t, is_tuple_d, is_list_n, is_list_b, is_list_i, is_list_s, is_list_l, is_list_t, is_list_d, is_dict_n, is_dict_b, is_dict_i, is_dict_s, is_dict_l, is_dict_t, is_dict_d, ic0, ic1, ic2, ic3, ic4, ic5, ic6, ic7, ic8, ic9, ic10, ic11, ic12, ic13, ic14, ic15, ic16, ic17, ic18, ic19, ic20, ic21, noSL_d, nmL_noS, eq_self, decide_true, decide_false, Int.reduceLT, Int.reduceLE, Int.reduceEq, Int.reduceAdd, Int.reduceSub, Int.reduceNeg, Nat.reduceLeDiff, gNe_nil, gEq_nil, nmL_len, nmL_isd, nmL_er, ex_pair, fApp]
    refine (v_dip hJ1 xs.length rfl (by omega) (by omega) (by omega)).imp ?_ (fun _ _ z => z.elim)
    rintro _ _ ⟨i2, o2, rfl, rfl, h2, hJ2⟩
    simp (config := { maxSteps := 4000000 }) only [w_bind, w_ret, w_ok, w_seq, w_if, w_ifE, w_test, w_and, w_or, w_not, w_andV, w_orV, w_notV, w_do, w_rt, w_asg, w_C, w_var, w_args0, w_args1, w_plc, w_own, w_val, w_prim, w_list, w_tup, w_call, w_callIo, w_callK, w_chain, w_for, w_items, w_rng, w_lc, w_meth1, w_setL2, w_stores, w_aug, w_move, w_str, mNx, mRetN, startE, rds, HE.rd, sh1, sh2, dp1, dp2, gAdd, DL.gSub, gLt, gLe, gGt, gGe, gOrd, gIsI, gLen, gIx, gIxAny, gInAny, isDct, gLenAny, enumOf, zipOf, dat, gMax2, gMin2, gAbs, gNeg, gAddI, gTupOf, gListOf, gTupAny, gListAny, gInt, gIsN, gSl0, gSlL, gSlH, gSlice, OD.erase, OD.noS, noSL, OD.shallow, OD.isD, OD.still, allStill, boolOf, aName, aTup, aAll, outs, wipeE, isL, DL.intAt, DL.putAll, allO, allD, itemsOf, rngA, rngB, fw_ok, gEq_ii, gNe_ii, gEq_ss, gNe_ss, List.getElem?_cons_zero, List.getElem?_cons_succ, List.set_cons_zero, List.set_cons_succ, List.length_cons, List.length_nil, List.map_cons, List.map_nil, List.cons_append, List.nil_append, List.replicate_succ, List.replicate_zero, List.all_cons, List.all_nil, List.eraseIdx_cons_zero, List.eraseIdx_cons_succ, List.drop_succ_cons, List.drop_zero, List.filterMap_cons, List.filterMap_nil, Option.some.injEq, exists_eq_left', exists_eq_left, exists_eq', exists_eq, Option.join_some, Option.map_some, Option.bind_some, if_true, if_false, true_and, and_true, Bool.true_and, Bool.and_true, Bool.not_true, Bool.not_false, reduceCtorEq, false_and, exists_false, Bool.false_eq_true, OD.d.injEq, OD.l.injEq, HE.o.injEq, HE.al.injEq, List.cons.injEq, PyData.bool.injEq, PyData.int.injEq, PyData.str.injEq, ite_true, ite_false, Nat.reduceSub, Nat.reduceAdd, Nat.reduceLT, Nat.reduceEqDiff, Bool.and_self, Bool.or_true, Bool.true_or, Bool.or_false, Bool.false_or, Bool.false_and, Bool.and_false, eraseL_map, isd_d, er_d, sz_ok, is_int_n, is_int_b, is_int_i, is_int_s, is_int_l, is_int_t, is_int_d, is_bool_n, is_bool_b, is_bool_i, is_bool_s, is_bool_l, is_bool_t, is_bool_d, is_str_n, is_str_b, is_str_i, is_str_s, is_str_l, is_str_t, is_str_d, is_tuple_n, is_tuple_b, is_tuple_i, is_tuple_s, is_tuple_l, is_tuple_t, is_tuple_d, is_list_n, is_list_b, is_list_i, is_list_s, is_list_l, is_list_t, is_list_d, is_dict_n, is_dict_b, is_dict_i, is_dict_s, is_dict_l, is_dict_t, is_dict_d, ic0, ic1, ic2, ic3, ic4, ic5, ic6, ic7, ic8, ic9, ic10, ic11, ic12, ic13, ic14, ic15, ic16, ic17, ic18, ic19, ic20, ic21, noSL_d, nmL_noS, eq_self, decide_true, decide_false, Int.reduceLT, Int.reduceLE, Int.reduceEq, Int.reduceAdd, Int.reduceSub, Int.reduceNeg, Nat.reduceLeDiff, gNe_nil, gEq_nil, nmL_len, nmL_isd, nmL_er, ex_pair, fApp]
    exact ⟨o2, i1, i2, _, rfl, h1, h2, hJ2⟩
  rintro _ ⟨o, a, b, w, rfl, ha, hb, hJ⟩
  refine seq_by (Ic xs ts most way j (N + 2)) ?_ ?_
  · by_cases h : (way : Int) = 1
    · simp (config := { maxSteps := 4000000 }) only [w_bind, w_ret, w_ok, w_seq, w_if, w_ifE, w_test, w_and, w_or, w_not, w_andV, w_orV, w_notV, w_do, w_rt, w_asg, w_C, w_var, w_args0, w_args1, w_plc, w_own, w_val, w_prim, w_list, w_tup, w_call, w_callIo, w_callK, w_chain, w_for, w_items, w_rng, w_lc, w_meth1, w_setL2, w_stores, w_aug, w_move, w_str, mNx, mRetN, startE, rds, HE.rd, sh1, sh2, dp1, dp2, gAdd, DL.gSub, gLt, gLe, gGt, gGe, gOrd, gIsI, gLen, gIx, gIxAny, gInAny, isDct, gLenAny, enumOf, zipOf, dat, gMax2, gMin2, gAbs, gNeg, gAddI, gTupOf, gListOf, gTupAny, gListAny, gInt, gIsN, gSl0, gSlL, gSlH, gSlice, OD.erase, OD.noS, noSL, OD.shallow, OD.isD, OD.still, allStill, boolOf, aName, aTup, aAll, outs, wipeE, isL, DL.intAt, DL.putAll, allO, allD, itemsOf, rngA, rngB, fw_ok, gEq_ii, gNe_ii, gEq_ss, gNe_ss, List.getElem?_cons_zero, List.getElem?_cons_succ, List.set_cons_zero, List.set_cons_succ, List.length_cons, List.length_nil, List.map_cons, List.map_nil, List.cons_append, List.nil_append, List.replicate_succ, List.replicate_zero, List.all_cons, List.all_nil, List.eraseIdx_cons_zero, List.eraseIdx_cons_succ, List.drop_succ_cons, List.drop_zero, List.filterMap_cons, List.filterMap_nil, Option.some.injEq, exists_eq_left', exists_eq_left, exists_eq', exists_eq, Option.join_some, Option.map_some, Option.bind_some, if_true, if_false, true_and, and_true, Bool.true_and, Bool.and_true, Bool.not_true, Bool.not_false, reduceCtorEq, false_and, exists_false, Bool.false_eq_true, OD.d.injEq, OD.l.injEq, HE.o.injEq, HE.al.injEq, List.cons.injEq, PyData.bool.injEq, PyData.int.injEq, PyData.str.injEq, ite_true, ite_false, Nat.reduceSub, Nat.reduceAdd, Nat.reduceLT, Nat.reduceEqDiff, Bool.and_self, Bool.or_true, Bool.true_or, Bool.or_false, Bool.false_or, Bool.false_and, Bool.and_false, eraseL_map, isd_d, er_d, sz_ok, is_int_n, is_int_b, is_int_i, is_int_s, is_int_l, is_int_t, is_int_d, is_bool_n, is_bool_b, is_bool_i, is_bool_s, is_bool_l, is_bool_t, is_bool_d, is_str_n, is_str_b, is_str_i, is_str_s, is_str_l, is_str_t, is_str_d, is_tuple_n, is_tuple_b, is_tuple_i, is_tuple_s, is_tuple_l, is_tuple_t, is_tuple_d, is_list_n, is_list_b, is_list_i, is_list_s, is_list_l, is_list_t, is_list_d, is_dict_n, is_dict_b, is_dict_i, is_dict_s, is_dict_l, is_dict_t, is_dict_d, ic0, ic1, ic2, ic3, ic4, ic5, ic6, ic7, ic8, ic9, ic10, ic11, ic12, ic13, ic14, ic15, ic16, ic17, ic18, ic19, ic20, ic21, noSL_d, nmL_noS, eq_self, decide_true, decide_false, Int.reduceLT, Int.reduceLE, Int.reduceEq, Int.reduceAdd, Int.reduceSub, Int.reduceNeg, Nat.reduceLeDiff, gNe_nil, gEq_nil, nmL_len, nmL_isd, nmL_er, ex_pair, fApp, h, dn]
      rw [mod_nat, mod_nat0, ← h]
      exact ⟨o, _, _, _, rfl, Nat.mod_lt _ (by omega), Nat.mod_lt _ (by omega), hJ⟩
    · simp (config := { maxSteps := 4000000 }) only [w_bind, w_ret, w_ok, w_seq, w_if, w_ifE, w_test, w_and, w_or, w_not, w_andV, w_orV, w_notV, w_do, w_rt, w_asg, w_C, w_var, w_args0, w_args1, w_plc, w_own, w_val, w_prim, w_list, w_tup, w_call, w_callIo, w_callK, w_chain, w_for, w_items, w_rng, w_lc, w_meth1, w_setL2, w_stores, w_aug, w_move, w_str, mNx, mRetN, startE, rds, HE.rd, sh1, sh2, dp1, dp2, gAdd, DL.gSub, gLt, gLe, gGt, gGe, gOrd, gIsI, gLen, gIx, gIxAny, gInAny, isDct, gLenAny, enumOf, zipOf, dat, gMax2, gMin2, gAbs, gNeg, gAddI, gTupOf, gListOf, gTupAny, gListAny, gInt, gIsN, gSl0, gSlL, gSlH, gSlice, OD.erase, OD.noS, noSL, OD.shallow, OD.isD, OD.still, allStill, boolOf, aName, aTup, aAll, outs, wipeE, isL, DL.intAt, DL.putAll, allO, allD, itemsOf, rngA, rngB, fw_ok, gEq_ii, gNe_ii, gEq_ss, gNe_ss, List.getElem?_cons_zero, List.getElem?_cons_succ, List.set_cons_zero, List.set_cons_succ, List.length_cons, List.length_nil, List.map_cons, List.map_nil, List.cons_append, List.nil_append, List.replicate_succ, List.replicate_zero, List.all_cons, List.all_nil, List.eraseIdx_cons_zero, List.eraseIdx_cons_succ, List.drop_succ_cons, List.drop_zero, List.filterMap_cons, List.filterMap_nil, Option.some.injEq, exists_eq_left', exists_eq_left, exists_eq', exists_eq, Option.join_some, Option.map_some, Option.bind_some, if_true, if_false, true_and, and_true, Bool.true_and, Bool.and_true, Bool.not_true, Bool.not_false, reduceCtorEq, false_and, exists_false, Bool.false_eq_true, OD.d.injEq, OD.l.injEq, HE.o.injEq, HE.al.injEq, List.cons.injEq, PyData.bool.injEq, PyData.int.injEq, PyData.str.injEq, ite_true, ite_false, Nat.reduceSub, Nat.reduceAdd, Nat.reduceLT, Nat.reduceEqDiff, Bool.and_self, Bool.or_true, Bool.true_or, Bool.or_false, Bool.false_or, Bool.false_and, Bool.and_false, eraseL_map, isd_d, er_d, sz_ok, is_int_n, is_int_b, is_int_i, is_int_s, is_int_l, is_int_t, is_int_d, is_bool_n, is_bool_b, is_bool_i, is_bool_s, is_bool_l, is_bool_t, is_bool_d, is_str_n, is_str_b, is_str_i, is_str_s, is_str_l, is_str_t, is_str_d, is_tuple_n, is_tuple_b, is_tuple_i, is_tuple_s, is_tuple_l, is_tuple_t, is_tuple_d, is_list_n, is_list_b, is_list_i, is_list_s, is_list_l, is_list_t, is_list_d, is_dict_n, is_dict_b, is_dict_i, is_dict_s, is_dict_l, is_dict_t, is_dict_d, ic0, ic1, ic2, ic3, ic4, ic5, ic6, ic7, ic8, ic9, ic10, ic11, ic12, ic13, ic14, ic15, ic16, ic17, ic18, ic19, ic20, ic21, noSL_d, nmL_noS, eq_self, decide_true, decide_false, Int.reduceLT, Int.reduceLE, Int.reduceEq, Int.reduceAdd, Int.reduceSub, Int.reduceNeg, Nat.reduceLeDiff, gNe_nil, gEq_nil, nmL_len, nmL_isd, nmL_er, ex_pair, fApp, h]
      exact ⟨o, a, b, _, rfl, ha, hb, hJ⟩
  rintro _ ⟨o, a, b, w, rfl, ha, hb, hJ⟩
  refine seq_by (Ic xs ts most way j (N + 2)) ?_ ?_
  · by_cases h : (way : Int) = 2
    · simp (config := { maxSteps := 4000000 }) only [w_bind, w_ret, w_ok, w_seq, w_if, w_ifE, w_test, w_and, w_or, w_not, w_andV, w_orV, w_notV, w_do, w_rt, w_asg, w_C, w_var, w_args0, w_args1, w_plc, w_own, w_val, w_prim, w_list, w_tup, w_call, w_callIo, w_callK, w_chain, w_for, w_items, w_rng, w_lc, w_meth1, w_setL2, w_stores, w_aug, w_move, w_str, mNx, mRetN, startE, rds, HE.rd, sh1, sh2, dp1, dp2, gAdd, DL.gSub, gLt, gLe, gGt, gGe, gOrd, gIsI, gLen, gIx, gIxAny, gInAny, isDct, gLenAny, enumOf, zipOf, dat, gMax2, gMin2, gAbs, gNeg, gAddI, gTupOf, gListOf, gTupAny, gListAny, gInt, gIsN, gSl0, gSlL, gSlH, gSlice, OD.erase, OD.noS, noSL, OD.shallow, OD.isD, OD.still, allStill, boolOf, aName, aTup, aAll, outs, wipeE, isL, DL.intAt, DL.putAll, allO, allD, itemsOf, rngA, rngB, fw_ok, gEq_ii, gNe_ii, gEq_ss, gNe_ss, List.getElem?_cons_zero, List.getElem?_cons_succ, List.set_cons_zero, List.set_cons_succ, List.length_cons, List.length_nil, List.map_cons, List.map_nil, List.cons_append, List.nil_append, List.replicate_succ, List.replicate_zero, List.all_cons, List.all_nil, List.eraseIdx_cons_zero, List.eraseIdx_cons_succ, List.drop_succ_cons, List.drop_zero, List.filterMap_cons, List.filterMap_nil, Option.some.injEq, exists_eq_left', exists_eq_left, exists_eq', exists_eq, Option.join_some, Option.map_some, Option.bind_some, if_true, if_false, true_and, and_true, Bool.true_and, Bool.and_true, Bool.not_true, Bool.not_false, reduceCtorEq, false_and, exists_false, Bool.false_eq_true, OD.d.injEq, OD.l.injEq, HE.o.injEq, HE.al.injEq, List.cons.injEq, PyData.bool.injEq, PyData.int.injEq, PyData.str.injEq, ite_true, ite_false, Nat.reduceSub, Nat.reduceAdd, Nat.reduceLT, Nat.reduceEqDiff, Bool.and_self, Bool.or_true, Bool.true_or, Bool.or_false, Bool.false_or, Bool.false_and, Bool.and_false, eraseL_map, isd_d, er_d, sz_ok, is_int_n, is_int_b, is_int_i, is_int_s, is_int_l, is_int_t, is_int_d, is_bool_n, is_bool_b, is_bool_i, is_bool_s, is_bool_l, is_bool_t, is_bool_d, is_str_n, is_str_b, is_str_i, is_str_s, is_str_l, is_str_t, is_str_d, is_tuple_n, is_tuple_b, is_tuple_i, is_tuple_s, is_tuple_l, is_tuple_t, is_tuple_d, is_list_n, is_list_b, is_list_i, is_list_s, is_list_l, is_list_t, is_list_d, is_dict_n, is_dict_b, is_dict_i, is_dict_s, is_dict_l, is_dict_t, is_dict_d, ic0, ic1, ic2, ic3, ic4, ic5, ic6, ic7, ic8, ic9, ic10, ic11, ic12, ic13, ic14, ic15, ic16, ic17, ic18, ic19, ic20, ic21, noSL_d, nmL_noS, eq_self, decide_true, decide_false, Int.reduceLT, Int.reduceLE, Int.reduceEq, Int.reduceAdd, Int.reduceSub, Int.reduceNeg, Nat.reduceLeDiff, gNe_nil, gEq_nil, nmL_len, nmL_isd, nmL_er, ex_pair, fApp, h]
      rw [← h]
      exact ⟨o, a, 0, _, rfl, ha, by omega, hJ⟩
    · simp (config := { maxSteps := 4000000 }) only [w_bind, w_ret, w_ok, w_seq, w_if, w_ifE, w_test, w_and, w_or, w_not, w_andV, w_orV, w_notV, w_do, w_rt, w_asg, w_C, w_var, w_args0, w_args1, w_plc, w_own, w_val, w_prim, w_list, w_tup, w_call, w_callIo, w_callK, w_chain, w_for, w_items, w_rng, w_lc, w_meth1, w_setL2, w_stores, w_aug, w_move, w_str, mNx, mRetN, startE, rds, HE.rd, sh1, sh2, dp1, dp2, gAdd, DL.gSub, gLt, gLe, gGt, gGe, gOrd, gIsI, gLen, gIx, gIxAny, gInAny, isDct, gLenAny, enumOf, zipOf, dat, gMax2, gMin2, gAbs, gNeg, gAddI, gTupOf, gListOf, gTupAny, gListAny, gInt, gIsN, gSl0, gSlL, gSlH, gSlice, OD.erase, OD.noS, noSL, OD.shallow, OD.isD, OD.still, allStill, boolOf, aName, aTup, aAll, outs, wipeE, isL, DL.intAt, DL.putAll, allO, allD, itemsOf, rngA, rngB, fw_ok, gEq_ii, gNe_ii, gEq_ss, gNe_ss, List.getElem?_cons_zero, List.getElem?_cons_succ, List.set_cons_zero, List.set_cons_succ, List.length_cons, List.length_nil, List.map_cons, List.map_nil, List.cons_append, List.nil_append, List.replicate_succ, List.replicate_zero, List.all_cons, List.all_nil, List.eraseIdx_cons_zero, List.eraseIdx_cons_succ, List.drop_succ_cons, List.drop_zero, List.filterMap_cons, List.filterMap_nil, Option.some.injEq, exists_eq_left', exists_eq_left, exists_eq', exists_eq, Option.join_some, Option.map_some, Option.bind_some, if_true, if_false, true_and, and_true, Bool.true_and, Bool.and_true, Bool.not_true, Bool.not_false, reduceCtorEq, false_and, exists_false, Bool.false_eq_true, OD.d.injEq, OD.l.injEq, HE.o.injEq, HE.al.injEq, List.cons.injEq, PyData.bool.injEq, PyData.int.injEq, PyData.str.injEq, ite_true, ite_false, Nat.reduceSub, Nat.reduceAdd, Nat.reduceLT, Nat.reduceEqDiff, Bool.and_self, Bool.or_true, Bool.true_or, Bool.or_false, Bool.false_or, Bool.false_and, Bool.and_false, eraseL_map, isd_d, er_d, sz_ok, is_int_n, is_int_b, is_int_i, is_int_s, is_int_l, is_int_t, is_int_d, is_bool_n, is_bool_b, is_bool_i, is_bool_s, is_bool_l, is_bool_t, is_bool_d, is_str_n, is_str_b, is_str_i, is_str_s, is_str_l, is_str_t, is_str_d, is_tuple_n, is_tuple_b, is_tuple_i, is_tuple_s, is_tuple_l, is_tuple_t, is_tuple_d, is_list_n, is_list_b, is_list_i, is_list_s, is_list_l, is_list_t, is_list_d, is_dict_n, is_dict_b, is_dict_i, is_dict_s, is_dict_l, is_dict_t, is_dict_d, ic0, ic1, ic2, ic3, ic4, ic5, ic6, ic7, ic8, ic9, ic10, ic11, ic12, ic13, ic14, ic15, ic16, ic17, ic18, ic19, ic20, ic21, noSL_d, nmL_noS, eq_self, decide_true, decide_false, Int.reduceLT, Int.reduceLE, Int.reduceEq, Int.reduceAdd, Int.reduceSub, Int.reduceNeg, Nat.reduceLeDiff, gNe_nil, gEq_nil, nmL_len, nmL_isd, nmL_er, ex_pair, fApp, h]
      exact ⟨o, a, b, _, rfl, ha, hb, hJ⟩
  rintro _ ⟨o, a, b, w, rfl, ha, hb, hJ⟩
  refine seq_by (Ic xs ts most way j (N + 2)) ?_ ?_
  · by_cases h : (way : Int) = 3
    · simp (config := { maxSteps := 4000000 }) only [w_bind, w_ret, w_ok, w_seq, w_if, w_ifE, w_test, w_and, w_or, w_not, w_andV, w_orV, w_notV, w_do, w_rt, w_asg, w_C, w_var, w_args0, w_args1, w_plc, w_own, w_val, w_prim, w_list, w_tup, w_call, w_callIo, w_callK, w_chain, w_for, w_items, w_rng, w_lc, w_meth1, w_setL2, w_stores, w_aug, w_move, w_str, mNx, mRetN, startE, rds, HE.rd, sh1, sh2, dp1, dp2, gAdd, DL.gSub, gLt, gLe, gGt, gGe, gOrd, gIsI, gLen, gIx, gIxAny, gInAny, isDct, gLenAny, enumOf, zipOf, dat, gMax2, gMin2, gAbs, gNeg, gAddI, gTupOf, gListOf, gTupAny, gListAny, gInt, gIsN, gSl0, gSlL, gSlH, gSlice, OD.erase, OD.noS, noSL, OD.shallow, OD.isD, OD.still, allStill, boolOf, aName, aTup, aAll, outs, wipeE, isL, DL.intAt, DL.putAll, allO, allD, itemsOf, rngA, rngB, fw_ok, gEq_ii, gNe_ii, gEq_ss, gNe_ss, List.getElem?_cons_zero, List.getElem?_cons_succ, List.set_cons_zero, List.set_cons_succ, List.length_cons, List.length_nil, List.map_cons, List.map_nil, List.cons_append, List.nil_append, List.replicate_succ, List.replicate_zero, List.all_cons, List.all_nil, List.eraseIdx_cons_zero, List.eraseIdx_cons_succ, List.drop_succ_cons, List.drop_zero, List.filterMap_cons, List.filterMap_nil, Option.some.injEq, exists_eq_left', exists_eq_left, exists_eq', exists_eq, Option.join_some, Option.map_some, Option.bind_some, if_true, if_false, true_and, and_true, Bool.true_and, Bool.and_true, Bool.not_true, Bool.not_false, reduceCtorEq, false_and, exists_false, Bool.false_eq_true, OD.d.injEq, OD.l.injEq, HE.o.injEq, HE.al.injEq, List.cons.injEq, PyData.bool.injEq, PyData.int.injEq, PyData.str.injEq, ite_true, ite_false, Nat.reduceSub, Nat.reduceAdd, Nat.reduceLT, Nat.reduceEqDiff, Bool.and_self, Bool.or_true, Bool.true_or, Bool.or_false, Bool.false_or, Bool.false_and, Bool.and_false, eraseL_map, isd_d, er_d, sz_ok, is_int_n, is_int_b, is_int_i, is_int_s, is_int_l, is_int_t, is_int_d, is_bool_n, is_bool_b, is_bool_i, is_bool_s, is_bool_l, is_bool_t, is_bool_d, is_str_n, is_str_b, is_str_i, is_str_s, is_str_l, is_str_t, is_str_d, is_tuple_n, is_tuple_b, is_tuple_i, is_tuple_s, is_tuple_l, is_tuple_t, is_tuple_d, is_list_n, is_list_b, is_list_i, is_list_s, is_list_l, is_list_t, is_list_d, is_dict_n, is_dict_b, is_dict_i, is_dict_s, is_dict_l, is_dict_t, is_dict_d, ic0, ic1, ic2, ic3, ic4, ic5, ic6, ic7, ic8, ic9, ic10, ic11, ic12, ic13, ic14, ic15, ic16, ic17, ic18, ic19, ic20, ic21, noSL_d, nmL_noS, eq_self, decide_true, decide_false, Int.reduceLT, Int.reduceLE, Int.reduceEq, Int.reduceAdd, Int.reduceSub, Int.reduceNeg, Nat.reduceLeDiff, gNe_nil, gEq_nil, nmL_len, nmL_isd, nmL_er, ex_pair, fApp, h]
      rw [← h]
      exact ⟨o, 0, b, _, rfl, by omega, hb, hJ⟩
    · simp (config := { maxSteps := 4000000 }) only [w_bind, w_ret, w_ok, w_seq, w_if, w_ifE, w_test, w_and, w_or, w_not, w_andV, w_orV, w_notV, w_do, w_rt, w_asg, w_C, w_var, w_args0, w_args1, w_plc, w_own, w_val, w_prim, w_list, w_tup, w_call, w_callIo, w_callK, w_chain, w_for, w_items, w_rng, w_lc, w_meth1, w_setL2, w_stores, w_aug, w_move, w_str, mNx, mRetN, startE, rds, HE.rd, sh1, sh2, dp1, dp2, gAdd, DL.gSub, gLt, gLe, gGt, gGe, gOrd, gIsI, gLen, gIx, gIxAny, gInAny, isDct, gLenAny, enumOf, zipOf, dat, gMax2, gMin2, gAbs, gNeg, gAddI, gTupOf, gListOf, gTupAny, gListAny, gInt, gIsN, gSl0, gSlL, gSlH, gSlice, OD.erase, OD.noS, noSL, OD.shallow, OD.isD, OD.still, allStill, boolOf, aName, aTup, aAll, outs, wipeE, isL, DL.intAt, DL.putAll, allO, allD, itemsOf, rngA, rngB, fw_ok, gEq_ii, gNe_ii, gEq_ss, gNe_ss, List.getElem?_cons_zero, List.getElem?_cons_succ, List.set_cons_zero, List.set_cons_succ, List.length_cons, List.length_nil, List.map_cons, List.map_nil, List.cons_append, List.nil_append, List.replicate_succ, List.replicate_zero, List.all_cons, List.all_nil, List.eraseIdx_cons_zero, List.eraseIdx_cons_succ, List.drop_succ_cons, List.drop_zero, List.filterMap_cons, List.filterMap_nil, Option.some.injEq, exists_eq_left', exists_eq_left, exists_eq', exists_eq, Option.join_some, Option.map_some, Option.bind_some, if_true, if_false, true_and, and_true, Bool.true_and, Bool.and_true, Bool.not_true, Bool.not_false, reduceCtorEq, false_and, exists_false, Bool.false_eq_true, OD.d.injEq, OD.l.injEq, HE.o.injEq, HE.al.injEq, List.cons.injEq, PyData.bool.injEq, PyData.int.injEq, PyData.str.injEq, ite_true, ite_false, Nat.reduceSub, Nat.reduceAdd, Nat.reduceLT, Nat.reduceEqDiff, Bool.and_self, Bool.or_true, Bool.true_or, Bool.or_false, Bool.false_or, Bool.false_and, Bool.and_false, eraseL_map, isd_d, er_d, sz_ok, is_int_n, is_int_b, is_int_i, is_int_s, is_int_l, is_int_t, is_int_d, is_bool_n, is_bool_b, is_bool_i, is_bool_s, is_bool_l, is_bool_t, is_bool_d, is_str_n, is_str_b, is_str_i, is_str_s, is_str_l, is_str_t, is_str_d, is_tuple_n, is_tuple_b, is_tuple_i, is_tuple_s, is_tuple_l, is_tuple_t, is_tuple_d, is_list_n, is_list_b, is_list_i, is_list_s, is_list_l, is_list_t, is_list_d, is_dict_n, is_dict_b, is_dict_i, is_dict_s, is_dict_l, is_dict_t, is_dict_d, ic0, ic1, ic2, ic3, ic4, ic5, ic6, ic7, ic8, ic9, ic10, ic11, ic12, ic13, ic14, ic15, ic16, ic17, ic18, ic19, ic20, ic21, noSL_d, nmL_noS, eq_self, decide_true, decide_false, Int.reduceLT, Int.reduceLE, Int.reduceEq, Int.reduceAdd, Int.reduceSub, Int.reduceNeg, Nat.reduceLeDiff, gNe_nil, gEq_nil, nmL_len, nmL_isd, nmL_er, ex_pair, fApp, h]
      exact ⟨o, a, b, _, rfl, ha, hb, hJ⟩
  rintro _ ⟨o, a, b, w, rfl, ha, hb, hJ⟩
  refine seq_by (Ic xs ts most way j (N + 4)) ?_ ?_
  · by_cases h : (way : Int) = 4
    · simp (config := { maxSteps := 4000000 }) only [w_bind, w_ret, w_ok, w_seq, w_if, w_ifE, w_test, w_and, w_or, w_not, w_andV, w_orV, w_notV, w_do, w_rt, w_asg, w_C, w_var, w_args0, w_args1, w_plc, w_own, w_val, w_prim, w_list, w_tup, w_call, w_callIo, w_callK, w_chain, w_for, w_items, w_rng, w_lc, w_meth1, w_setL2, w_stores, w_aug, w_move, w_str, mNx, mRetN, startE, rds, HE.rd, sh1, sh2, dp1, dp2, gAdd, DL.gSub, gLt, gLe, gGt, gGe, gOrd, gIsI, gLen, gIx, gIxAny, gInAny, isDct, gLenAny, enumOf, zipOf, dat, gMax2, gMin2, gAbs, gNeg, gAddI, gTupOf, gListOf, gTupAny, gListAny, gInt, gIsN, gSl0, gSlL, gSlH, gSlice, OD.erase, OD.noS, noSL, OD.shallow, OD.isD, OD.still, allStill, boolOf, aName, aTup, aAll, outs, wipeE, isL, DL.intAt, DL.putAll, allO, allD, itemsOf, rngA, rngB, fw_ok, gEq_ii, gNe_ii, gEq_ss, gNe_ss, List.getElem?_cons_zero, List.getElem?_cons_succ, List.set_cons_zero, List.set_cons_succ, List.length_cons, List.length_nil, List.map_cons, List.map_nil, List.cons_append, List.nil_append, List.replicate_succ, List.replicate_zero, List.all_cons, List.all_nil, List.eraseIdx_cons_zero, List.eraseIdx_cons_succ, List.drop_succ_cons, List.drop_zero, List.filterMap_cons, List.filterMap_nil, Option.some.injEq, exists_eq_left', exists_eq_left, exists_eq', exists_eq, Option.join_some, Option.map_some, Option.bind_some, if_true, if_false, true_and, and_true, Bool.true_and, Bool.and_true, Bool.not_true, Bool.not_false, reduceCtorEq, false_and, exists_false, Bool.false_eq_true, OD.d.injEq, OD.l.injEq, HE.o.injEq, HE.al.injEq, List.cons.injEq, PyData.bool.injEq, PyData.int.injEq, PyData.str.injEq, ite_true, ite_false, Nat.reduceSub, Nat.reduceAdd, Nat.reduceLT, Nat.reduceEqDiff, Bool.and_self, Bool.or_true, Bool.true_or, Bool.or_false, Bool.false_or, Bool.false_and, Bool.and_false, eraseL_map, isd_d, er_d, sz_ok, is_int_n, is_int_b, is_int_i, is_int_s, is_int_l, is_int_t, is_int_d, is_bool_n, is_bool_b, is_bool_i, is_bool_s, is_bool_l, is_bool_t, is_bool_d, is_str_n, is_str_b, is_str_i, is_str_s, is_str_l, is_str_t, is_str_d, is_tuple_n, is_tuple_b, is_tuple_i, is_tuple_s, is_tuple_l, is_tuple_t, is_tuple_d, is_list_n, is_list_b, is_list_i, is_list_s, is_list_l, is_list_t, is_list_d, is_dict_n, is_dict_b, is_dict_i, is_dict_s, is_dict_l, is_dict_t, is_dict_d, ic0, ic1, ic2, ic3, ic4, ic5, ic6, ic7, ic8, ic9, ic10, ic11, ic12, ic13, ic14, ic15, ic16, ic17, ic18, ic19, ic20, ic21, noSL_d, nmL_noS, eq_self, decide_true, decide_false, Int.reduceLT, Int.reduceLE, Int.reduceEq, Int.reduceAdd, Int.reduceSub, Int.reduceNeg, Nat.reduceLeDiff, gNe_nil, gEq_nil, nmL_len, nmL_isd, nmL_er, ex_pair, fApp, h]
      have hz : (if (3 : Int) < (xs.length : Int) then 3 else (xs.length : Int)) = ((if 3 < xs.length then 3 else xs.length : Nat) : Int) := by split <;> split <;> omega
      refine (v_dip hJ (if 3 < xs.length then 3 else xs.length) hz (by split <;> omega) (by split <;> omega) (by omega)).imp ?_ (fun _ _ z => z.elim)
      rintro _ _ ⟨i1, o1, rfl, rfl, h1, hJ1⟩
      simp (config := { maxSteps := 4000000 }) only [w_bind, w_ret, w_ok, w_seq, w_if, w_ifE, w_test, w_and, w_or, w_not, w_andV, w_orV, w_notV, w_do, w_rt, w_asg, w_C, w_var, w_args0, w_args1, w_plc, w_own, w_val, w_prim, w_list, w_tup, w_call, w_callIo, w_callK, w_chain, w_for, w_items, w_rng, w_lc, w_meth1, w_setL2, w_stores, w_aug, w_move, w_str, mNx, mRetN, startE, rds, HE.rd, sh1, sh2, dp1, dp2, gAdd, DL.gSub, gLt, gLe, gGt, gGe, gOrd, gIsI, gLen, gIx, gIxAny, gInAny, isDct, gLenAny, enumOf, zipOf, dat, gMax2, gMin2, gAbs, gNeg, gAddI, gTupOf, gListOf, gTupAny, gListAny, gInt, gIsN, gSl0, gSlL, gSlH, gSlice, OD.erase, OD.noS, noSL, OD.shallow, OD.isD, OD.still, allStill, boolOf, aName, aTup, aAll, outs, wipeE, isL, DL.intAt, DL.putAll, allO, allD, itemsOf, rngA, rngB, fw_ok, gEq_ii, gNe_ii, gEq_ss, gNe_ss, List.getElem?_cons_zero, List.getElem?_cons_succ, List.set_cons_zero, List.set_cons_succ, List.length_cons, List.length_nil, List.map_cons, List.map_nil, List.cons_append, List.nil_append, List.replicate_succ, List.replicate_zero, List.all_cons, List.all_nil, List.eraseIdx_cons_zero, List.eraseIdx_cons_succ, List.drop_succ_cons, List.drop_zero, List.filterMap_cons, List.filterMap_nil, Option.some.injEq, exists_eq_left', exists_eq_left, exists_eq', exists_eq, Option.join_some, Option.map_some, Option.bind_some, if_true, if_false, true_and, and_true, Bool.true_and, Bool.and_true, Bool.not_true, Bool.not_false, reduceCtorEq, false_and, exists_false, Bool.false_eq_true, OD.d.injEq, OD.l.injEq, HE.o.injEq, HE.al.injEq, List.cons.injEq, PyData.bool.injEq, PyData.int.injEq, PyData.str.injEq, ite_true, ite_false, Nat.reduceSub, Nat.reduceAdd, Nat.reduceLT, Nat.reduceEqDiff, Bool.and_self, Bool.or_true, Bool.true_or, Bool.or_false, Bool.false_or, Bool.false_and, Bool.and_false, eraseL_map, isd_d, er_d, sz_ok, is_int_n, is_int_b, is_int_i, is_int_s, is_int_l, is_int_t, is_int_d, is_bool_n, is_bool_b, is_bool_i, is_bool_s, is_bool_l, is_bool_t, is_bool_d, is_str_n, is_str_b, is_str_i, is_str_s, is_str_l, is_str_t, is_str_d, is_tuple_n, is_tuple_b, is_tuple_i, is_tuple_s, is_tuple_l, is_tuple_t, is_tuple_d, is_list_n, is_list_b, is_list_i, is_list_s, is_list_l, is_list_t, is_list_d, is_dict_n, is_dict_b, is_dict_i, is_dict_s, is_dict_l, is_dict_t, is_dict_d, ic0, ic1, ic2, ic3, ic4, ic5, ic6, ic7, ic8, ic9, ic10, ic11, ic12, ic13, ic14, ic15, ic16, ic17, ic18, ic19, ic20, ic21, noSL_d, nmL_noS, eq_self, decide_true, decide_false, Int.reduceLT, Int.reduceLE, Int.reduceEq, Int.reduceAdd, Int.reduceSub, Int.reduceNeg, Nat.reduceLeDiff, gNe_nil, gEq_nil, nmL_len, nmL_isd, nmL_er, ex_pair, fApp]
      refine (v_dip hJ1 (if 3 < xs.length then 3 else xs.length) hz (by split <;> omega) (by split <;> omega) (by omega)).imp ?_ (fun _ _ z => z.elim)
      rintro _ _ ⟨i2, o2, rfl, rfl, h2, hJ2⟩
      simp (config := { maxSteps := 4000000 }) only [w_bind, w_ret, w_ok, w_seq, w_if, w_ifE, w_test, w_and, w_or, w_not, w_andV, w_orV, w_notV, w_do, w_rt, w_asg, w_C, w_var, w_args0, w_args1, w_plc, w_own, w_val, w_prim, w_list, w_tup, w_call, w_callIo, w_callK, w_chain, w_for, w_items, w_rng, w_lc, w_meth1, w_setL2, w_stores, w_aug, w_move, w_str, mNx, mRetN, startE, rds, HE.rd, sh1, sh2, dp1, dp2, gAdd, DL.gSub, gLt, gLe, gGt, gGe, gOrd, gIsI, gLen, gIx, gIxAny, gInAny, isDct, gLenAny, enumOf, zipOf, dat, gMax2, gMin2, gAbs, gNeg, gAddI, gTupOf, gListOf, gTupAny, gListAny, gInt, gIsN, gSl0, gSlL, gSlH, gSlice, OD.erase, OD.noS, noSL, OD.shallow, OD.isD, OD.still, allStill, boolOf, aName, aTup, aAll, outs, wipeE, isL, DL.intAt, DL.putAll, allO, allD, itemsOf, rngA, rngB, fw_ok, gEq_ii, gNe_ii, gEq_ss, gNe_ss, List.getElem?_cons_zero, List.getElem?_cons_succ, List.set_cons_zero, List.set_cons_succ, List.length_cons, List.length_nil, List.map_cons, List.map_nil, List.cons_append, List.nil_append, List.replicate_succ, List.replicate_zero, List.all_cons, List.all_nil, List.eraseIdx_cons_zero, List.eraseIdx_cons_succ, List.drop_succ_cons, List.drop_zero, List.filterMap_cons, List.filterMap_nil, Option.some.injEq, exists_eq_left', exists_eq_left, exists_eq', exists_eq, Option.join_some, Option.map_some, Option.bind_some, if_true, if_false, true_and, and_true, Bool.true_and, Bool.and_true, Bool.not_true, Bool.not_false, reduceCtorEq, false_and, exists_false, Bool.false_eq_true, OD.d.injEq, OD.l.injEq, HE.o.injEq, HE.al.injEq, List.cons.injEq, PyData.bool.injEq, PyData.int.injEq, PyData.str.injEq, ite_true, ite_false, Nat.reduceSub, Nat.reduceAdd, Nat.reduceLT, Nat.reduceEqDiff, Bool.and_self, Bool.or_true, Bool.true_or, Bool.or_false, Bool.false_or, Bool.false_and, Bool.and_false, eraseL_map, isd_d, er_d, sz_ok, is_int_n, is_int_b, is_int_i, is_int_s, is_int_l, is_int_t, is_int_d, is_bool_n, is_bool_b, is_bool_i, is_bool_s, is_bool_l, is_bool_t, is_bool_d, is_str_n, is_str_b, is_str_i, is_str_s, is_str_l, is_str_t, is_str_d, is_tuple_n, is_tuple_b, is_tuple_i, is_tuple_s, is_tuple_l, is_tuple_t, is_tuple_d, is_list_n, is_list_b, is_list_i, is_list_s, is_list_l, is_list_t, is_list_d, is_dict_n, is_dict_b, is_dict_i, is_dict_s, is_dict_l, is_dict_t, is_dict_d, ic0, ic1, ic2, ic3, ic4, ic5, ic6, ic7, ic8, ic9, ic10, ic11, ic12, ic13, ic14, ic15, ic16, ic17, ic18, ic19, ic20, ic21, noSL_d, nmL_noS, eq_self, decide_true, decide_false, Int.reduceLT, Int.reduceLE, Int.reduceEq, Int.reduceAdd, Int.reduceSub, Int.reduceNeg, Nat.reduceLeDiff, gNe_nil, gEq_nil, nmL_len, nmL_isd, nmL_er, ex_pair, fApp]
      rw [← h]
      exact ⟨o2, i1, i2, _, rfl, by split at h1 <;> omega, by split at h2 <;> omega, hJ2⟩
    · simp (config := { maxSteps := 4000000 }) only [w_bind, w_ret, w_ok, w_seq, w_if, w_ifE, w_test, w_and, w_or, w_not, w_andV, w_orV, w_notV, w_do, w_rt, w_asg, w_C, w_var, w_args0, w_args1, w_plc, w_own, w_val, w_prim, w_list, w_tup, w_call, w_callIo, w_callK, w_chain, w_for, w_items, w_rng, w_lc, w_meth1, w_setL2, w_stores, w_aug, w_move, w_str, mNx, mRetN, startE, rds, HE.rd, sh1, sh2, dp1, dp2, gAdd, DL.gSub, gLt, gLe, gGt, gGe, gOrd, gIsI, gLen, gIx, gIxAny, gInAny, isDct, gLenAny, enumOf, zipOf, dat, gMax2, gMin2, gAbs, gNeg, gAddI, gTupOf, gListOf, gTupAny, gListAny, gInt, gIsN, gSl0, gSlL, gSlH, gSlice, OD.erase, OD.noS, noSL, OD.shallow, OD.isD, OD.still, allStill, boolOf, aName, aTup, aAll, outs, wipeE, isL, DL.intAt, DL.putAll, allO, allD, itemsOf, rngA, rngB, fw_ok, gEq_ii, gNe_ii, gEq_ss, gNe_ss, List.getElem?_cons_zero, List.getElem?_cons_succ, List.set_cons_zero, List.set_cons_succ, List.length_cons, List.length_nil, List.map_cons, List.map_nil, List.cons_append, List.nil_append, List.replicate_succ, List.replicate_zero, List.all_cons, List.all_nil, List.eraseIdx_cons_zero, List.eraseIdx_cons_succ, List.drop_succ_cons, List.drop_zero, List.filterMap_cons, List.filterMap_nil, Option.some.injEq, exists_eq_left', exists_eq_left, exists_eq', exists_eq, Option.join_some, Option.map_some, Option.bind_some, if_true, if_false, true_and, and_true, Bool.true_and, Bool.and_true, Bool.not_true, Bool.not_false, reduceCtorEq, false_and, exists_false, Bool.false_eq_true, OD.d.injEq, OD.l.injEq, HE.o.injEq, HE.al.injEq, List.cons.injEq, PyData.bool.injEq, PyData.int.injEq, PyData.str.injEq, ite_true, ite_false, Nat.reduceSub, Nat.reduceAdd, Nat.reduceLT, Nat.reduceEqDiff, Bool.and_self, Bool.or_true, Bool.true_or, Bool.or_false, Bool.false_or, Bool.false_and, Bool.and_false, eraseL_map, isd_d, er_d, sz_ok, is_int_n, is_int_b, is_int_i, is_int_s, is_int_l, is_int_t, is_int_d, is_bool_n, is_bool_b, is_bool_i, is_bool_s, is_bool_l, is_bool_t, is_bool_d, is_str_n, is_str_b, is_str_i, is_str_s, is_str_l, is_str_t, is_str_d, is_tuple_n, is_tuple_b, is_tuple_i, is_tuple_s, is_tuple_l, is_tuple_t, is_tuple_d, is_list_n, is_list_b, is_list_i, is_list_s, is_list_l, is_list_t, is_list_d, is_dict_n, is_dict_b, is_dict_i, is_dict_s, is_dict_l, is_dict_t, is_dict_d, ic0, ic1, ic2, ic3, ic4, ic5, ic6, ic7, ic8, ic9, ic10, ic11, ic12, ic13, ic14, ic15, ic16, ic17, ic18, ic19, ic20, ic21, noSL_d, nmL_noS, eq_self, decide_true, decide_false, Int.reduceLT, Int.reduceLE, Int.reduceEq, Int.reduceAdd, Int.reduceSub, Int.reduceNeg, Nat.reduceLeDiff, gNe_nil, gEq_nil, nmL_len, nmL_isd, nmL_er, ex_pair, fApp, h]
      exact ⟨o, a, b, _, rfl, ha, hb, hJ.mono (by omega)⟩
  rintro _ ⟨o, a, b, w, rfl, ha, hb, hJ⟩
  refine seq_by (Ic xs ts most way j (N + 4)) ?_ ?_
  · by_cases h : (b : Int) = (a : Int)
    · simp (config := { maxSteps := 4000000 }) only [w_bind, w_ret, w_ok, w_seq, w_if, w_ifE, w_test, w_and, w_or, w_not, w_andV, w_orV, w_notV, w_do, w_rt, w_asg, w_C, w_var, w_args0, w_args1, w_plc, w_own, w_val, w_prim, w_list, w_tup, w_call, w_callIo, w_callK, w_chain, w_for, w_items, w_rng, w_lc, w_meth1, w_setL2, w_stores, w_aug, w_move, w_str, mNx, mRetN, startE, rds, HE.rd, sh1, sh2, dp1, dp2, gAdd, DL.gSub, gLt, gLe, gGt, gGe, gOrd, gIsI, gLen, gIx, gIxAny, gInAny, isDct, gLenAny, enumOf, zipOf, dat, gMax2, gMin2, gAbs, gNeg, gAddI, gTupOf, gListOf, gTupAny, gListAny, gInt, gIsN, gSl0, gSlL, gSlH, gSlice, OD.erase, OD.noS, noSL, OD.shallow, OD.isD, OD.still, allStill, boolOf, aName, aTup, aAll, outs, wipeE, isL, DL.intAt, DL.putAll, allO, allD, itemsOf, rngA, rngB, fw_ok, gEq_ii, gNe_ii, gEq_ss, gNe_ss, List.getElem?_cons_zero, List.getElem?_cons_succ, List.set_cons_zero, List.set_cons_succ, List.length_cons, List.length_nil, List.map_cons, List.map_nil, List.cons_append, List.nil_append, List.replicate_succ, List.replicate_zero, List.all_cons, List.all_nil, List.eraseIdx_cons_zero, List.eraseIdx_cons_succ, List.drop_succ_cons, List.drop_zero, List.filterMap_cons, List.filterMap_nil, Option.some.injEq, exists_eq_left', exists_eq_left, exists_eq', exists_eq, Option.join_some, Option.map_some, Option.bind_some, if_true, if_false, true_and, and_true, Bool.true_and, Bool.and_true, Bool.not_true, Bool.not_false, reduceCtorEq, false_and, exists_false, Bool.false_eq_true, OD.d.injEq, OD.l.injEq, HE.o.injEq, HE.al.injEq, List.cons.injEq, PyData.bool.injEq, PyData.int.injEq, PyData.str.injEq, ite_true, ite_false, Nat.reduceSub, Nat.reduceAdd, Nat.reduceLT, Nat.reduceEqDiff, Bool.and_self, Bool.or_true, Bool.true_or, Bool.or_false, Bool.false_or, Bool.false_and, Bool.and_false, eraseL_map, isd_d, er_d, sz_ok, is_int_n, is_int_b, is_int_i, is_int_s, is_int_l, is_int_t, is_int_d, is_bool_n, is_bool_b, is_bool_i, is_bool_s, is_bool_l, is_bool_t, is_bool_d, is_str_n, is_str_b, is_str_i, is_str_s, is_str_l, is_str_t, is_str_d, is_tuple_n, is_tuple_b, is_tuple_i, is_tuple_s, is_tuple_l, is_tuple_t, is_tuple_d, is_list_n, is_list_b, is_list_i, is_list_s, is_list_l, is_list_t, is_list_d, is_dict_n, is_dict_b, is_dict_i, is_dict_s, is_dict_l, is_dict_t, is_dict_d, ic0, ic1, ic2, ic3, ic4, ic5, ic6, ic7, ic8, ic9, ic10, ic11, ic12, ic13, ic14, ic15, ic16, ic17, ic18, ic19, ic20, ic21, noSL_d, nmL_noS, eq_self, decide_true, decide_false, Int.reduceLT, Int.reduceLE, Int.reduceEq, Int.reduceAdd, Int.reduceSub, Int.reduceNeg, Nat.reduceLeDiff, gNe_nil, gEq_nil, nmL_len, nmL_isd, nmL_er, ex_pair, fApp, h, dn]
      rw [mod_nat]
      exact ⟨o, a, _, _, rfl, ha, Nat.mod_lt _ (by omega), hJ⟩
    · simp (config := { maxSteps := 4000000 }) only [w_bind, w_ret, w_ok, w_seq, w_if, w_ifE, w_test, w_and, w_or, w_not, w_andV, w_orV, w_notV, w_do, w_rt, w_asg, w_C, w_var, w_args0, w_args1, w_plc, w_own, w_val, w_prim, w_list, w_tup, w_call, w_callIo, w_callK, w_chain, w_for, w_items, w_rng, w_lc, w_meth1, w_setL2, w_stores, w_aug, w_move, w_str, mNx, mRetN, startE, rds, HE.rd, sh1, sh2, dp1, dp2, gAdd, DL.gSub, gLt, gLe, gGt, gGe, gOrd, gIsI, gLen, gIx, gIxAny, gInAny, isDct, gLenAny, enumOf, zipOf, dat, gMax2, gMin2, gAbs, gNeg, gAddI, gTupOf, gListOf, gTupAny, gListAny, gInt, gIsN, gSl0, gSlL, gSlH, gSlice, OD.erase, OD.noS, noSL, OD.shallow, OD.isD, OD.still, allStill, boolOf, aName, aTup, aAll, outs, wipeE, isL, DL.intAt, DL.putAll, allO, allD, itemsOf, rngA, rngB, fw_ok, gEq_ii, gNe_ii, gEq_ss, gNe_ss, List.getElem?_cons_zero, List.getElem?_cons_succ, List.set_cons_zero, List.set_cons_succ, List.length_cons, List.length_nil, List.map_cons, List.map_nil, List.cons_append, List.nil_append, List.replicate_succ, List.replicate_zero, List.all_cons, List.all_nil, List.eraseIdx_cons_zero, List.eraseIdx_cons_succ, List.drop_succ_cons, List.drop_zero, List.filterMap_cons, List.filterMap_nil, Option.some.injEq, exists_eq_left', exists_eq_left, exists_eq', exists_eq, Option.join_some, Option.map_some, Option.bind_some, if_true, if_false, true_and, and_true, Bool.true_and, Bool.and_true, Bool.not_true, Bool.not_false, reduceCtorEq, false_and, exists_false, Bool.false_eq_true, OD.d.injEq, OD.l.injEq, HE.o.injEq, HE.al.injEq, List.cons.injEq, PyData.bool.injEq, PyData.int.injEq, PyData.str.injEq, ite_true, ite_false, Nat.reduceSub, Nat.reduceAdd, Nat.reduceLT, Nat.reduceEqDiff, Bool.and_self, Bool.or_true, Bool.true_or, Bool.or_false, Bool.false_or, Bool.false_and, Bool.and_false, eraseL_map, isd_d, er_d, sz_ok, is_int_n, is_int_b, is_int_i, is_int_s, is_int_l, is_int_t, is_int_d, is_bool_n, is_bool_b, is_bool_i, is_bool_s, is_bool_l, is_bool_t, is_bool_d, is_str_n, is_str_b, is_str_i, is_str_s, is_str_l, is_str_t, is_str_d, is_tuple_n, is_tuple_b, is_tuple_i, is_tuple_s, is_tuple_l, is_tuple_t, is_tuple_d, is_list_n, is_list_b, is_list_i, is_list_s, is_list_l, is_list_t, is_list_d, is_dict_n, is_dict_b, is_dict_i, is_dict_s, is_dict_l, is_dict_t, is_dict_d, ic0, ic1, ic2, ic3, ic4, ic5, ic6, ic7, ic8, ic9, ic10, ic11, ic12, ic13, ic14, ic15, ic16, ic17, ic18, ic19, ic20, ic21, noSL_d, nmL_noS, eq_self, decide_true, decide_false, Int.reduceLT, Int.reduceLE, Int.reduceEq, Int.reduceAdd, Int.reduceSub, Int.reduceNeg, Nat.reduceLeDiff, gNe_nil, gEq_nil, nmL_len, nmL_isd, nmL_er, ex_pair, fApp, h]
      exact ⟨o, a, b, _, rfl, ha, hb, hJ⟩
  rintro _ ⟨o, a, b, w, rfl, ha, hb, hJ⟩
  have d5 : ∀ x : Int, gMod (.int x) (.int 5) = some (.d (.int (x % 5))) := fun x => gMod_pos (by decide)
  have d3 : ∀ x : Int, gMod (.int x) (.int 3) = some (.d (.int (x % 3))) := fun x => gMod_pos (by decide)
  have m3 : (way : Int) % 3 = ((way % 3 : Nat) : Int) := by omega
  refine seq_by (fun e => ∃ w : Str, sOk 8 w ∧ ∃ o, e = [some o, some (.d (.tuple (xs.map .str))), some (.d (.int (most : Int))), some (.d (.int (xs.length : Int))), some (.d (.int (way : Int))), some (.l (ts.map .d)), some (.d (.int (j : Int))), some (.d (.int (a : Int))), some (.d (.int (b : Int))), some (.d (.str w))] ∧ Jr (N + 5) o) ?_ ?_
  · simp (config := { maxSteps := 4000000 }) only [w_bind, w_ret, w_ok, w_seq, w_if, w_ifE, w_test, w_and, w_or, w_not, w_andV, w_orV, w_notV, w_do, w_rt, w_asg, w_C, w_var, w_args0, w_args1, w_plc, w_own, w_val, w_prim, w_list, w_tup, w_call, w_callIo, w_callK, w_chain, w_for, w_items, w_rng, w_lc, w_meth1, w_setL2, w_stores, w_aug, w_move, w_str, mNx, mRetN, startE, rds, HE.rd, sh1, sh2, dp1, dp2, gAdd, DL.gSub, gLt, gLe, gGt, gGe, gOrd, gIsI, gLen, gIx, gIxAny, gInAny, isDct, gLenAny, enumOf, zipOf, dat, gMax2, gMin2, gAbs, gNeg, gAddI, gTupOf, gListOf, gTupAny, gListAny, gInt, gIsN, gSl0, gSlL, gSlH, gSlice, OD.erase, OD.noS, noSL, OD.shallow, OD.isD, OD.still, allStill, boolOf, aName, aTup, aAll, outs, wipeE, isL, DL.intAt, DL.putAll, allO, allD, itemsOf, rngA, rngB, fw_ok, gEq_ii, gNe_ii, gEq_ss, gNe_ss, List.getElem?_cons_zero, List.getElem?_cons_succ, List.set_cons_zero, List.set_cons_succ, List.length_cons, List.length_nil, List.map_cons, List.map_nil, List.cons_append, List.nil_append, List.replicate_succ, List.replicate_zero, List.all_cons, List.all_nil, List.eraseIdx_cons_zero, List.eraseIdx_cons_succ, List.drop_succ_cons, List.drop_zero, List.filterMap_cons, List.filterMap_nil, Option.some.injEq, exists_eq_left', exists_eq_left, exists_eq', exists_eq, Option.join_some, Option.map_some, Option.bind_some, if_true, if_false, true_and, and_true, Bool.true_and, Bool.and_true, Bool.not_true, Bool.not_false, reduceCtorEq, false_and, exists_false, Bool.false_eq_true, OD.d.injEq, OD.l.injEq, HE.o.injEq, HE.al.injEq, List.cons.injEq, PyData.bool.injEq, PyData.int.injEq, PyData.str.injEq, ite_true, ite_false, Nat.reduceSub, Nat.reduceAdd, Nat.reduceLT, Nat.reduceEqDiff, Bool.and_self, Bool.or_true, Bool.true_or, Bool.or_false, Bool.false_or, Bool.false_and, Bool.and_false, eraseL_map, isd_d, er_d, sz_ok, is_int_n, is_int_b, is_int_i, is_int_s, is_int_l, is_int_t, is_int_d, is_bool_n, is_bool_b, is_bool_i, is_bool_s, is_bool_l, is_bool_t, is_bool_d, is_str_n, is_str_b, is_str_i, is_str_s, is_str_l, is_str_t, is_str_d, is_tuple_n, is_tuple_b, is_tuple_i, is_tuple_s, is_tuple_l, is_tuple_t, is_tuple_d, is_list_n, is_list_b, is_list_i, is_list_s, is_list_l, is_list_t, is_list_d, is_dict_n, is_dict_b, is_dict_i, is_dict_s, is_dict_l, is_dict_t, is_dict_d, ic0, ic1, ic2, ic3, ic4, ic5, ic6, ic7, ic8, ic9, ic10, ic11, ic12, ic13, ic14, ic15, ic16, ic17, ic18, ic19, ic20, ic21, noSL_d, nmL_noS, eq_self, decide_true, decide_false, Int.reduceLT, Int.reduceLE, Int.reduceEq, Int.reduceAdd, Int.reduceSub, Int.reduceNeg, Nat.reduceLeDiff, gNe_nil, gEq_nil, nmL_len, nmL_isd, nmL_er, ex_pair, fApp]
    refine (v_dip hJ 2 rfl (by decide) (by decide) (by omega)).imp ?_ (fun _ _ z => z.elim)
    rintro _ _ ⟨i1, o1, rfl, rfl, h1, hJ1⟩
    simp (config := { maxSteps := 4000000 }) only [w_bind, w_ret, w_ok, w_seq, w_if, w_ifE, w_test, w_and, w_or, w_not, w_andV, w_orV, w_notV, w_do, w_rt, w_asg, w_C, w_var, w_args0, w_args1, w_plc, w_own, w_val, w_prim, w_list, w_tup, w_call, w_callIo, w_callK, w_chain, w_for, w_items, w_rng, w_lc, w_meth1, w_setL2, w_stores, w_aug, w_move, w_str, mNx, mRetN, startE, rds, HE.rd, sh1, sh2, dp1, dp2, gAdd, DL.gSub, gLt, gLe, gGt, gGe, gOrd, gIsI, gLen, gIx, gIxAny, gInAny, isDct, gLenAny, enumOf, zipOf, dat, gMax2, gMin2, gAbs, gNeg, gAddI, gTupOf, gListOf, gTupAny, gListAny, gInt, gIsN, gSl0, gSlL, gSlH, gSlice, OD.erase, OD.noS, noSL, OD.shallow, OD.isD, OD.still, allStill, boolOf, aName, aTup, aAll, outs, wipeE, isL, DL.intAt, DL.putAll, allO, allD, itemsOf, rngA, rngB, fw_ok, gEq_ii, gNe_ii, gEq_ss, gNe_ss, List.getElem?_cons_zero, List.getElem?_cons_succ, List.set_cons_zero, List.set_cons_succ, List.length_cons, List.length_nil, List.map_cons, List.map_nil, List.cons_append, List.nil_append, List.replicate_succ, List.replicate_zero, List.all_cons, List.all_nil, List.eraseIdx_cons_zero, List.eraseIdx_cons_succ, List.drop_succ_cons, List.drop_zero, List.filterMap_cons, List.filterMap_nil, Option.some.injEq, exists_eq_left', exists_eq_left, exists_eq', exists_eq, Option.join_some, Option.map_some, Option.bind_some, if_true, if_false, true_and, and_true, Bool.true_and, Bool.and_true, Bool.not_true, Bool.not_false, reduceCtorEq, false_and, exists_false, Bool.false_eq_true, OD.d.injEq, OD.l.injEq, HE.o.injEq, HE.al.injEq, List.cons.injEq, PyData.bool.injEq, PyData.int.injEq, PyData.str.injEq, ite_true, ite_false, Nat.reduceSub, Nat.reduceAdd, Nat.reduceLT, Nat.reduceEqDiff, Bool.and_self, Bool.or_true, Bool.true_or, Bool.or_false, Bool.false_or, Bool.false_and, Bool.and_false, eraseL_map, isd_d, er_d, sz_ok, is_int_n, is_int_b, is_int_i, is_int_s, is_int_l, is_int_t, is_int_d, is_bool_n, is_bool_b, is_bool_i, is_bool_s, is_bool_l, is_bool_t, is_bool_d, is_str_n, is_str_b, is_str_i, is_str_s, is_str_l, is_str_t, is_str_d, is_tuple_n, is_tuple_b, is_tuple_i, is_tuple_s, is_tuple_l, is_tuple_t, is_tuple_d, is_list_n, is_list_b, is_list_i, is_list_s, is_list_l, is_list_t, is_list_d, is_dict_n, is_dict_b, is_dict_i, is_dict_s, is_dict_l, is_dict_t, is_dict_d, ic0, ic1, ic2, ic3, ic4, ic5, ic6, ic7, ic8, ic9, ic10, ic11, ic12, ic13, ic14, ic15, ic16, ic17, ic18, ic19, ic20, ic21, noSL_d, nmL_noS, eq_self, decide_true, decide_false, Int.reduceLT, Int.reduceLE, Int.reduceEq, Int.reduceAdd, Int.reduceSub, Int.reduceNeg, Nat.reduceLeDiff, gNe_nil, gEq_nil, nmL_len, nmL_isd, nmL_er, ex_pair, fApp, d5, d3, m3]
    refine ix_any_l (fun d => ∃ n : Nat, d = .int n ∧ n < 2) ?_ (by simp only [List.length_cons, List.length_nil]; omega) ?_
    · intro o ho
      simp only [List.mem_cons, List.not_mem_nil, or_false] at ho
      rcases ho with rfl | rfl | rfl
      · exact ⟨_, rfl, i1, rfl, h1⟩
      · exact ⟨_, rfl, 0, rfl, by decide⟩
      · refine ⟨_, rfl, if (j : Int) % 5 = 4 then 1 else 0, ?_, by split <;> decide⟩
        by_cases q : (j : Int) % 5 = 4 <;> simp [q]
    rintro _ ⟨n, rfl, hn⟩
    simp (config := { maxSteps := 4000000 }) only [w_bind, w_ret, w_ok, w_seq, w_if, w_ifE, w_test, w_and, w_or, w_not, w_andV, w_orV, w_notV, w_do, w_rt, w_asg, w_C, w_var, w_args0, w_args1, w_plc, w_own, w_val, w_prim, w_list, w_tup, w_call, w_callIo, w_callK, w_chain, w_for, w_items, w_rng, w_lc, w_meth1, w_setL2, w_stores, w_aug, w_move, w_str, mNx, mRetN, startE, rds, HE.rd, sh1, sh2, dp1, dp2, gAdd, DL.gSub, gLt, gLe, gGt, gGe, gOrd, gIsI, gLen, gIx, gIxAny, gInAny, isDct, gLenAny, enumOf, zipOf, dat, gMax2, gMin2, gAbs, gNeg, gAddI, gTupOf, gListOf, gTupAny, gListAny, gInt, gIsN, gSl0, gSlL, gSlH, gSlice, OD.erase, OD.noS, noSL, OD.shallow, OD.isD, OD.still, allStill, boolOf, aName, aTup, aAll, outs, wipeE, isL, DL.intAt, DL.putAll, allO, allD, itemsOf, rngA, rngB, fw_ok, gEq_ii, gNe_ii, gEq_ss, gNe_ss, List.getElem?_cons_zero, List.getElem?_cons_succ, List.set_cons_zero, List.set_cons_succ, List.length_cons, List.length_nil, List.map_cons, List.map_nil, List.cons_append, List.nil_append, List.replicate_succ, List.replicate_zero, List.all_cons, List.all_nil, List.eraseIdx_cons_zero, List.eraseIdx_cons_succ, List.drop_succ_cons, List.drop_zero, List.filterMap_cons, List.filterMap_nil, Option.some.injEq, exists_eq_left', exists_eq_left, exists_eq', exists_eq, Option.join_some, Option.map_some, Option.bind_some, if_true, if_false, true_and, and_true, Bool.true_and, Bool.and_true, Bool.not_true, Bool.not_false, reduceCtorEq, false_and, exists_false, Bool.false_eq_true, OD.d.injEq, OD.l.injEq, HE.o.injEq, HE.al.injEq, List.cons.injEq, PyData.bool.injEq, PyData.int.injEq, PyData.str.injEq, ite_true, ite_false, Nat.reduceSub, Nat.reduceAdd, Nat.reduceLT, Nat.reduceEqDiff, Bool.and_self, Bool.or_true, Bool.true_or, Bool.or_false, Bool.false_or, Bool.false_and, Bool.and_false, eraseL_map, isd_d, er_d, sz_ok, is_int_n, is_int_b, is_int_i, is_int_s, is_int_l, is_int_t, is_int_d, is_bool_n, is_bool_b, is_bool_i, is_bool_s, is_bool_l, is_bool_t, is_bool_d, is_str_n, is_str_b, is_str_i, is_str_s, is_str_l, is_str_t, is_str_d, is_tuple_n, is_tuple_b, is_tuple_i, is_tuple_s, is_tuple_l, is_tuple_t, is_tuple_d, is_list_n, is_list_b, is_list_i, is_list_s, is_list_l, is_list_t, is_list_d, is_dict_n, is_dict_b, is_dict_i, is_dict_s, is_dict_l, is_dict_t, is_dict_d, ic0, ic1, ic2, ic3, ic4, ic5, ic6, ic7, ic8, ic9, ic10, ic11, ic12, ic13, ic14, ic15, ic16, ic17, ic18, ic19, ic20, ic21, noSL_d, nmL_noS, eq_self, decide_true, decide_false, Int.reduceLT, Int.reduceLE, Int.reduceEq, Int.reduceAdd, Int.reduceSub, Int.reduceNeg, Nat.reduceLeDiff, gNe_nil, gEq_nil, nmL_len, nmL_isd, nmL_er, ex_pair, fApp]
    refine ix_any_l _ words_ok (by simpa using hn) ?_
    rintro _ ⟨w, rfl, hw⟩
    simp (config := { maxSteps := 4000000 }) only [w_bind, w_ret, w_ok, w_seq, w_if, w_ifE, w_test, w_and, w_or, w_not, w_andV, w_orV, w_notV, w_do, w_rt, w_asg, w_C, w_var, w_args0, w_args1, w_plc, w_own, w_val, w_prim, w_list, w_tup, w_call, w_callIo, w_callK, w_chain, w_for, w_items, w_rng, w_lc, w_meth1, w_setL2, w_stores, w_aug, w_move, w_str, mNx, mRetN, startE, rds, HE.rd, sh1, sh2, dp1, dp2, gAdd, DL.gSub, gLt, gLe, gGt, gGe, gOrd, gIsI, gLen, gIx, gIxAny, gInAny, isDct, gLenAny, enumOf, zipOf, dat, gMax2, gMin2, gAbs, gNeg, gAddI, gTupOf, gListOf, gTupAny, gListAny, gInt, gIsN, gSl0, gSlL, gSlH, gSlice, OD.erase, OD.noS, noSL, OD.shallow, OD.isD, OD.still, allStill, boolOf, aName, aTup, aAll, outs, wipeE, isL, DL.intAt, DL.putAll, allO, allD, itemsOf, rngA, rngB, fw_ok, gEq_ii, gNe_ii, gEq_ss, gNe_ss, List.getElem?_cons_zero, List.getElem?_cons_succ, List.set_cons_zero, List.set_cons_succ, List.length_cons, List.length_nil, List.map_cons, List.map_nil, List.cons_append, List.nil_append, List.replicate_succ, List.replicate_zero, List.all_cons, List.all_nil, List.eraseIdx_cons_zero, List.eraseIdx_cons_succ, List.drop_succ_cons, List.drop_zero, List.filterMap_cons, List.filterMap_nil, Option.some.injEq, exists_eq_left', exists_eq_left, exists_eq', exists_eq, Option.join_some, Option.map_some, Option.bind_some, if_true, if_false, true_and, and_true, Bool.true_and, Bool.and_true, Bool.not_true, Bool.not_false, reduceCtorEq, false_and, exists_false, Bool.false_eq_true, OD.d.injEq, OD.l.injEq, HE.o.injEq, HE.al.injEq, List.cons.injEq, PyData.bool.injEq, PyData.int.injEq, PyData.str.injEq, ite_true, ite_false, Nat.reduceSub, Nat.reduceAdd, Nat.reduceLT, Nat.reduceEqDiff, Bool.and_self, Bool.or_true, Bool.true_or, Bool.or_false, Bool.false_or, Bool.false_and, Bool.and_false, eraseL_map, isd_d, er_d, sz_ok, is_int_n, is_int_b, is_int_i, is_int_s, is_int_l, is_int_t, is_int_d, is_bool_n, is_bool_b, is_bool_i, is_bool_s, is_bool_l, is_bool_t, is_bool_d, is_str_n, is_str_b, is_str_i, is_str_s, is_str_l, is_str_t, is_str_d, is_tuple_n, is_tuple_b, is_tuple_i, is_tuple_s, is_tuple_l, is_tuple_t, is_tuple_d, is_list_n, is_list_b, is_list_i, is_list_s, is_list_l, is_list_t, is_list_d, is_dict_n, is_dict_b, is_dict_i, is_dict_s, is_dict_l, is_dict_t, is_dict_d, ic0, ic1, ic2, ic3, ic4, ic5, ic6, ic7, ic8, ic9, ic10, ic11, ic12, ic13, ic14, ic15, ic16, ic17, ic18, ic19, ic20, ic21, noSL_d, nmL_noS, eq_self, decide_true, decide_false, Int.reduceLT, Int.reduceLE, Int.reduceEq, Int.reduceAdd, Int.reduceSub, Int.reduceNeg, Nat.reduceLeDiff, gNe_nil, gEq_nil, nmL_len, nmL_isd, nmL_er, ex_pair, fApp]
    exact ⟨w, hw, o1, by (repeat' apply And.intro) <;> rfl, hJ1⟩
  rintro _ ⟨w, hw, o, rfl, hJ⟩
  have hl2 : ts.length < 16777216 := by omega
  simp (config := { maxSteps := 4000000 }) only [w_bind, w_ret, w_ok, w_seq, w_if, w_ifE, w_test, w_and, w_or, w_not, w_andV, w_orV, w_notV, w_do, w_rt, w_asg, w_C, w_var, w_args0, w_args1, w_plc, w_own, w_val, w_prim, w_list, w_tup, w_call, w_callIo, w_callK, w_chain, w_for, w_items, w_rng, w_lc, w_meth1, w_setL2, w_stores, w_aug, w_move, w_str, mNx, mRetN, startE, rds, HE.rd, sh1, sh2, dp1, dp2, gAdd, DL.gSub, gLt, gLe, gGt, gGe, gOrd, gIsI, gLen, gIx, gIxAny, gInAny, isDct, gLenAny, enumOf, zipOf, dat, gMax2, gMin2, gAbs, gNeg, gAddI, gTupOf, gListOf, gTupAny, gListAny, gInt, gIsN, gSl0, gSlL, gSlH, gSlice, OD.erase, OD.noS, noSL, OD.shallow, OD.isD, OD.still, allStill, boolOf, aName, aTup, aAll, outs, wipeE, isL, DL.intAt, DL.putAll, allO, allD, itemsOf, rngA, rngB, fw_ok, gEq_ii, gNe_ii, gEq_ss, gNe_ss, List.getElem?_cons_zero, List.getElem?_cons_succ, List.set_cons_zero, List.set_cons_succ, List.length_cons, List.length_nil, List.map_cons, List.map_nil, List.cons_append, List.nil_append, List.replicate_succ, List.replicate_zero, List.all_cons, List.all_nil, List.eraseIdx_cons_zero, List.eraseIdx_cons_succ, List.drop_succ_cons, List.drop_zero, List.filterMap_cons, List.filterMap_nil, Option.some.injEq, exists_eq_left', exists_eq_left, exists_eq', exists_eq, Option.join_some, Option.map_some, Option.bind_some, if_true, if_false, true_and, and_true, Bool.true_and, Bool.and_true, Bool.not_true, Bool.not_false, reduceCtorEq, false_and, exists_false, Bool.false_eq_true, OD.d.injEq, OD.l.injEq, HE.o.injEq, HE.al.injEq, List.cons.injEq, PyData.bool.injEq, PyData.int.injEq, PyData.str.injEq, ite_true, ite_false, Nat.reduceSub, Nat.reduceAdd, Nat.reduceLT, Nat.reduceEqDiff, Bool.and_self, Bool.or_true, Bool.true_or, Bool.or_false, Bool.false_or, Bool.false_and, Bool.and_false, eraseL_map, isd_d, er_d, sz_ok, is_int_n, is_int_b, is_int_i, is_int_s, is_int_l, is_int_t, is_int_d, is_bool_n, is_bool_b, is_bool_i, is_bool_s, is_bool_l, is_bool_t, is_bool_d, is_str_n, is_str_b, is_str_i, is_str_s, is_str_l, is_str_t, is_str_d, is_tuple_n, is_tuple_b, is_tuple_i, is_tuple_s, is_tuple_l, is_tuple_t, is_tuple_d, is_list_n, is_list_b, is_list_i, is_list_s, is_list_l, is_list_t, is_list_d, is_dict_n, is_dict_b, is_dict_i, is_dict_s, is_dict_l, is_dict_t, is_dict_d, ic0, ic1, ic2, ic3, ic4, ic5, ic6, ic7, ic8, ic9, ic10, ic11, ic12, ic13, ic14, ic15, ic16, ic17, ic18, ic19, ic20, ic21, noSL_d, nmL_noS, eq_self, decide_true, decide_false, Int.reduceLT, Int.reduceLE, Int.reduceEq, Int.reduceAdd, Int.reduceSub, Int.reduceNeg, Nat.reduceLeDiff, gNe_nil, gEq_nil, nmL_len, nmL_isd, nmL_er, ex_pair, fApp, names_at ha, names_at hb, List.length_map, hl2]
  refine ⟨o, ts ++ [.tuple [.str w, .str xs[a], .str xs[b]]], _, _, _, by (repeat' apply And.intro) <;> first | rfl | simp, hJ, by simp [hl], fun t ht => ?_⟩
  rcases List.mem_append.mp ht with z | z
  · exact hts t z
  · simp at z
    rw [z]
    exact ⟨_, _, _, rfl, hw, hxs _ (List.getElem_mem ha), hxs _ (List.getElem_mem hb)⟩
end LW

set_option Elab.async false
set_option linter.all false
set_option autoImplicit false
set_option maxRecDepth 100000
set_option maxHeartbeats 1000000
namespace LW
open PySem PySem.Spec PyProof.Rows L2 DL

theorem v_plan {o : OD} {M : Nat} (h : Jr M o) (xs : List Str) (hxs : ∀ x ∈ xs, sOk 8 x) (n1 : 2 ≤ xs.length) (n2 : xs.length ≤ 20) (most : Nat) {z : Int} (hz : z = (most : Int)) (hm : most ≤ 200) (hM : M ≤ 10000) :
    FWp (f__law_plan [o, .d (.tuple (xs.map .str)), .d (.int z)]) (Plan most M) (fun _ _ => False) := by
  subst hz
  unfold f__law_plan
  rw [fw_sem]
  unfold m__law_plan
  refine seq_by (fun e => ∃ (way : Nat) (o1 : OD), way < 6 ∧ Jr (M + 1) o1 ∧ e = [some o1, some (.d (.tuple (xs.map .str))), some (.d (.int (most : Int))), some (.d (.int (xs.length : Int))), some (.d (.int (way : Int))), some (.l []), none, none, none, none]) ?_ ?_
  · simp (config := { maxSteps := 4000000 }) only [w_bind, w_ret, w_ok, w_seq, w_if, w_ifE, w_test, w_and, w_or, w_not, w_andV, w_orV, w_notV, w_do, w_rt, w_asg, w_C, w_var, w_args0, w_args1, w_plc, w_own, w_val, w_prim, w_list, w_tup, w_call, w_callIo, w_callK, w_chain, w_for, w_items, w_rng, w_lc, w_meth1, w_setL2, w_stores, w_aug, w_move, w_str, mNx, mRetN, startE, rds, HE.rd, sh1, sh2, dp1, dp2, gAdd, DL.gSub, gLt, gLe, gGt, gGe, gOrd, gIsI, gLen, gIx, gIxAny, gInAny, isDct, gLenAny, enumOf, zipOf, dat, gMax2, gMin2, gAbs, gNeg, gAddI, gTupOf, gListOf, gTupAny, gListAny, gInt, gIsN, gSl0, gSlL, gSlH, gSlice, OD.erase, OD.noS, noSL, OD.shallow, OD.isD, OD.still, allStill, boolOf, aName, aTup, aAll, outs, wipeE, isL, DL.intAt, DL.putAll, allO, allD, itemsOf, rngA, rngB, fw_ok, gEq_ii, gNe_ii, gEq_ss, gNe_ss, List.getElem?_cons_zero, List.getElem?_cons_succ, List.set_cons_zero, List.set_cons_succ, List.length_cons, List.length_nil, List.map_cons, List.map_nil, List.cons_append, List.nil_append, List.replicate_succ, List.replicate_zero, List.all_cons, List.all_nil, List.eraseIdx_cons_zero, List.eraseIdx_cons_succ, List.drop_succ_cons, List.drop_zero, List.filterMap_cons, List.filterMap_nil, Option.some.injEq, exists_eq_left', exists_eq_left, exists_eq', exists_eq, Option.join_some, Option.map_some, Option.bind_some, if_true, if_false, true_and, and_true, Bool.true_and, Bool.and_true, Bool.not_true, Bool.not_false, reduceCtorEq, false_and, exists_false, Bool.false_eq_true, OD.d.injEq, OD.l.injEq, HE.o.injEq, HE.al.injEq, List.cons.injEq, PyData.bool.injEq, PyData.int.injEq, PyData.str.injEq, ite_true, ite_false, Nat.reduceSub, Nat.reduceAdd, Nat.reduceLT, Nat.reduceEqDiff, Bool.and_self, Bool.or_true, Bool.true_or, Bool.or_false, Bool.false_or, Bool.false_and, Bool.and_false, eraseL_map, isd_d, er_d, sz_ok, is_int_n, is_int_b, is_int_i, is_int_s, is_int_l, is_int_t, is_int_d, is_bool_n, is_bool_b, is_bool_i, is_bool_s, is_bool_l, is_bool_t, is_bool_d, is_str_n, is_str_b, is_str_i, is_str_s, is_str_l, is_str_t, is_str_d, is_tuple_n, is_tuple_b, is_tuple_i, is_tuple_s, is_tuple_l, is_tuple_t, is_tuple_d, is_list_n, is_list_b, is_list_i, is_list_s, is_list_l, is_list_t, is_list_d, is_dict_n, is_dict_b, is_dict_i, is_dict_s, is_dict_l, is_dict_t, is_dict_d, ic0, ic1, ic2, ic3, ic4, ic5, ic6, ic7, ic8, ic9, ic10, ic11, ic12, ic13, ic14, ic15, ic16, ic17, ic18, ic19, ic20, ic21, noSL_d, nmL_noS, eq_self, decide_true, decide_false, Int.reduceLT, Int.reduceLE, Int.reduceEq, Int.reduceAdd, Int.reduceSub, Int.reduceNeg, Nat.reduceLeDiff, gNe_nil, gEq_nil, nmL_len, nmL_isd, nmL_er, ex_pair, fApp, List.length_map]
    refine (v_dip h 6 rfl (by decide) (by decide) (by omega)).imp ?_ (fun _ _ z => z.elim)
    rintro _ _ ⟨way, o1, rfl, rfl, hway, hJ1⟩
    simp (config := { maxSteps := 4000000 }) only [w_bind, w_ret, w_ok, w_seq, w_if, w_ifE, w_test, w_and, w_or, w_not, w_andV, w_orV, w_notV, w_do, w_rt, w_asg, w_C, w_var, w_args0, w_args1, w_plc, w_own, w_val, w_prim, w_list, w_tup, w_call, w_callIo, w_callK, w_chain, w_for, w_items, w_rng, w_lc, w_meth1, w_setL2, w_stores, w_aug, w_move, w_str, mNx, mRetN, startE, rds, HE.rd, sh1, sh2, dp1, dp2, gAdd, DL.gSub, gLt, gLe, gGt, gGe, gOrd, gIsI, gLen, gIx, gIxAny, gInAny, isDct, gLenAny, enumOf, zipOf, dat, gMax2, gMin2, gAbs, gNeg, gAddI, gTupOf, gListOf, gTupAny, gListAny, gInt, gIsN, gSl0, gSlL, gSlH, gSlice, OD.erase, OD.noS, noSL, OD.shallow, OD.isD, OD.still, allStill, boolOf, aName, aTup, aAll, outs, wipeE, isL, DL.intAt, DL.putAll, allO, allD, itemsOf, rngA, rngB, fw_ok, gEq_ii, gNe_ii, gEq_ss, gNe_ss, List.getElem?_cons_zero, List.getElem?_cons_succ, List.set_cons_zero, List.set_cons_succ, List.length_cons, List.length_nil, List.map_cons, List.map_nil, List.cons_append, List.nil_append, List.replicate_succ, List.replicate_zero, List.all_cons, List.all_nil, List.eraseIdx_cons_zero, List.eraseIdx_cons_succ, List.drop_succ_cons, List.drop_zero, List.filterMap_cons, List.filterMap_nil, Option.some.injEq, exists_eq_left', exists_eq_left, exists_eq', exists_eq, Option.join_some, Option.map_some, Option.bind_some, if_true, if_false, true_and, and_true, Bool.true_and, Bool.and_true, Bool.not_true, Bool.not_false, reduceCtorEq, false_and, exists_false, Bool.false_eq_true, OD.d.injEq, OD.l.injEq, HE.o.injEq, HE.al.injEq, List.cons.injEq, PyData.bool.injEq, PyData.int.injEq, PyData.str.injEq, ite_true, ite_false, Nat.reduceSub, Nat.reduceAdd, Nat.reduceLT, Nat.reduceEqDiff, Bool.and_self, Bool.or_true, Bool.true_or, Bool.or_false, Bool.false_or, Bool.false_and, Bool.and_false, eraseL_map, isd_d, er_d, sz_ok, is_int_n, is_int_b, is_int_i, is_int_s, is_int_l, is_int_t, is_int_d, is_bool_n, is_bool_b, is_bool_i, is_bool_s, is_bool_l, is_bool_t, is_bool_d, is_str_n, is_str_b, is_str_i, is_str_s, is_str_l, is_str_t, is_str_d, is_tuple_n, is_tuple_b, is_tuple_i, is_tuple_s, is_tuple_l, is_tuple_t, is_tuple_d, is_list_n, is_list_b, is_list_i, is_list_s, is_list_l, is_list_t, is_list_d, is_dict_n, is_dict_b, is_dict_i, is_dict_s, is_dict_l, is_dict_t, is_dict_d, ic0, ic1, ic2, ic3, ic4, ic5, ic6, ic7, ic8, ic9, ic10, ic11, ic12, ic13, ic14, ic15, ic16, ic17, ic18, ic19, ic20, ic21, noSL_d, nmL_noS, eq_self, decide_true, decide_false, Int.reduceLT, Int.reduceLE, Int.reduceEq, Int.reduceAdd, Int.reduceSub, Int.reduceNeg, Nat.reduceLeDiff, gNe_nil, gEq_nil, nmL_len, nmL_isd, nmL_er, ex_pair, fApp]
    exact ⟨way, o1, hway, hJ1, by (repeat' apply And.intro) <;> first | rfl | simp⟩
  rintro _ ⟨way, o1, hway, hJ1, rfl⟩
  have hgt : decide ((1 : Int) < (xs.length : Int)) = true := by simp; omega
  have hmul : ∀ cnt : Nat, gMul (.int (cnt : Int)) (.int 1) = some (.d (.int (cnt : Int))) := fun cnt => by
    rw [gMul_r (by decide), Int.mul_one]
  refine seq_by (fun e => ∃ (o : OD) (ts : List PyData) (a b c d : Option OD), e = [some o, some (.d (.tuple (xs.map .str))), some (.d (.int (most : Int))), some (.d (.int (xs.length : Int))), some (.d (.int (way : Int))), some (.l (ts.map .d)), a, b, c, d] ∧ Jr (M + 1500) o ∧ ts.length ≤ most ∧ ∀ t ∈ ts, Trip t) ?_ ?_
  · unfold m__law_plan_3
    refine for_by (fun ds e => ∃ (cnt : Nat) (o : OD), cnt ≤ most ∧ ds = rngOf 0 cnt ∧ Jr (M + 2) o ∧ e = [some o, some (.d (.tuple (xs.map .str))), some (.d (.int (most : Int))), some (.d (.int (xs.length : Int))), some (.d (.int (way : Int))), some (.l []), none, none, none, none]) ?_ ?_
    · simp (config := { maxSteps := 4000000 }) only [w_bind, w_ret, w_ok, w_seq, w_if, w_ifE, w_test, w_and, w_or, w_not, w_andV, w_orV, w_notV, w_do, w_rt, w_asg, w_C, w_var, w_args0, w_args1, w_plc, w_own, w_val, w_prim, w_list, w_tup, w_call, w_callIo, w_callK, w_chain, w_for, w_items, w_rng, w_lc, w_meth1, w_setL2, w_stores, w_aug, w_move, w_str, mNx, mRetN, startE, rds, HE.rd, sh1, sh2, dp1, dp2, gAdd, DL.gSub, gLt, gLe, gGt, gGe, gOrd, gIsI, gLen, gIx, gIxAny, gInAny, isDct, gLenAny, enumOf, zipOf, dat, gMax2, gMin2, gAbs, gNeg, gAddI, gTupOf, gListOf, gTupAny, gListAny, gInt, gIsN, gSl0, gSlL, gSlH, gSlice, OD.erase, OD.noS, noSL, OD.shallow, OD.isD, OD.still, allStill, boolOf, aName, aTup, aAll, outs, wipeE, isL, DL.intAt, DL.putAll, allO, allD, itemsOf, rngA, rngB, fw_ok, gEq_ii, gNe_ii, gEq_ss, gNe_ss, List.getElem?_cons_zero, List.getElem?_cons_succ, List.set_cons_zero, List.set_cons_succ, List.length_cons, List.length_nil, List.map_cons, List.map_nil, List.cons_append, List.nil_append, List.replicate_succ, List.replicate_zero, List.all_cons, List.all_nil, List.eraseIdx_cons_zero, List.eraseIdx_cons_succ, List.drop_succ_cons, List.drop_zero, List.filterMap_cons, List.filterMap_nil, Option.some.injEq, exists_eq_left', exists_eq_left, exists_eq', exists_eq, Option.join_some, Option.map_some, Option.bind_some, if_true, if_false, true_and, and_true, Bool.true_and, Bool.and_true, Bool.not_true, Bool.not_false, reduceCtorEq, false_and, exists_false, Bool.false_eq_true, OD.d.injEq, OD.l.injEq, HE.o.injEq, HE.al.injEq, List.cons.injEq, PyData.bool.injEq, PyData.int.injEq, PyData.str.injEq, ite_true, ite_false, Nat.reduceSub, Nat.reduceAdd, Nat.reduceLT, Nat.reduceEqDiff, Bool.and_self, Bool.or_true, Bool.true_or, Bool.or_false, Bool.false_or, Bool.false_and, Bool.and_false, eraseL_map, isd_d, er_d, sz_ok, is_int_n, is_int_b, is_int_i, is_int_s, is_int_l, is_int_t, is_int_d, is_bool_n, is_bool_b, is_bool_i, is_bool_s, is_bool_l, is_bool_t, is_bool_d, is_str_n, is_str_b, is_str_i, is_str_s, is_str_l, is_str_t, is_str_d, is_tuple_n, is_tuple_b, is_tuple_i, is_tuple_s, is_tuple_l, is_tuple_t, is_tuple_d, is_list_n, is_list_b, is_list_i, is_list_s, is_list_l, is_list_t, is_list_d, is_dict_n, is_dict_b, is_dict_i, is_dict_s, is_dict_l, is_dict_t, is_dict_d, ic0, ic1, ic2, ic3, ic4, ic5, ic6, ic7, ic8, ic9, ic10, ic11, ic12, ic13, ic14, ic15, ic16, ic17, ic18, ic19, ic20, ic21, noSL_d, nmL_noS, eq_self, decide_true, decide_false, Int.reduceLT, Int.reduceLE, Int.reduceEq, Int.reduceAdd, Int.reduceSub, Int.reduceNeg, Nat.reduceLeDiff, gNe_nil, gEq_nil, nmL_len, nmL_isd, nmL_er, ex_pair, fApp]
      refine (v_dip (z := (most : Int) + 1) hJ1 (most + 1) (by omega) (by omega) (by omega) (by omega)).imp ?_ (fun _ _ z => z.elim)
      rintro _ _ ⟨cnt, o2, rfl, rfl, hcnt, hJ2⟩
      have sm : smallB (cnt : Int) = true := small_ok (by omega)
      simp (config := { maxSteps := 4000000 }) only [w_bind, w_ret, w_ok, w_seq, w_if, w_ifE, w_test, w_and, w_or, w_not, w_andV, w_orV, w_notV, w_do, w_rt, w_asg, w_C, w_var, w_args0, w_args1, w_plc, w_own, w_val, w_prim, w_list, w_tup, w_call, w_callIo, w_callK, w_chain, w_for, w_items, w_rng, w_lc, w_meth1, w_setL2, w_stores, w_aug, w_move, w_str, mNx, mRetN, startE, rds, HE.rd, sh1, sh2, dp1, dp2, gAdd, DL.gSub, gLt, gLe, gGt, gGe, gOrd, gIsI, gLen, gIx, gIxAny, gInAny, isDct, gLenAny, enumOf, zipOf, dat, gMax2, gMin2, gAbs, gNeg, gAddI, gTupOf, gListOf, gTupAny, gListAny, gInt, gIsN, gSl0, gSlL, gSlH, gSlice, OD.erase, OD.noS, noSL, OD.shallow, OD.isD, OD.still, allStill, boolOf, aName, aTup, aAll, outs, wipeE, isL, DL.intAt, DL.putAll, allO, allD, itemsOf, rngA, rngB, fw_ok, gEq_ii, gNe_ii, gEq_ss, gNe_ss, List.getElem?_cons_zero, List.getElem?_cons_succ, List.set_cons_zero, List.set_cons_succ, List.length_cons, List.length_nil, List.map_cons, List.map_nil, List.cons_append, List.nil_append, List.replicate_succ, List.replicate_zero, List.all_cons, List.all_nil, List.eraseIdx_cons_zero, List.eraseIdx_cons_succ, List.drop_succ_cons, List.drop_zero, List.filterMap_cons, List.filterMap_nil, Option.some.injEq, exists_eq_left', exists_eq_left, exists_eq', exists_eq, Option.join_some, Option.map_some, Option.bind_some, if_true, if_false, true_and, and_true, Bool.true_and, Bool.and_true, Bool.not_true, Bool.not_false, reduceCtorEq, false_and, exists_false, Bool.false_eq_true, OD.d.injEq, OD.l.injEq, HE.o.injEq, HE.al.injEq, List.cons.injEq, PyData.bool.injEq, PyData.int.injEq, PyData.str.injEq, ite_true, ite_false, Nat.reduceSub, Nat.reduceAdd, Nat.reduceLT, Nat.reduceEqDiff, Bool.and_self, Bool.or_true, Bool.true_or, Bool.or_false, Bool.false_or, Bool.false_and, Bool.and_false, eraseL_map, isd_d, er_d, sz_ok, is_int_n, is_int_b, is_int_i, is_int_s, is_int_l, is_int_t, is_int_d, is_bool_n, is_bool_b, is_bool_i, is_bool_s, is_bool_l, is_bool_t, is_bool_d, is_str_n, is_str_b, is_str_i, is_str_s, is_str_l, is_str_t, is_str_d, is_tuple_n, is_tuple_b, is_tuple_i, is_tuple_s, is_tuple_l, is_tuple_t, is_tuple_d, is_list_n, is_list_b, is_list_i, is_list_s, is_list_l, is_list_t, is_list_d, is_dict_n, is_dict_b, is_dict_i, is_dict_s, is_dict_l, is_dict_t, is_dict_d, ic0, ic1, ic2, ic3, ic4, ic5, ic6, ic7, ic8, ic9, ic10, ic11, ic12, ic13, ic14, ic15, ic16, ic17, ic18, ic19, ic20, ic21, noSL_d, nmL_noS, eq_self, decide_true, decide_false, Int.reduceLT, Int.reduceLE, Int.reduceEq, Int.reduceAdd, Int.reduceSub, Int.reduceNeg, Nat.reduceLeDiff, gNe_nil, gEq_nil, nmL_len, nmL_isd, nmL_er, ex_pair, fApp, hgt, hmul, sm]
      exact ⟨cnt, o2, by omega, rfl, hJ2, by (repeat' apply And.intro) <;> rfl⟩
    rintro _ _ ⟨cnt, o2, hcnt, rfl, hJ2, rfl⟩
    refine each_by (fun k e => ∃ (o : OD) (ts : List PyData) (a b c d : Option OD), e = [some o, some (.d (.tuple (xs.map .str))), some (.d (.int (most : Int))), some (.d (.int (xs.length : Int))), some (.d (.int (way : Int))), some (.l (ts.map .d)), a, b, c, d] ∧ Jr (M + 2 + 5 * k) o ∧ ts.length = k ∧ ∀ t ∈ ts, Trip t) 0 ⟨o2, [], none, none, none, none, rfl, hJ2, rfl, by simp⟩ ?_ ?_
    · rintro j d e hj ⟨o, ts, a, b, c, d, rfl, hJ, hl, hts⟩
      obtain ⟨hj, rfl⟩ := rng_at hj
      refine ⟨_, rfl, ?_⟩
      have z0 : (0 : Int) + (j : Int) = (j : Int) := Int.zero_add _
      rw [z0]
      refine (v_turn xs hxs n1 n2 most way j (M + 2 + 5 * (0 + j)) (by omega) hway (by omega) ts hts (by omega) o b c d hJ).imp (fun fl e _ q => ?_) fun _ _ _ z => z.elim
      obtain ⟨rfl, o', ts', a', b', c', rfl, hJ', hl', hts'⟩ := q
      exact ⟨o', ts', _, a', b', c', rfl, hJ'.mono (by omega), by omega, hts'⟩
    · rintro e ⟨o, ts, a, b, c, d, rfl, hJ, hl, hts⟩
      rw [rng_len] at hl hJ
      exact ⟨rfl, o, ts, a, b, c, d, rfl, hJ.mono (by omega), by omega, hts⟩
  · rintro _ ⟨o, ts, a, b, c, d, rfl, hJ, hl, hts⟩
    simp (config := { maxSteps := 4000000 }) only [w_bind, w_ret, w_ok, w_seq, w_if, w_ifE, w_test, w_and, w_or, w_not, w_andV, w_orV, w_notV, w_do, w_rt, w_asg, w_C, w_var, w_args0, w_args1, w_plc, w_own, w_val, w_prim, w_list, w_tup, w_call, w_callIo, w_callK, w_chain, w_for, w_items, w_rng, w_lc, w_meth1, w_setL2, w_stores, w_aug, w_move, w_str, mNx, mRetN, startE, rds, HE.rd, sh1, sh2, dp1, dp2, gAdd, DL.gSub, gLt, gLe, gGt, gGe, gOrd, gIsI, gLen, gIx, gIxAny, gInAny, isDct, gLenAny, enumOf, zipOf, dat, gMax2, gMin2, gAbs, gNeg, gAddI, gTupOf, gListOf, gTupAny, gListAny, gInt, gIsN, gSl0, gSlL, gSlH, gSlice, OD.erase, OD.noS, noSL, OD.shallow, OD.isD, OD.still, allStill, boolOf, aName, aTup, aAll, outs, wipeE, isL, DL.intAt, DL.putAll, allO, allD, itemsOf, rngA, rngB, fw_ok, gEq_ii, gNe_ii, gEq_ss, gNe_ss, List.getElem?_cons_zero, List.getElem?_cons_succ, List.set_cons_zero, List.set_cons_succ, List.length_cons, List.length_nil, List.map_cons, List.map_nil, List.cons_append, List.nil_append, List.replicate_succ, List.replicate_zero, List.all_cons, List.all_nil, List.eraseIdx_cons_zero, List.eraseIdx_cons_succ, List.drop_succ_cons, List.drop_zero, List.filterMap_cons, List.filterMap_nil, Option.some.injEq, exists_eq_left', exists_eq_left, exists_eq', exists_eq, Option.join_some, Option.map_some, Option.bind_some, if_true, if_false, true_and, and_true, Bool.true_and, Bool.and_true, Bool.not_true, Bool.not_false, reduceCtorEq, false_and, exists_false, Bool.false_eq_true, OD.d.injEq, OD.l.injEq, HE.o.injEq, HE.al.injEq, List.cons.injEq, PyData.bool.injEq, PyData.int.injEq, PyData.str.injEq, ite_true, ite_false, Nat.reduceSub, Nat.reduceAdd, Nat.reduceLT, Nat.reduceEqDiff, Bool.and_self, Bool.or_true, Bool.true_or, Bool.or_false, Bool.false_or, Bool.false_and, Bool.and_false, eraseL_map, isd_d, er_d, sz_ok, is_int_n, is_int_b, is_int_i, is_int_s, is_int_l, is_int_t, is_int_d, is_bool_n, is_bool_b, is_bool_i, is_bool_s, is_bool_l, is_bool_t, is_bool_d, is_str_n, is_str_b, is_str_i, is_str_s, is_str_l, is_str_t, is_str_d, is_tuple_n, is_tuple_b, is_tuple_i, is_tuple_s, is_tuple_l, is_tuple_t, is_tuple_d, is_list_n, is_list_b, is_list_i, is_list_s, is_list_l, is_list_t, is_list_d, is_dict_n, is_dict_b, is_dict_i, is_dict_s, is_dict_l, is_dict_t, is_dict_d, ic0, ic1, ic2, ic3, ic4, ic5, ic6, ic7, ic8, ic9, ic10, ic11, ic12, ic13, ic14, ic15, ic16, ic17, ic18, ic19, ic20, ic21, noSL_d, nmL_noS, eq_self, decide_true, decide_false, Int.reduceLT, Int.reduceLE, Int.reduceEq, Int.reduceAdd, Int.reduceSub, Int.reduceNeg, Nat.reduceLeDiff, gNe_nil, gEq_nil, nmL_len, nmL_isd, nmL_er, ex_pair, fApp]
    exact ⟨ts, o, rfl, rfl, hl, hts, hJ⟩

end LW

set_option Elab.async false
set_option linter.all false
set_option autoImplicit false
set_option maxRecDepth 100000
set_option maxHeartbeats 400000
namespace LW
open PySem PySem.Spec PyProof.Rows L2 DL

/-! ### values near a copy -/
theorem cut_z : ∀ k ≤ 8, sOk 1 (cutS "z" none (some (8 - ((k : Nat) : Int)))) := by decide +kernel
theorem fits_tupN {W : Nat} {xs : List PyData} (h : ∀ x ∈ xs, fits 1 W x) (hn : xs.length ≤ 4) : fits 2 ((W + 1) * 4) (.tuple xs) := fits_tup h hn
def Odd (M : Nat) (r : OD) (l : List OD) : Prop := ∃ (d : PyData) (o' : OD), r = .d d ∧ l = [o'] ∧ fits 2 60 d ∧ Jr (M + 2) o'
theorem seq_of {m n : M Fl} {e : DEnv} {I : DEnv → Prop} {Q : Fl → DEnv → Prop} {Qx : Xn → DEnv → Prop} (h1 : Mwp (m e) (fun fl e' => fl = .nx ∧ I e') (fun _ _ => False)) (h2 : ∀ e', I e' → Mwp (n e') Q Qx) : Mwp (mSeq m n e) Q Qx :=
  seq_by I (h1.imp (fun _ _ _ z => z) fun _ _ _ z => z.elim) h2
theorem odd_0 {o : OD} {M : Nat} (h : Jr M o) (hM : M ≤ 10000) (w s t : Str) (hs : sOk 8 s) : Mwp (m__law_odd_0 [some o, some (.d (.tuple [.str w, .str s, .str t])), some (.d (.str w)), some (.d (.str s)), some (.d (.str t)), none, none])
    (fun fl e => fl = .nx ∧ ∃ d o', fits 1 10 d ∧ Jr (M + 1) o' ∧ e = [some o', some (.d (.tuple [.str w, .str s, .str t])), some (.d (.str w)), some (.d (.str s)), some (.d (.str t)), some (.d d), none]) (fun _ _ => False) := by
  unfold m__law_odd_0
  simp (config := { maxSteps := 4000000 }) only [w_bind, w_ret, w_ok, w_seq, w_if, w_ifE, w_test, w_and, w_or, w_not, w_andV, w_orV, w_notV, w_do, w_rt, w_asg, w_C, w_var, w_args0, w_args1, w_plc, w_own, w_val, w_prim, w_list, w_tup, w_call, w_callIo, w_callK, w_chain, w_for, w_items, w_rng, w_lc, w_meth1, w_setL2, w_stores, w_aug, w_move, w_str, mNx, mRetN, startE, rds, HE.rd, sh1, sh2, dp1, dp2, gAdd, DL.gSub, gLt, gLe, gGt, gGe, gOrd, gIsI, gLen, gIx, gIxAny, gInAny, isDct, gLenAny, enumOf, zipOf, dat, gMax2, gMin2, gAbs, gNeg, gAddI, gTupOf, gListOf, gTupAny, gListAny, gInt, gIsN, gSl0, gSlL, gSlH, gSlice, OD.erase, OD.noS, noSL, OD.shallow, OD.isD, OD.still, allStill, boolOf, aName, aTup, aAll, outs, wipeE, isL, DL.intAt, DL.putAll, allO, allD, itemsOf, rngA, rngB, fw_ok, gEq_ii, gNe_ii, gEq_ss, gNe_ss, List.getElem?_cons_zero, List.getElem?_cons_succ, List.set_cons_zero, List.set_cons_succ, List.length_cons, List.length_nil, List.map_cons, List.map_nil, List.cons_append, List.nil_append, List.replicate_succ, List.replicate_zero, List.all_cons, List.all_nil, List.eraseIdx_cons_zero, List.eraseIdx_cons_succ, List.drop_succ_cons, List.drop_zero, List.filterMap_cons, List.filterMap_nil, Option.some.injEq, exists_eq_left', exists_eq_left, exists_eq', exists_eq, Option.join_some, Option.map_some, Option.bind_some, if_true, if_false, true_and, and_true, Bool.true_and, Bool.and_true, Bool.not_true, Bool.not_false, reduceCtorEq, false_and, exists_false, Bool.false_eq_true, OD.d.injEq, OD.l.injEq, HE.o.injEq, HE.al.injEq, List.cons.injEq, PyData.bool.injEq, PyData.int.injEq, PyData.str.injEq, ite_true, ite_false, Nat.reduceSub, Nat.reduceAdd, Nat.reduceLT, Nat.reduceEqDiff, Bool.and_self, Bool.or_true, Bool.true_or, Bool.or_false, Bool.false_or, Bool.false_and, Bool.and_false, eraseL_map, isd_d, er_d, sz_ok, is_int_n, is_int_b, is_int_i, is_int_s, is_int_l, is_int_t, is_int_d, is_bool_n, is_bool_b, is_bool_i, is_bool_s, is_bool_l, is_bool_t, is_bool_d, is_str_n, is_str_b, is_str_i, is_str_s, is_str_l, is_str_t, is_str_d, is_tuple_n, is_tuple_b, is_tuple_i, is_tuple_s, is_tuple_l, is_tuple_t, is_tuple_d, is_list_n, is_list_b, is_list_i, is_list_s, is_list_l, is_list_t, is_list_d, is_dict_n, is_dict_b, is_dict_i, is_dict_s, is_dict_l, is_dict_t, is_dict_d, ic0, ic1, ic2, ic3, ic4, ic5, ic6, ic7, ic8, ic9, ic10, ic11, ic12, ic13, ic14, ic15, ic16, ic17, ic18, ic19, ic20, ic21, noSL_d, nmL_noS, eq_self, decide_true, decide_false, Int.reduceLT, Int.reduceLE, Int.reduceEq, Int.reduceAdd, Int.reduceSub, Int.reduceNeg, Nat.reduceLeDiff, gNe_nil, gEq_nil, nmL_len, nmL_isd, nmL_er, ex_pair, fApp]
  refine (v_dip h 14 rfl (by decide) (by decide) (by omega)).imp ?_ (fun _ _ z => z.elim)
  rintro _ _ ⟨i, o1, rfl, rfl, hi, hJ1⟩
  simp (config := { maxSteps := 4000000 }) only [w_bind, w_ret, w_ok, w_seq, w_if, w_ifE, w_test, w_and, w_or, w_not, w_andV, w_orV, w_notV, w_do, w_rt, w_asg, w_C, w_var, w_args0, w_args1, w_plc, w_own, w_val, w_prim, w_list, w_tup, w_call, w_callIo, w_callK, w_chain, w_for, w_items, w_rng, w_lc, w_meth1, w_setL2, w_stores, w_aug, w_move, w_str, mNx, mRetN, startE, rds, HE.rd, sh1, sh2, dp1, dp2, gAdd, DL.gSub, gLt, gLe, gGt, gGe, gOrd, gIsI, gLen, gIx, gIxAny, gInAny, isDct, gLenAny, enumOf, zipOf, dat, gMax2, gMin2, gAbs, gNeg, gAddI, gTupOf, gListOf, gTupAny, gListAny, gInt, gIsN, gSl0, gSlL, gSlH, gSlice, OD.erase, OD.noS, noSL, OD.shallow, OD.isD, OD.still, allStill, boolOf, aName, aTup, aAll, outs, wipeE, isL, DL.intAt, DL.putAll, allO, allD, itemsOf, rngA, rngB, fw_ok, gEq_ii, gNe_ii, gEq_ss, gNe_ss, List.getElem?_cons_zero, List.getElem?_cons_succ, List.set_cons_zero, List.set_cons_succ, List.length_cons, List.length_nil, List.map_cons, List.map_nil, List.cons_append, List.nil_append, List.replicate_succ, List.replicate_zero, List.all_cons, List.all_nil, List.eraseIdx_cons_zero, List.eraseIdx_cons_succ, List.drop_succ_cons, List.drop_zero, List.filterMap_cons, List.filterMap_nil, Option.some.injEq, exists_eq_left', exists_eq_left, exists_eq', exists_eq, Option.join_some, Option.map_some, Option.bind_some, if_true, if_false, true_and, and_true, Bool.true_and, Bool.and_true, Bool.not_true, Bool.not_false, reduceCtorEq, false_and, exists_false, Bool.false_eq_true, OD.d.injEq, OD.l.injEq, HE.o.injEq, HE.al.injEq, List.cons.injEq, PyData.bool.injEq, PyData.int.injEq, PyData.str.injEq, ite_true, ite_false, Nat.reduceSub, Nat.reduceAdd, Nat.reduceLT, Nat.reduceEqDiff, Bool.and_self, Bool.or_true, Bool.true_or, Bool.or_false, Bool.false_or, Bool.false_and, Bool.and_false, eraseL_map, isd_d, er_d, sz_ok, is_int_n, is_int_b, is_int_i, is_int_s, is_int_l, is_int_t, is_int_d, is_bool_n, is_bool_b, is_bool_i, is_bool_s, is_bool_l, is_bool_t, is_bool_d, is_str_n, is_str_b, is_str_i, is_str_s, is_str_l, is_str_t, is_str_d, is_tuple_n, is_tuple_b, is_tuple_i, is_tuple_s, is_tuple_l, is_tuple_t, is_tuple_d, is_list_n, is_list_b, is_list_i, is_list_s, is_list_l, is_list_t, is_list_d, is_dict_n, is_dict_b, is_dict_i, is_dict_s, is_dict_l, is_dict_t, is_dict_d, ic0, ic1, ic2, ic3, ic4, ic5, ic6, ic7, ic8, ic9, ic10, ic11, ic12, ic13, ic14, ic15, ic16, ic17, ic18, ic19, ic20, ic21, noSL_d, nmL_noS, eq_self, decide_true, decide_false, Int.reduceLT, Int.reduceLE, Int.reduceEq, Int.reduceAdd, Int.reduceSub, Int.reduceNeg, Nat.reduceLeDiff, gNe_nil, gEq_nil, nmL_len, nmL_isd, nmL_er, ex_pair, fApp]
  refine ix_any_l (fits 1 10) ?_ (by simp only [List.length_cons, List.length_nil]; omega) fun d hd => ?_
  · intro o ho
    simp only [List.mem_cons, List.not_mem_nil, or_false] at ho
    rcases ho with rfl | rfl | rfl | rfl | rfl | rfl | rfl | rfl | rfl | rfl | rfl | rfl | rfl | rfl
    all_goals refine ⟨_, rfl, ?_⟩
    all_goals first | (exact hs.fits.mono (by decide) (by decide)) | decide +kernel
  · exact ⟨d, o1, hd, hJ1, by (repeat' apply And.intro) <;> rfl⟩
theorem T14 (xs : List PyData) (h1 : ∀ x ∈ xs, fits 1 14 x) (h2 : xs.length ≤ 4) : fits 2 60 (.tuple xs) := fits_tup h1 h2
theorem L14 (xs : List PyData) (h1 : ∀ x ∈ xs, fits 1 14 x) (h2 : xs.length ≤ 4) : fits 2 60 (.list xs) := fits_list h1 h2
theorem all2 {P : PyData → Prop} {a b : PyData} (ha : P a) (hb : P b) : ∀ x ∈ [a, b], P x := by simp [ha, hb]
theorem all3 {P : PyData → Prop} {a b c : PyData} (ha : P a) (hb : P b) (hc : P c) : ∀ x ∈ [a, b, c], P x := by simp [ha, hb, hc]
theorem all4 {P : PyData → Prop} {a b c d : PyData} (ha : P a) (hb : P b) (hc : P c) (hd : P d) : ∀ x ∈ [a, b, c, d], P x := by simp [ha, hb, hc, hd]
theorem all5 {P : PyData → Prop} {a b c d e : PyData} (ha : P a) (hb : P b) (hc : P c) (hd : P d) (he : P e) : ∀ x ∈ [a, b, c, d, e], P x := by simp [ha, hb, hc, hd, he]
/-- the slots while the values near a copy are put together -/
def Io (o : OD) (w s t : Str) (d : PyData) (n : Nat) (e : DEnv) : Prop := ∃ vs : List PyData, vs.length = n ∧ (∀ v ∈ vs, fits 2 60 v) ∧ e = [some o, some (.d (.tuple [.str w, .str s, .str t])), some (.d (.str w)), some (.d (.str s)), some (.d (.str t)), some (.d d), some (.l (vs.map .d))]
section
variable {o : OD} {w s t : Str} {d : PyData} (fw : fits 1 14 (.str w)) (fs : fits 1 14 (.str s)) (ft : fits 1 14 (.str t)) (fd : fits 1 14 d)
include fw fs ft fd
theorem odd_1 : Mwp (m__law_odd_1 [some o, some (.d (.tuple [.str w, .str s, .str t])), some (.d (.str w)), some (.d (.str s)), some (.d (.str t)), some (.d d), none]) (fun fl e => fl = .nx ∧ Io o w s t d 5 e) (fun _ _ => False) := by
  unfold m__law_odd_1
  simp (config := { maxSteps := 4000000 }) only [w_bind, w_ret, w_ok, w_seq, w_if, w_ifE, w_test, w_and, w_or, w_not, w_andV, w_orV, w_notV, w_do, w_rt, w_asg, w_C, w_var, w_args0, w_args1, w_plc, w_own, w_val, w_prim, w_list, w_tup, w_call, w_callIo, w_callK, w_chain, w_for, w_items, w_rng, w_lc, w_meth1, w_setL2, w_stores, w_aug, w_move, w_str, mNx, mRetN, startE, rds, HE.rd, sh1, sh2, dp1, dp2, gAdd, DL.gSub, gLt, gLe, gGt, gGe, gOrd, gIsI, gLen, gIx, gIxAny, gInAny, isDct, gLenAny, enumOf, zipOf, dat, gMax2, gMin2, gAbs, gNeg, gAddI, gTupOf, gListOf, gTupAny, gListAny, gInt, gIsN, gSl0, gSlL, gSlH, gSlice, OD.erase, OD.noS, noSL, OD.shallow, OD.isD, OD.still, allStill, boolOf, aName, aTup, aAll, outs, wipeE, isL, DL.intAt, DL.putAll, allO, allD, itemsOf, rngA, rngB, fw_ok, gEq_ii, gNe_ii, gEq_ss, gNe_ss, List.getElem?_cons_zero, List.getElem?_cons_succ, List.set_cons_zero, List.set_cons_succ, List.length_cons, List.length_nil, List.map_cons, List.map_nil, List.cons_append, List.nil_append, List.replicate_succ, List.replicate_zero, List.all_cons, List.all_nil, List.eraseIdx_cons_zero, List.eraseIdx_cons_succ, List.drop_succ_cons, List.drop_zero, List.filterMap_cons, List.filterMap_nil, Option.some.injEq, exists_eq_left', exists_eq_left, exists_eq', exists_eq, Option.join_some, Option.map_some, Option.bind_some, if_true, if_false, true_and, and_true, Bool.true_and, Bool.and_true, Bool.not_true, Bool.not_false, reduceCtorEq, false_and, exists_false, Bool.false_eq_true, OD.d.injEq, OD.l.injEq, HE.o.injEq, HE.al.injEq, List.cons.injEq, PyData.bool.injEq, PyData.int.injEq, PyData.str.injEq, ite_true, ite_false, Nat.reduceSub, Nat.reduceAdd, Nat.reduceLT, Nat.reduceEqDiff, Bool.and_self, Bool.or_true, Bool.true_or, Bool.or_false, Bool.false_or, Bool.false_and, Bool.and_false, eraseL_map, isd_d, er_d, sz_ok, is_int_n, is_int_b, is_int_i, is_int_s, is_int_l, is_int_t, is_int_d, is_bool_n, is_bool_b, is_bool_i, is_bool_s, is_bool_l, is_bool_t, is_bool_d, is_str_n, is_str_b, is_str_i, is_str_s, is_str_l, is_str_t, is_str_d, is_tuple_n, is_tuple_b, is_tuple_i, is_tuple_s, is_tuple_l, is_tuple_t, is_tuple_d, is_list_n, is_list_b, is_list_i, is_list_s, is_list_l, is_list_t, is_list_d, is_dict_n, is_dict_b, is_dict_i, is_dict_s, is_dict_l, is_dict_t, is_dict_d, ic0, ic1, ic2, ic3, ic4, ic5, ic6, ic7, ic8, ic9, ic10, ic11, ic12, ic13, ic14, ic15, ic16, ic17, ic18, ic19, ic20, ic21, noSL_d, nmL_noS, eq_self, decide_true, decide_false, Int.reduceLT, Int.reduceLE, Int.reduceEq, Int.reduceAdd, Int.reduceSub, Int.reduceNeg, Nat.reduceLeDiff, gNe_nil, gEq_nil, nmL_len, nmL_isd, nmL_er, ex_pair, fApp]
  exact ⟨[.tuple [d, .str s, .str t], .tuple [.str w, d, .str t], .tuple [.str w, .str s, d], .tuple [.str w, .str s], .list [.str w, .str s, .str t]], rfl,
    all5 (T14 _ (all3 fd fs ft) (by simp)) (T14 _ (all3 fw fd ft) (by simp)) (T14 _ (all3 fw fs fd) (by simp)) (T14 _ (all2 fw fs) (by simp)) (L14 _ (all3 fw fs ft) (by simp)), rfl⟩
theorem odd_2 {e : DEnv} (h : Io o w s t d 5 e) : Mwp (m__law_odd_2 e) (fun fl e => fl = .nx ∧ Io o w s t d 8 e) (fun _ _ => False) := by
  obtain ⟨vs, hv, hvs, rfl⟩ := h
  unfold m__law_odd_2
  have fa : fits 1 14 (.str "a") := by decide +kernel
  have fO : fits 1 14 (.str "Over") := by decide +kernel
  simp (config := { maxSteps := 4000000 }) only [w_bind, w_ret, w_ok, w_seq, w_if, w_ifE, w_test, w_and, w_or, w_not, w_andV, w_orV, w_notV, w_do, w_rt, w_asg, w_C, w_var, w_args0, w_args1, w_plc, w_own, w_val, w_prim, w_list, w_tup, w_call, w_callIo, w_callK, w_chain, w_for, w_items, w_rng, w_lc, w_meth1, w_setL2, w_stores, w_aug, w_move, w_str, mNx, mRetN, startE, rds, HE.rd, sh1, sh2, dp1, dp2, gAdd, DL.gSub, gLt, gLe, gGt, gGe, gOrd, gIsI, gLen, gIx, gIxAny, gInAny, isDct, gLenAny, enumOf, zipOf, dat, gMax2, gMin2, gAbs, gNeg, gAddI, gTupOf, gListOf, gTupAny, gListAny, gInt, gIsN, gSl0, gSlL, gSlH, gSlice, OD.erase, OD.noS, noSL, OD.shallow, OD.isD, OD.still, allStill, boolOf, aName, aTup, aAll, outs, wipeE, isL, DL.intAt, DL.putAll, allO, allD, itemsOf, rngA, rngB, fw_ok, gEq_ii, gNe_ii, gEq_ss, gNe_ss, List.getElem?_cons_zero, List.getElem?_cons_succ, List.set_cons_zero, List.set_cons_succ, List.length_cons, List.length_nil, List.map_cons, List.map_nil, List.cons_append, List.nil_append, List.replicate_succ, List.replicate_zero, List.all_cons, List.all_nil, List.eraseIdx_cons_zero, List.eraseIdx_cons_succ, List.drop_succ_cons, List.drop_zero, List.filterMap_cons, List.filterMap_nil, Option.some.injEq, exists_eq_left', exists_eq_left, exists_eq', exists_eq, Option.join_some, Option.map_some, Option.bind_some, if_true, if_false, true_and, and_true, Bool.true_and, Bool.and_true, Bool.not_true, Bool.not_false, reduceCtorEq, false_and, exists_false, Bool.false_eq_true, OD.d.injEq, OD.l.injEq, HE.o.injEq, HE.al.injEq, List.cons.injEq, PyData.bool.injEq, PyData.int.injEq, PyData.str.injEq, ite_true, ite_false, Nat.reduceSub, Nat.reduceAdd, Nat.reduceLT, Nat.reduceEqDiff, Bool.and_self, Bool.or_true, Bool.true_or, Bool.or_false, Bool.false_or, Bool.false_and, Bool.and_false, eraseL_map, isd_d, er_d, sz_ok, is_int_n, is_int_b, is_int_i, is_int_s, is_int_l, is_int_t, is_int_d, is_bool_n, is_bool_b, is_bool_i, is_bool_s, is_bool_l, is_bool_t, is_bool_d, is_str_n, is_str_b, is_str_i, is_str_s, is_str_l, is_str_t, is_str_d, is_tuple_n, is_tuple_b, is_tuple_i, is_tuple_s, is_tuple_l, is_tuple_t, is_tuple_d, is_list_n, is_list_b, is_list_i, is_list_s, is_list_l, is_list_t, is_list_d, is_dict_n, is_dict_b, is_dict_i, is_dict_s, is_dict_l, is_dict_t, is_dict_d, ic0, ic1, ic2, ic3, ic4, ic5, ic6, ic7, ic8, ic9, ic10, ic11, ic12, ic13, ic14, ic15, ic16, ic17, ic18, ic19, ic20, ic21, noSL_d, nmL_noS, eq_self, decide_true, decide_false, Int.reduceLT, Int.reduceLE, Int.reduceEq, Int.reduceAdd, Int.reduceSub, Int.reduceNeg, Nat.reduceLeDiff, gNe_nil, gEq_nil, nmL_len, nmL_isd, nmL_er, ex_pair, fApp, hv]
  exact ⟨vs ++ [.tuple [.str w, .str s, .str t, .str "a"], .tuple [.str w, .str t, .str s], .tuple [.str "Over", .str s, .str t]], by simp [hv],
    List.forall_mem_append.mpr ⟨hvs, all3 (T14 _ (all4 fw fs ft fa) (by simp)) (T14 _ (all3 fw ft fs) (by simp)) (T14 _ (all3 fO fs ft) (by simp))⟩, rfl⟩
theorem odd_3 {e : DEnv} (h : Io o w s t d 8 e) : Mwp (m__law_odd_3 e) (fun fl e => fl = .nx ∧ Io o w s t d 13 e) (fun _ _ => False) := by
  obtain ⟨vs, hv, hvs, rfl⟩ := h
  unfold m__law_odd_3
  have fE : fits 1 14 (.str "") := by decide +kernel
  have f0 : fits 2 60 .none := by decide +kernel
  have f1 : fits 2 60 (.tuple []) := by decide +kernel
  have f2 : fits 2 60 (.dict []) := by decide +kernel
  simp (config := { maxSteps := 4000000 }) only [w_bind, w_ret, w_ok, w_seq, w_if, w_ifE, w_test, w_and, w_or, w_not, w_andV, w_orV, w_notV, w_do, w_rt, w_asg, w_C, w_var, w_args0, w_args1, w_plc, w_own, w_val, w_prim, w_list, w_tup, w_call, w_callIo, w_callK, w_chain, w_for, w_items, w_rng, w_lc, w_meth1, w_setL2, w_stores, w_aug, w_move, w_str, mNx, mRetN, startE, rds, HE.rd, sh1, sh2, dp1, dp2, gAdd, DL.gSub, gLt, gLe, gGt, gGe, gOrd, gIsI, gLen, gIx, gIxAny, gInAny, isDct, gLenAny, enumOf, zipOf, dat, gMax2, gMin2, gAbs, gNeg, gAddI, gTupOf, gListOf, gTupAny, gListAny, gInt, gIsN, gSl0, gSlL, gSlH, gSlice, OD.erase, OD.noS, noSL, OD.shallow, OD.isD, OD.still, allStill, boolOf, aName, aTup, aAll, outs, wipeE, isL, DL.intAt, DL.putAll, allO, allD, itemsOf, rngA, rngB, fw_ok, gEq_ii, gNe_ii, gEq_ss, gNe_ss, List.getElem?_cons_zero, List.getElem?_cons_succ, List.set_cons_zero, List.set_cons_succ, List.length_cons, List.length_nil, List.map_cons, List.map_nil, List.cons_append, List.nil_append, List.replicate_succ, List.replicate_zero, List.all_cons, List.all_nil, List.eraseIdx_cons_zero, List.eraseIdx_cons_succ, List.drop_succ_cons, List.drop_zero, List.filterMap_cons, List.filterMap_nil, Option.some.injEq, exists_eq_left', exists_eq_left, exists_eq', exists_eq, Option.join_some, Option.map_some, Option.bind_some, if_true, if_false, true_and, and_true, Bool.true_and, Bool.and_true, Bool.not_true, Bool.not_false, reduceCtorEq, false_and, exists_false, Bool.false_eq_true, OD.d.injEq, OD.l.injEq, HE.o.injEq, HE.al.injEq, List.cons.injEq, PyData.bool.injEq, PyData.int.injEq, PyData.str.injEq, ite_true, ite_false, Nat.reduceSub, Nat.reduceAdd, Nat.reduceLT, Nat.reduceEqDiff, Bool.and_self, Bool.or_true, Bool.true_or, Bool.or_false, Bool.false_or, Bool.false_and, Bool.and_false, eraseL_map, isd_d, er_d, sz_ok, is_int_n, is_int_b, is_int_i, is_int_s, is_int_l, is_int_t, is_int_d, is_bool_n, is_bool_b, is_bool_i, is_bool_s, is_bool_l, is_bool_t, is_bool_d, is_str_n, is_str_b, is_str_i, is_str_s, is_str_l, is_str_t, is_str_d, is_tuple_n, is_tuple_b, is_tuple_i, is_tuple_s, is_tuple_l, is_tuple_t, is_tuple_d, is_list_n, is_list_b, is_list_i, is_list_s, is_list_l, is_list_t, is_list_d, is_dict_n, is_dict_b, is_dict_i, is_dict_s, is_dict_l, is_dict_t, is_dict_d, ic0, ic1, ic2, ic3, ic4, ic5, ic6, ic7, ic8, ic9, ic10, ic11, ic12, ic13, ic14, ic15, ic16, ic17, ic18, ic19, ic20, ic21, noSL_d, nmL_noS, eq_self, decide_true, decide_false, Int.reduceLT, Int.reduceLE, Int.reduceEq, Int.reduceAdd, Int.reduceSub, Int.reduceNeg, Nat.reduceLeDiff, gNe_nil, gEq_nil, nmL_len, nmL_isd, nmL_er, ex_pair, fApp, hv]
  exact ⟨vs ++ [.tuple [.str "", .str s, .str t], .none, .str w, .tuple [], .dict []], by simp [hv],
    List.forall_mem_append.mpr ⟨hvs, all5 (T14 _ (all3 fE fs ft) (by simp)) f0 (fw.mono (by decide) (by decide)) f1 f2⟩, rfl⟩
theorem odd_4 {e : DEnv} {M : Nat} (h : Io o w s t d 13 e) (hJ : Jr M o) (hM : M ≤ 100000) (ht : sOk 8 t) : Mwp (m__law_odd_4 e) (fun fl e => ∃ v o', fl = .rt (.d v) ∧ outs (some 0) e = some [o'] ∧ fits 2 60 v ∧ Jr (M + 1) o') (fun _ _ => False) := by
  obtain ⟨vs, hv, hvs, rfl⟩ := h
  unfold m__law_odd_4
  have fh : fits 1 14 (.str "abcdefgh") := by decide +kernel
  have hz := (ht.app (cut_z t.length ht.1))
  have fz := hz.fits.mono (D' := 1) (W' := 14) (by decide) (by decide)
  have hz2 : t.length + (cutS "z" none (some (8 - (t.length : Int)))).length ≤ 16777216 := by have := hz.1; rw [app_len] at this; omega
  simp (config := { maxSteps := 4000000 }) only [w_bind, w_ret, w_ok, w_seq, w_if, w_ifE, w_test, w_and, w_or, w_not, w_andV, w_orV, w_notV, w_do, w_rt, w_asg, w_C, w_var, w_args0, w_args1, w_plc, w_own, w_val, w_prim, w_list, w_tup, w_call, w_callIo, w_callK, w_chain, w_for, w_items, w_rng, w_lc, w_meth1, w_setL2, w_stores, w_aug, w_move, w_str, mNx, mRetN, startE, rds, HE.rd, sh1, sh2, dp1, dp2, gAdd, DL.gSub, gLt, gLe, gGt, gGe, gOrd, gIsI, gLen, gIx, gIxAny, gInAny, isDct, gLenAny, enumOf, zipOf, dat, gMax2, gMin2, gAbs, gNeg, gAddI, gTupOf, gListOf, gTupAny, gListAny, gInt, gIsN, gSl0, gSlL, gSlH, gSlice, OD.erase, OD.noS, noSL, OD.shallow, OD.isD, OD.still, allStill, boolOf, aName, aTup, aAll, outs, wipeE, isL, DL.intAt, DL.putAll, allO, allD, itemsOf, rngA, rngB, fw_ok, gEq_ii, gNe_ii, gEq_ss, gNe_ss, List.getElem?_cons_zero, List.getElem?_cons_succ, List.set_cons_zero, List.set_cons_succ, List.length_cons, List.length_nil, List.map_cons, List.map_nil, List.cons_append, List.nil_append, List.replicate_succ, List.replicate_zero, List.all_cons, List.all_nil, List.eraseIdx_cons_zero, List.eraseIdx_cons_succ, List.drop_succ_cons, List.drop_zero, List.filterMap_cons, List.filterMap_nil, Option.some.injEq, exists_eq_left', exists_eq_left, exists_eq', exists_eq, Option.join_some, Option.map_some, Option.bind_some, if_true, if_false, true_and, and_true, Bool.true_and, Bool.and_true, Bool.not_true, Bool.not_false, reduceCtorEq, false_and, exists_false, Bool.false_eq_true, OD.d.injEq, OD.l.injEq, HE.o.injEq, HE.al.injEq, List.cons.injEq, PyData.bool.injEq, PyData.int.injEq, PyData.str.injEq, ite_true, ite_false, Nat.reduceSub, Nat.reduceAdd, Nat.reduceLT, Nat.reduceEqDiff, Bool.and_self, Bool.or_true, Bool.true_or, Bool.or_false, Bool.false_or, Bool.false_and, Bool.and_false, eraseL_map, isd_d, er_d, sz_ok, is_int_n, is_int_b, is_int_i, is_int_s, is_int_l, is_int_t, is_int_d, is_bool_n, is_bool_b, is_bool_i, is_bool_s, is_bool_l, is_bool_t, is_bool_d, is_str_n, is_str_b, is_str_i, is_str_s, is_str_l, is_str_t, is_str_d, is_tuple_n, is_tuple_b, is_tuple_i, is_tuple_s, is_tuple_l, is_tuple_t, is_tuple_d, is_list_n, is_list_b, is_list_i, is_list_s, is_list_l, is_list_t, is_list_d, is_dict_n, is_dict_b, is_dict_i, is_dict_s, is_dict_l, is_dict_t, is_dict_d, ic0, ic1, ic2, ic3, ic4, ic5, ic6, ic7, ic8, ic9, ic10, ic11, ic12, ic13, ic14, ic15, ic16, ic17, ic18, ic19, ic20, ic21, noSL_d, nmL_noS, eq_self, decide_true, decide_false, Int.reduceLT, Int.reduceLE, Int.reduceEq, Int.reduceAdd, Int.reduceSub, Int.reduceNeg, Nat.reduceLeDiff, gNe_nil, gEq_nil, nmL_len, nmL_isd, nmL_er, ex_pair, fApp, hv, hz2]
  refine (v_dip hJ 14 rfl (by decide) (by decide) (by omega)).imp ?_ (fun _ _ z => z.elim)
  rintro _ _ ⟨i, o1, rfl, rfl, hi, hJ1⟩
  simp (config := { maxSteps := 4000000 }) only [w_bind, w_ret, w_ok, w_seq, w_if, w_ifE, w_test, w_and, w_or, w_not, w_andV, w_orV, w_notV, w_do, w_rt, w_asg, w_C, w_var, w_args0, w_args1, w_plc, w_own, w_val, w_prim, w_list, w_tup, w_call, w_callIo, w_callK, w_chain, w_for, w_items, w_rng, w_lc, w_meth1, w_setL2, w_stores, w_aug, w_move, w_str, mNx, mRetN, startE, rds, HE.rd, sh1, sh2, dp1, dp2, gAdd, DL.gSub, gLt, gLe, gGt, gGe, gOrd, gIsI, gLen, gIx, gIxAny, gInAny, isDct, gLenAny, enumOf, zipOf, dat, gMax2, gMin2, gAbs, gNeg, gAddI, gTupOf, gListOf, gTupAny, gListAny, gInt, gIsN, gSl0, gSlL, gSlH, gSlice, OD.erase, OD.noS, noSL, OD.shallow, OD.isD, OD.still, allStill, boolOf, aName, aTup, aAll, outs, wipeE, isL, DL.intAt, DL.putAll, allO, allD, itemsOf, rngA, rngB, fw_ok, gEq_ii, gNe_ii, gEq_ss, gNe_ss, List.getElem?_cons_zero, List.getElem?_cons_succ, List.set_cons_zero, List.set_cons_succ, List.length_cons, List.length_nil, List.map_cons, List.map_nil, List.cons_append, List.nil_append, List.replicate_succ, List.replicate_zero, List.all_cons, List.all_nil, List.eraseIdx_cons_zero, List.eraseIdx_cons_succ, List.drop_succ_cons, List.drop_zero, List.filterMap_cons, List.filterMap_nil, Option.some.injEq, exists_eq_left', exists_eq_left, exists_eq', exists_eq, Option.join_some, Option.map_some, Option.bind_some, if_true, if_false, true_and, and_true, Bool.true_and, Bool.and_true, Bool.not_true, Bool.not_false, reduceCtorEq, false_and, exists_false, Bool.false_eq_true, OD.d.injEq, OD.l.injEq, HE.o.injEq, HE.al.injEq, List.cons.injEq, PyData.bool.injEq, PyData.int.injEq, PyData.str.injEq, ite_true, ite_false, Nat.reduceSub, Nat.reduceAdd, Nat.reduceLT, Nat.reduceEqDiff, Bool.and_self, Bool.or_true, Bool.true_or, Bool.or_false, Bool.false_or, Bool.false_and, Bool.and_false, eraseL_map, isd_d, er_d, sz_ok, is_int_n, is_int_b, is_int_i, is_int_s, is_int_l, is_int_t, is_int_d, is_bool_n, is_bool_b, is_bool_i, is_bool_s, is_bool_l, is_bool_t, is_bool_d, is_str_n, is_str_b, is_str_i, is_str_s, is_str_l, is_str_t, is_str_d, is_tuple_n, is_tuple_b, is_tuple_i, is_tuple_s, is_tuple_l, is_tuple_t, is_tuple_d, is_list_n, is_list_b, is_list_i, is_list_s, is_list_l, is_list_t, is_list_d, is_dict_n, is_dict_b, is_dict_i, is_dict_s, is_dict_l, is_dict_t, is_dict_d, ic0, ic1, ic2, ic3, ic4, ic5, ic6, ic7, ic8, ic9, ic10, ic11, ic12, ic13, ic14, ic15, ic16, ic17, ic18, ic19, ic20, ic21, noSL_d, nmL_noS, eq_self, decide_true, decide_false, Int.reduceLT, Int.reduceLE, Int.reduceEq, Int.reduceAdd, Int.reduceSub, Int.reduceNeg, Nat.reduceLeDiff, gNe_nil, gEq_nil, nmL_len, nmL_isd, nmL_er, ex_pair, fApp]
  have hall : ∀ v ∈ vs ++ [.tuple [.str w, .str "abcdefgh", .str (t ++ cutS "z" none (some (8 - (t.length : Int))))]], fits 2 60 v :=
    List.forall_mem_append.mpr ⟨hvs, by simpa using T14 _ (all3 fw fh fz) (by simp)⟩
  refine ix_any_l (fits 2 60) ?_ (by simp [hv]; omega) fun d hd => ?_
  · intro o ho
    obtain ⟨v, hv, rfl⟩ := List.mem_map.mp ho
    exact ⟨v, rfl, hall v hv⟩
  · exact ⟨d, o1, rfl, rfl, hd, hJ1⟩
end
section
variable {o : OD} {w s t : Str} {d : PyData} {M : Nat} {Q : Fl → DEnv → Prop} {Qx : Xn → DEnv → Prop}
theorem odd_34 (fw : fits 1 14 (.str w)) (fs : fits 1 14 (.str s)) (ft : fits 1 14 (.str t)) (fd : fits 1 14 d) (hJ : Jr M o) (hM : M ≤ 100000) (ht : sOk 8 t) (hq : ∀ e v o', outs (some 0) e = some [o'] → fits 2 60 v → Jr (M + 1) o' → Q (.rt (.d v)) e) {e : DEnv} (h : Io o w s t d 8 e) : Mwp (mSeq m__law_odd_3 m__law_odd_4 e) Q Qx :=
  seq_of (odd_3 fw fs ft fd h) fun e h => (odd_4 fw fs ft fd h hJ hM ht).imp (fun fl e _ z => by
    obtain ⟨v, o', rfl, h1, h2, h3⟩ := z
    exact hq e v o' h1 h2 h3) fun _ _ _ z => z.elim
theorem odd_1' (fw : fits 1 14 (.str w)) (fs : fits 1 14 (.str s)) (ft : fits 1 14 (.str t)) (fd : fits 1 14 d) {e : DEnv} (he : e = [some o, some (.d (.tuple [.str w, .str s, .str t])), some (.d (.str w)), some (.d (.str s)), some (.d (.str t)), some (.d d), none]) : Mwp (m__law_odd_1 e) (fun fl e => fl = .nx ∧ Io o w s t d 5 e) (fun _ _ => False) := he ▸ odd_1 fw fs ft fd
theorem odd_14 (fw : fits 1 14 (.str w)) (fs : fits 1 14 (.str s)) (ft : fits 1 14 (.str t)) (fd : fits 1 14 d) (hJ : Jr M o) (hM : M ≤ 100000) (ht : sOk 8 t) (hq : ∀ e v o', outs (some 0) e = some [o'] → fits 2 60 v → Jr (M + 1) o' → Q (.rt (.d v)) e) {e : DEnv} (he : e = [some o, some (.d (.tuple [.str w, .str s, .str t])), some (.d (.str w)), some (.d (.str s)), some (.d (.str t)), some (.d d), none]) :
    Mwp (mSeq m__law_odd_1 (mSeq m__law_odd_2 (mSeq m__law_odd_3 m__law_odd_4)) e) Q Qx :=
  seq_of (odd_1' fw fs ft fd he) fun e h => seq_of (odd_2 fw fs ft fd h) fun e h => odd_34 fw fs ft fd hJ hM ht hq h
end
theorem odd_0' {o : OD} {M : Nat} (h : Jr M o) (hM : M ≤ 10000) (w s t : Str) (hs : sOk 8 s) {e : DEnv} (he : e = [some o, some (.d (.tuple [.str w, .str s, .str t])), some (.d (.str w)), some (.d (.str s)), some (.d (.str t)), none, none]) : Mwp (m__law_odd_0 e)
    (fun fl e => fl = .nx ∧ ∃ d o', fits 1 10 d ∧ Jr (M + 1) o' ∧ e = [some o', some (.d (.tuple [.str w, .str s, .str t])), some (.d (.str w)), some (.d (.str s)), some (.d (.str t)), some (.d d), none]) (fun _ _ => False) := he ▸ odd_0 h hM w s t hs
theorem odd_04 {o : OD} {M : Nat} (h : Jr M o) (hM : M ≤ 10000) {w s t : Str} (hw : sOk 8 w) (hs : sOk 8 s) (ht : sOk 8 t) {Q : Fl → DEnv → Prop} {Qx : Xn → DEnv → Prop} (hq : ∀ e v o', outs (some 0) e = some [o'] → fits 2 60 v → Jr (M + 2) o' → Q (.rt (.d v)) e) {e : DEnv} (he : e = [some o, some (.d (.tuple [.str w, .str s, .str t])), some (.d (.str w)), some (.d (.str s)), some (.d (.str t)), none, none]) :
    Mwp (mSeq m__law_odd_0 (mSeq m__law_odd_1 (mSeq m__law_odd_2 (mSeq m__law_odd_3 m__law_odd_4))) e) Q Qx :=
  seq_of (odd_0' h hM w s t hs he) fun e z => match z with
    | ⟨d, o, hd, hJ, he⟩ => odd_14 (hw.fits.mono (by decide) (by decide)) (hs.fits.mono (by decide) (by decide)) (ht.fits.mono (by decide) (by decide)) (hd.mono (by decide) (by decide)) hJ (by omega) ht hq he
theorem odd_s {o : OD} {w s t : Str} {e : DEnv} (he : e = startE 7 [o, .d (.tuple [.str w, .str s, .str t])]) : Mwp (mAsg (mVar 1) (aTup [aName 2, aName 3, aName 4]) e) (fun fl e => fl = .nx ∧ e = [some o, some (.d (.tuple [.str w, .str s, .str t])), some (.d (.str w)), some (.d (.str s)), some (.d (.str t)), none, none]) (fun _ _ => False) := by
  subst he
  simp (config := { maxSteps := 4000000 }) only [w_bind, w_ret, w_ok, w_seq, w_if, w_ifE, w_test, w_and, w_or, w_not, w_andV, w_orV, w_notV, w_do, w_rt, w_asg, w_C, w_var, w_args0, w_args1, w_plc, w_own, w_val, w_prim, w_list, w_tup, w_call, w_callIo, w_callK, w_chain, w_for, w_items, w_rng, w_lc, w_meth1, w_setL2, w_stores, w_aug, w_move, w_str, mNx, mRetN, startE, rds, HE.rd, sh1, sh2, dp1, dp2, gAdd, DL.gSub, gLt, gLe, gGt, gGe, gOrd, gIsI, gLen, gIx, gIxAny, gInAny, isDct, gLenAny, enumOf, zipOf, dat, gMax2, gMin2, gAbs, gNeg, gAddI, gTupOf, gListOf, gTupAny, gListAny, gInt, gIsN, gSl0, gSlL, gSlH, gSlice, OD.erase, OD.noS, noSL, OD.shallow, OD.isD, OD.still, allStill, boolOf, aName, aTup, aAll, outs, wipeE, isL, DL.intAt, DL.putAll, allO, allD, itemsOf, rngA, rngB, fw_ok, gEq_ii, gNe_ii, gEq_ss, gNe_ss, List.getElem?_cons_zero, List.getElem?_cons_succ, List.set_cons_zero, List.set_cons_succ, List.length_cons, List.length_nil, List.map_cons, List.map_nil, List.cons_append, List.nil_append, List.replicate_succ, List.replicate_zero, List.all_cons, List.all_nil, List.eraseIdx_cons_zero, List.eraseIdx_cons_succ, List.drop_succ_cons, List.drop_zero, List.filterMap_cons, List.filterMap_nil, Option.some.injEq, exists_eq_left', exists_eq_left, exists_eq', exists_eq, Option.join_some, Option.map_some, Option.bind_some, if_true, if_false, true_and, and_true, Bool.true_and, Bool.and_true, Bool.not_true, Bool.not_false, reduceCtorEq, false_and, exists_false, Bool.false_eq_true, OD.d.injEq, OD.l.injEq, HE.o.injEq, HE.al.injEq, List.cons.injEq, PyData.bool.injEq, PyData.int.injEq, PyData.str.injEq, ite_true, ite_false, Nat.reduceSub, Nat.reduceAdd, Nat.reduceLT, Nat.reduceEqDiff, Bool.and_self, Bool.or_true, Bool.true_or, Bool.or_false, Bool.false_or, Bool.false_and, Bool.and_false, eraseL_map, isd_d, er_d, sz_ok, is_int_n, is_int_b, is_int_i, is_int_s, is_int_l, is_int_t, is_int_d, is_bool_n, is_bool_b, is_bool_i, is_bool_s, is_bool_l, is_bool_t, is_bool_d, is_str_n, is_str_b, is_str_i, is_str_s, is_str_l, is_str_t, is_str_d, is_tuple_n, is_tuple_b, is_tuple_i, is_tuple_s, is_tuple_l, is_tuple_t, is_tuple_d, is_list_n, is_list_b, is_list_i, is_list_s, is_list_l, is_list_t, is_list_d, is_dict_n, is_dict_b, is_dict_i, is_dict_s, is_dict_l, is_dict_t, is_dict_d, ic0, ic1, ic2, ic3, ic4, ic5, ic6, ic7, ic8, ic9, ic10, ic11, ic12, ic13, ic14, ic15, ic16, ic17, ic18, ic19, ic20, ic21, noSL_d, nmL_noS, eq_self, decide_true, decide_false, Int.reduceLT, Int.reduceLE, Int.reduceEq, Int.reduceAdd, Int.reduceSub, Int.reduceNeg, Nat.reduceLeDiff, gNe_nil, gEq_nil, nmL_len, nmL_isd, nmL_er, ex_pair, fApp]
theorem odd_run {o : OD} {M : Nat} (h : Jr M o) (hM : M ≤ 10000) {w s t : Str} (hw : sOk 8 w) (hs : sOk 8 s) (ht : sOk 8 t) {Q : Fl → DEnv → Prop} {Qx : Xn → DEnv → Prop} (hq : ∀ e v o', outs (some 0) e = some [o'] → fits 2 60 v → Jr (M + 2) o' → Q (.rt (.d v)) e) {e : DEnv} (he : e = startE 7 [o, .d (.tuple [.str w, .str s, .str t])]) : Mwp (m__law_odd e) Q Qx :=
  seq_of (odd_s he) fun e z => odd_04 h hM hw hs ht hq z
theorem v_odd {o : OD} {M : Nat} (h : Jr M o) (t : PyData) (ht : Trip t) (hM : M ≤ 10000) : FWp (f__law_odd [o, .d t]) (Odd M) (fun _ _ => False) := by
  obtain ⟨w, s, t, rfl, hw, hs, ht⟩ := ht
  unfold f__law_odd
  rw [fw_sem]
  have := odd_run (Q := fun fl e => ∃ l, outs (some 0) e = some l ∧ match fl with
    | .rt o => Odd M o l
    | .nx => Odd M (.d .none) l
    | _ => False) (Qx := fun x e => ∃ l, outs (some 0) e = some l ∧ False) h hM hw hs ht (fun e v o' h1 h2 h3 => ⟨_, h1, v, o', rfl, rfl, h2, h3⟩) rfl
  assumption
end LW

set_option Elab.async false
set_option linter.all false
set_option autoImplicit false
set_option maxRecDepth 100000
set_option maxHeartbeats 1000000
namespace LW
open PySem PySem.Spec PyProof.Rows L2 DL

theorem Trip.fits {t : PyData} (h : Trip t) : fits 1 27 t := by
  obtain ⟨w, s, t, rfl, hw, hs, ht⟩ := h
  exact fits_tup (W := 8) (all3 hw.fits hs.fits ht.fits) (Nat.le_refl 3)
theorem Trip.plain {t : PyData} (h : Trip t) : t.plain = true := by
  obtain ⟨w, s, t, rfl, hw, hs, ht⟩ := h
  rfl
abbrev OO := Option OD
theorem law_0 (ns : List Int) (k : OD) (o : OD) (hJ : Jr 0 o) (x2 x4 x5 x6 x7 x8 x9 x10 x11 x12 x13 : OO) :
    Mwp (m_law_0 [some (.s ns), some k, x2, some o, x4, x5, x6, x7, x8, x9, x10, x11, x12, x13])
     (fun fl e => fl = .nx ∧ ∃ o' ts, Jr 2000 o' ∧ ts.length ≤ 200 ∧ (∀ t ∈ ts, Trip t) ∧ e = [some (.s ns), some k, x2, some o', some (.d (.tuple ts)), x5, x6, x7, x8, x9, x10, x11, x12, x13]) (fun _ _ => False) := by
  unfold m_law_0
  simp (config := { maxSteps := 4000000 }) only [w_bind, w_ret, w_ok, w_seq, w_if, w_ifE, w_test, w_and, w_or, w_not, w_andV, w_orV, w_notV, w_do, w_rt, w_asg, w_C, w_var, w_args0, w_args1, w_plc, w_own, w_val, w_prim, w_list, w_tup, w_call, w_callIo, w_callK, w_chain, w_for, w_items, w_rng, w_lc, w_meth1, w_setL2, w_stores, w_aug, w_move, w_str, mNx, mRetN, startE, rds, HE.rd, sh1, sh2, dp1, dp2, gAdd, DL.gSub, gLt, gLe, gGt, gGe, gOrd, gIsI, gLen, gIx, gIxAny, gInAny, isDct, gLenAny, enumOf, zipOf, dat, gMax2, gMin2, gAbs, gNeg, gAddI, gTupOf, gListOf, gTupAny, gListAny, gInt, gIsN, gSl0, gSlL, gSlH, gSlice, OD.erase, OD.noS, noSL, OD.shallow, OD.isD, OD.still, allStill, boolOf, aName, aTup, aAll, outs, wipeE, isL, DL.intAt, DL.putAll, allO, allD, itemsOf, rngA, rngB, fw_ok, gEq_ii, gNe_ii, gEq_ss, gNe_ss, List.getElem?_cons_zero, List.getElem?_cons_succ, List.set_cons_zero, List.set_cons_succ, List.length_cons, List.length_nil, List.map_cons, List.map_nil, List.cons_append, List.nil_append, List.replicate_succ, List.replicate_zero, List.all_cons, List.all_nil, List.eraseIdx_cons_zero, List.eraseIdx_cons_succ, List.drop_succ_cons, List.drop_zero, List.filterMap_cons, List.filterMap_nil, Option.some.injEq, exists_eq_left', exists_eq_left, exists_eq', exists_eq, Option.join_some, Option.map_some, Option.bind_some, if_true, if_false, true_and, and_true, Bool.true_and, Bool.and_true, Bool.not_true, Bool.not_false, reduceCtorEq, false_and, exists_false, Bool.false_eq_true, OD.d.injEq, OD.l.injEq, HE.o.injEq, HE.al.injEq, List.cons.injEq, PyData.bool.injEq, PyData.int.injEq, PyData.str.injEq, ite_true, ite_false, Nat.reduceSub, Nat.reduceAdd, Nat.reduceLT, Nat.reduceEqDiff, Bool.and_self, Bool.or_true, Bool.true_or, Bool.or_false, Bool.false_or, Bool.false_and, Bool.and_false, eraseL_map, isd_d, er_d, sz_ok, is_int_n, is_int_b, is_int_i, is_int_s, is_int_l, is_int_t, is_int_d, is_bool_n, is_bool_b, is_bool_i, is_bool_s, is_bool_l, is_bool_t, is_bool_d, is_str_n, is_str_b, is_str_i, is_str_s, is_str_l, is_str_t, is_str_d, is_tuple_n, is_tuple_b, is_tuple_i, is_tuple_s, is_tuple_l, is_tuple_t, is_tuple_d, is_list_n, is_list_b, is_list_i, is_list_s, is_list_l, is_list_t, is_list_d, is_dict_n, is_dict_b, is_dict_i, is_dict_s, is_dict_l, is_dict_t, is_dict_d, ic0, ic1, ic2, ic3, ic4, ic5, ic6, ic7, ic8, ic9, ic10, ic11, ic12, ic13, ic14, ic15, ic16, ic17, ic18, ic19, ic20, ic21, noSL_d, nmL_noS, eq_self, decide_true, decide_false, Int.reduceLT, Int.reduceLE, Int.reduceEq, Int.reduceAdd, Int.reduceSub, Int.reduceNeg, Nat.reduceLeDiff, gNe_nil, gEq_nil, nmL_len, nmL_isd, nmL_er, ex_pair, fApp]
  refine (v_dip hJ 19 rfl (by decide) (by decide) (by omega)).imp ?_ (fun _ _ z => z.elim)
  rintro _ _ ⟨n, o1, rfl, rfl, hn, hJ1⟩
  simp (config := { maxSteps := 4000000 }) only [w_bind, w_ret, w_ok, w_seq, w_if, w_ifE, w_test, w_and, w_or, w_not, w_andV, w_orV, w_notV, w_do, w_rt, w_asg, w_C, w_var, w_args0, w_args1, w_plc, w_own, w_val, w_prim, w_list, w_tup, w_call, w_callIo, w_callK, w_chain, w_for, w_items, w_rng, w_lc, w_meth1, w_setL2, w_stores, w_aug, w_move, w_str, mNx, mRetN, startE, rds, HE.rd, sh1, sh2, dp1, dp2, gAdd, DL.gSub, gLt, gLe, gGt, gGe, gOrd, gIsI, gLen, gIx, gIxAny, gInAny, isDct, gLenAny, enumOf, zipOf, dat, gMax2, gMin2, gAbs, gNeg, gAddI, gTupOf, gListOf, gTupAny, gListAny, gInt, gIsN, gSl0, gSlL, gSlH, gSlice, OD.erase, OD.noS, noSL, OD.shallow, OD.isD, OD.still, allStill, boolOf, aName, aTup, aAll, outs, wipeE, isL, DL.intAt, DL.putAll, allO, allD, itemsOf, rngA, rngB, fw_ok, gEq_ii, gNe_ii, gEq_ss, gNe_ss, List.getElem?_cons_zero, List.getElem?_cons_succ, List.set_cons_zero, List.set_cons_succ, List.length_cons, List.length_nil, List.map_cons, List.map_nil, List.cons_append, List.nil_append, List.replicate_succ, List.replicate_zero, List.all_cons, List.all_nil, List.eraseIdx_cons_zero, List.eraseIdx_cons_succ, List.drop_succ_cons, List.drop_zero, List.filterMap_cons, List.filterMap_nil, Option.some.injEq, exists_eq_left', exists_eq_left, exists_eq', exists_eq, Option.join_some, Option.map_some, Option.bind_some, if_true, if_false, true_and, and_true, Bool.true_and, Bool.and_true, Bool.not_true, Bool.not_false, reduceCtorEq, false_and, exists_false, Bool.false_eq_true, OD.d.injEq, OD.l.injEq, HE.o.injEq, HE.al.injEq, List.cons.injEq, PyData.bool.injEq, PyData.int.injEq, PyData.str.injEq, ite_true, ite_false, Nat.reduceSub, Nat.reduceAdd, Nat.reduceLT, Nat.reduceEqDiff, Bool.and_self, Bool.or_true, Bool.true_or, Bool.or_false, Bool.false_or, Bool.false_and, Bool.and_false, eraseL_map, isd_d, er_d, sz_ok, is_int_n, is_int_b, is_int_i, is_int_s, is_int_l, is_int_t, is_int_d, is_bool_n, is_bool_b, is_bool_i, is_bool_s, is_bool_l, is_bool_t, is_bool_d, is_str_n, is_str_b, is_str_i, is_str_s, is_str_l, is_str_t, is_str_d, is_tuple_n, is_tuple_b, is_tuple_i, is_tuple_s, is_tuple_l, is_tuple_t, is_tuple_d, is_list_n, is_list_b, is_list_i, is_list_s, is_list_l, is_list_t, is_list_d, is_dict_n, is_dict_b, is_dict_i, is_dict_s, is_dict_l, is_dict_t, is_dict_d, ic0, ic1, ic2, ic3, ic4, ic5, ic6, ic7, ic8, ic9, ic10, ic11, ic12, ic13, ic14, ic15, ic16, ic17, ic18, ic19, ic20, ic21, noSL_d, nmL_noS, eq_self, decide_true, decide_false, Int.reduceLT, Int.reduceLE, Int.reduceEq, Int.reduceAdd, Int.reduceSub, Int.reduceNeg, Nat.reduceLeDiff, gNe_nil, gEq_nil, nmL_len, nmL_isd, nmL_er, ex_pair, fApp]
  have q := v_names (z := 2 + (n : Int)) hJ1 (2 + n) (by omega) (by omega) (by omega)
  generalize f__law_names [o1, OD.d (PyData.int (2 + (n : Int)))] = r at q ⊢
  refine q.imp ?_ (fun _ _ z => z.elim)
  rintro _ _ ⟨xs, o2, rfl, rfl, hl, hxs, hJ2⟩
  simp (config := { maxSteps := 4000000 }) only [w_bind, w_ret, w_ok, w_seq, w_if, w_ifE, w_test, w_and, w_or, w_not, w_andV, w_orV, w_notV, w_do, w_rt, w_asg, w_C, w_var, w_args0, w_args1, w_plc, w_own, w_val, w_prim, w_list, w_tup, w_call, w_callIo, w_callK, w_chain, w_for, w_items, w_rng, w_lc, w_meth1, w_setL2, w_stores, w_aug, w_move, w_str, mNx, mRetN, startE, rds, HE.rd, sh1, sh2, dp1, dp2, gAdd, DL.gSub, gLt, gLe, gGt, gGe, gOrd, gIsI, gLen, gIx, gIxAny, gInAny, isDct, gLenAny, enumOf, zipOf, dat, gMax2, gMin2, gAbs, gNeg, gAddI, gTupOf, gListOf, gTupAny, gListAny, gInt, gIsN, gSl0, gSlL, gSlH, gSlice, OD.erase, OD.noS, noSL, OD.shallow, OD.isD, OD.still, allStill, boolOf, aName, aTup, aAll, outs, wipeE, isL, DL.intAt, DL.putAll, allO, allD, itemsOf, rngA, rngB, fw_ok, gEq_ii, gNe_ii, gEq_ss, gNe_ss, List.getElem?_cons_zero, List.getElem?_cons_succ, List.set_cons_zero, List.set_cons_succ, List.length_cons, List.length_nil, List.map_cons, List.map_nil, List.cons_append, List.nil_append, List.replicate_succ, List.replicate_zero, List.all_cons, List.all_nil, List.eraseIdx_cons_zero, List.eraseIdx_cons_succ, List.drop_succ_cons, List.drop_zero, List.filterMap_cons, List.filterMap_nil, Option.some.injEq, exists_eq_left', exists_eq_left, exists_eq', exists_eq, Option.join_some, Option.map_some, Option.bind_some, if_true, if_false, true_and, and_true, Bool.true_and, Bool.and_true, Bool.not_true, Bool.not_false, reduceCtorEq, false_and, exists_false, Bool.false_eq_true, OD.d.injEq, OD.l.injEq, HE.o.injEq, HE.al.injEq, List.cons.injEq, PyData.bool.injEq, PyData.int.injEq, PyData.str.injEq, ite_true, ite_false, Nat.reduceSub, Nat.reduceAdd, Nat.reduceLT, Nat.reduceEqDiff, Bool.and_self, Bool.or_true, Bool.true_or, Bool.or_false, Bool.false_or, Bool.false_and, Bool.and_false, eraseL_map, isd_d, er_d, sz_ok, is_int_n, is_int_b, is_int_i, is_int_s, is_int_l, is_int_t, is_int_d, is_bool_n, is_bool_b, is_bool_i, is_bool_s, is_bool_l, is_bool_t, is_bool_d, is_str_n, is_str_b, is_str_i, is_str_s, is_str_l, is_str_t, is_str_d, is_tuple_n, is_tuple_b, is_tuple_i, is_tuple_s, is_tuple_l, is_tuple_t, is_tuple_d, is_list_n, is_list_b, is_list_i, is_list_s, is_list_l, is_list_t, is_list_d, is_dict_n, is_dict_b, is_dict_i, is_dict_s, is_dict_l, is_dict_t, is_dict_d, ic0, ic1, ic2, ic3, ic4, ic5, ic6, ic7, ic8, ic9, ic10, ic11, ic12, ic13, ic14, ic15, ic16, ic17, ic18, ic19, ic20, ic21, noSL_d, nmL_noS, eq_self, decide_true, decide_false, Int.reduceLT, Int.reduceLE, Int.reduceEq, Int.reduceAdd, Int.reduceSub, Int.reduceNeg, Nat.reduceLeDiff, gNe_nil, gEq_nil, nmL_len, nmL_isd, nmL_er, ex_pair, fApp]
  refine (v_dip hJ2 2 rfl (by decide) (by decide) (by omega)).imp ?_ (fun _ _ z => z.elim)
  rintro _ _ ⟨q, o3, rfl, rfl, hq, hJ3⟩
  simp (config := { maxSteps := 4000000 }) only [w_bind, w_ret, w_ok, w_seq, w_if, w_ifE, w_test, w_and, w_or, w_not, w_andV, w_orV, w_notV, w_do, w_rt, w_asg, w_C, w_var, w_args0, w_args1, w_plc, w_own, w_val, w_prim, w_list, w_tup, w_call, w_callIo, w_callK, w_chain, w_for, w_items, w_rng, w_lc, w_meth1, w_setL2, w_stores, w_aug, w_move, w_str, mNx, mRetN, startE, rds, HE.rd, sh1, sh2, dp1, dp2, gAdd, DL.gSub, gLt, gLe, gGt, gGe, gOrd, gIsI, gLen, gIx, gIxAny, gInAny, isDct, gLenAny, enumOf, zipOf, dat, gMax2, gMin2, gAbs, gNeg, gAddI, gTupOf, gListOf, gTupAny, gListAny, gInt, gIsN, gSl0, gSlL, gSlH, gSlice, OD.erase, OD.noS, noSL, OD.shallow, OD.isD, OD.still, allStill, boolOf, aName, aTup, aAll, outs, wipeE, isL, DL.intAt, DL.putAll, allO, allD, itemsOf, rngA, rngB, fw_ok, gEq_ii, gNe_ii, gEq_ss, gNe_ss, List.getElem?_cons_zero, List.getElem?_cons_succ, List.set_cons_zero, List.set_cons_succ, List.length_cons, List.length_nil, List.map_cons, List.map_nil, List.cons_append, List.nil_append, List.replicate_succ, List.replicate_zero, List.all_cons, List.all_nil, List.eraseIdx_cons_zero, List.eraseIdx_cons_succ, List.drop_succ_cons, List.drop_zero, List.filterMap_cons, List.filterMap_nil, Option.some.injEq, exists_eq_left', exists_eq_left, exists_eq', exists_eq, Option.join_some, Option.map_some, Option.bind_some, if_true, if_false, true_and, and_true, Bool.true_and, Bool.and_true, Bool.not_true, Bool.not_false, reduceCtorEq, false_and, exists_false, Bool.false_eq_true, OD.d.injEq, OD.l.injEq, HE.o.injEq, HE.al.injEq, List.cons.injEq, PyData.bool.injEq, PyData.int.injEq, PyData.str.injEq, ite_true, ite_false, Nat.reduceSub, Nat.reduceAdd, Nat.reduceLT, Nat.reduceEqDiff, Bool.and_self, Bool.or_true, Bool.true_or, Bool.or_false, Bool.false_or, Bool.false_and, Bool.and_false, eraseL_map, isd_d, er_d, sz_ok, is_int_n, is_int_b, is_int_i, is_int_s, is_int_l, is_int_t, is_int_d, is_bool_n, is_bool_b, is_bool_i, is_bool_s, is_bool_l, is_bool_t, is_bool_d, is_str_n, is_str_b, is_str_i, is_str_s, is_str_l, is_str_t, is_str_d, is_tuple_n, is_tuple_b, is_tuple_i, is_tuple_s, is_tuple_l, is_tuple_t, is_tuple_d, is_list_n, is_list_b, is_list_i, is_list_s, is_list_l, is_list_t, is_list_d, is_dict_n, is_dict_b, is_dict_i, is_dict_s, is_dict_l, is_dict_t, is_dict_d, ic0, ic1, ic2, ic3, ic4, ic5, ic6, ic7, ic8, ic9, ic10, ic11, ic12, ic13, ic14, ic15, ic16, ic17, ic18, ic19, ic20, ic21, noSL_d, nmL_noS, eq_self, decide_true, decide_false, Int.reduceLT, Int.reduceLE, Int.reduceEq, Int.reduceAdd, Int.reduceSub, Int.reduceNeg, Nat.reduceLeDiff, gNe_nil, gEq_nil, nmL_len, nmL_isd, nmL_er, ex_pair, fApp]
  refine ix_any_l (fun d => ∃ n : Nat, d = .int n ∧ n ≤ 200) ?_ (by simp only [List.length_cons, List.length_nil]; omega) ?_
  · intro o ho
    simp only [List.mem_cons, List.not_mem_nil, or_false] at ho
    rcases ho with rfl | rfl
    · exact ⟨_, rfl, 9, rfl, by omega⟩
    · exact ⟨_, rfl, 200, rfl, by omega⟩
  rintro _ ⟨most, rfl, hm⟩
  simp (config := { maxSteps := 4000000 }) only [w_bind, w_ret, w_ok, w_seq, w_if, w_ifE, w_test, w_and, w_or, w_not, w_andV, w_orV, w_notV, w_do, w_rt, w_asg, w_C, w_var, w_args0, w_args1, w_plc, w_own, w_val, w_prim, w_list, w_tup, w_call, w_callIo, w_callK, w_chain, w_for, w_items, w_rng, w_lc, w_meth1, w_setL2, w_stores, w_aug, w_move, w_str, mNx, mRetN, startE, rds, HE.rd, sh1, sh2, dp1, dp2, gAdd, DL.gSub, gLt, gLe, gGt, gGe, gOrd, gIsI, gLen, gIx, gIxAny, gInAny, isDct, gLenAny, enumOf, zipOf, dat, gMax2, gMin2, gAbs, gNeg, gAddI, gTupOf, gListOf, gTupAny, gListAny, gInt, gIsN, gSl0, gSlL, gSlH, gSlice, OD.erase, OD.noS, noSL, OD.shallow, OD.isD, OD.still, allStill, boolOf, aName, aTup, aAll, outs, wipeE, isL, DL.intAt, DL.putAll, allO, allD, itemsOf, rngA, rngB, fw_ok, gEq_ii, gNe_ii, gEq_ss, gNe_ss, List.getElem?_cons_zero, List.getElem?_cons_succ, List.set_cons_zero, List.set_cons_succ, List.length_cons, List.length_nil, List.map_cons, List.map_nil, List.cons_append, List.nil_append, List.replicate_succ, List.replicate_zero, List.all_cons, List.all_nil, List.eraseIdx_cons_zero, List.eraseIdx_cons_succ, List.drop_succ_cons, List.drop_zero, List.filterMap_cons, List.filterMap_nil, Option.some.injEq, exists_eq_left', exists_eq_left, exists_eq', exists_eq, Option.join_some, Option.map_some, Option.bind_some, if_true, if_false, true_and, and_true, Bool.true_and, Bool.and_true, Bool.not_true, Bool.not_false, reduceCtorEq, false_and, exists_false, Bool.false_eq_true, OD.d.injEq, OD.l.injEq, HE.o.injEq, HE.al.injEq, List.cons.injEq, PyData.bool.injEq, PyData.int.injEq, PyData.str.injEq, ite_true, ite_false, Nat.reduceSub, Nat.reduceAdd, Nat.reduceLT, Nat.reduceEqDiff, Bool.and_self, Bool.or_true, Bool.true_or, Bool.or_false, Bool.false_or, Bool.false_and, Bool.and_false, eraseL_map, isd_d, er_d, sz_ok, is_int_n, is_int_b, is_int_i, is_int_s, is_int_l, is_int_t, is_int_d, is_bool_n, is_bool_b, is_bool_i, is_bool_s, is_bool_l, is_bool_t, is_bool_d, is_str_n, is_str_b, is_str_i, is_str_s, is_str_l, is_str_t, is_str_d, is_tuple_n, is_tuple_b, is_tuple_i, is_tuple_s, is_tuple_l, is_tuple_t, is_tuple_d, is_list_n, is_list_b, is_list_i, is_list_s, is_list_l, is_list_t, is_list_d, is_dict_n, is_dict_b, is_dict_i, is_dict_s, is_dict_l, is_dict_t, is_dict_d, ic0, ic1, ic2, ic3, ic4, ic5, ic6, ic7, ic8, ic9, ic10, ic11, ic12, ic13, ic14, ic15, ic16, ic17, ic18, ic19, ic20, ic21, noSL_d, nmL_noS, eq_self, decide_true, decide_false, Int.reduceLT, Int.reduceLE, Int.reduceEq, Int.reduceAdd, Int.reduceSub, Int.reduceNeg, Nat.reduceLeDiff, gNe_nil, gEq_nil, nmL_len, nmL_isd, nmL_er, ex_pair, fApp]
  have q := v_plan hJ3 xs hxs (by omega) (by omega) most rfl hm (by omega)
  generalize f__law_plan [o3, OD.d (PyData.tuple (xs.map .str)), OD.d (PyData.int (most : Int))] = r at q ⊢
  refine q.imp ?_ (fun _ _ z => z.elim)
  rintro _ _ ⟨ts, o4, rfl, rfl, hl2, hts, hJ4⟩
  simp (config := { maxSteps := 4000000 }) only [w_bind, w_ret, w_ok, w_seq, w_if, w_ifE, w_test, w_and, w_or, w_not, w_andV, w_orV, w_notV, w_do, w_rt, w_asg, w_C, w_var, w_args0, w_args1, w_plc, w_own, w_val, w_prim, w_list, w_tup, w_call, w_callIo, w_callK, w_chain, w_for, w_items, w_rng, w_lc, w_meth1, w_setL2, w_stores, w_aug, w_move, w_str, mNx, mRetN, startE, rds, HE.rd, sh1, sh2, dp1, dp2, gAdd, DL.gSub, gLt, gLe, gGt, gGe, gOrd, gIsI, gLen, gIx, gIxAny, gInAny, isDct, gLenAny, enumOf, zipOf, dat, gMax2, gMin2, gAbs, gNeg, gAddI, gTupOf, gListOf, gTupAny, gListAny, gInt, gIsN, gSl0, gSlL, gSlH, gSlice, OD.erase, OD.noS, noSL, OD.shallow, OD.isD, OD.still, allStill, boolOf, aName, aTup, aAll, outs, wipeE, isL, DL.intAt, DL.putAll, allO, allD, itemsOf, rngA, rngB, fw_ok, gEq_ii, gNe_ii, gEq_ss, gNe_ss, List.getElem?_cons_zero, List.getElem?_cons_succ, List.set_cons_zero, List.set_cons_succ, List.length_cons, List.length_nil, List.map_cons, List.map_nil, List.cons_append, List.nil_append, List.replicate_succ, List.replicate_zero, List.all_cons, List.all_nil, List.eraseIdx_cons_zero, List.eraseIdx_cons_succ, List.drop_succ_cons, List.drop_zero, List.filterMap_cons, List.filterMap_nil, Option.some.injEq, exists_eq_left', exists_eq_left, exists_eq', exists_eq, Option.join_some, Option.map_some, Option.bind_some, if_true, if_false, true_and, and_true, Bool.true_and, Bool.and_true, Bool.not_true, Bool.not_false, reduceCtorEq, false_and, exists_false, Bool.false_eq_true, OD.d.injEq, OD.l.injEq, HE.o.injEq, HE.al.injEq, List.cons.injEq, PyData.bool.injEq, PyData.int.injEq, PyData.str.injEq, ite_true, ite_false, Nat.reduceSub, Nat.reduceAdd, Nat.reduceLT, Nat.reduceEqDiff, Bool.and_self, Bool.or_true, Bool.true_or, Bool.or_false, Bool.false_or, Bool.false_and, Bool.and_false, eraseL_map, isd_d, er_d, sz_ok, is_int_n, is_int_b, is_int_i, is_int_s, is_int_l, is_int_t, is_int_d, is_bool_n, is_bool_b, is_bool_i, is_bool_s, is_bool_l, is_bool_t, is_bool_d, is_str_n, is_str_b, is_str_i, is_str_s, is_str_l, is_str_t, is_str_d, is_tuple_n, is_tuple_b, is_tuple_i, is_tuple_s, is_tuple_l, is_tuple_t, is_tuple_d, is_list_n, is_list_b, is_list_i, is_list_s, is_list_l, is_list_t, is_list_d, is_dict_n, is_dict_b, is_dict_i, is_dict_s, is_dict_l, is_dict_t, is_dict_d, ic0, ic1, ic2, ic3, ic4, ic5, ic6, ic7, ic8, ic9, ic10, ic11, ic12, ic13, ic14, ic15, ic16, ic17, ic18, ic19, ic20, ic21, noSL_d, nmL_noS, eq_self, decide_true, decide_false, Int.reduceLT, Int.reduceLE, Int.reduceEq, Int.reduceAdd, Int.reduceSub, Int.reduceNeg, Nat.reduceLeDiff, gNe_nil, gEq_nil, nmL_len, nmL_isd, nmL_er, ex_pair, fApp]
  exact ⟨o4, ts, hJ4.mono (by omega), by omega, hts, by (repeat' apply And.intro) <;> first | rfl | simp⟩
/-- what is judged -/
def Vals (vs : List PyData) : Prop := ∀ v ∈ vs, fits 5 60000 v
theorem law_1 (ns : List Int) (k : OD) (o : OD) (ts : List PyData) (hl : ts.length ≤ 200) (hts : ∀ t ∈ ts, Trip t) (x2 x5 x6 x7 x8 x9 x10 x11 x12 x13 : OO) :
    Mwp (m_law_1 [some (.s ns), some k, x2, some o, some (.d (.tuple ts)), x5, x6, x7, x8, x9, x10, x11, x12, x13])
     (fun fl e => fl = .nx ∧ ∃ vs, Vals vs ∧ vs.length = 13 ∧ e = [some (.s ns), some k, x2, some o, some (.d (.tuple ts)), some (.l (vs.map .d)), x6, x7, x8, x9, x10, x11, x12, x13]) (fun _ _ => False) := by
  unfold m_law_1
  have h1 : ts.length + 1 ≤ 16777216 := by omega
  simp (config := { maxSteps := 4000000 }) only [w_bind, w_ret, w_ok, w_seq, w_if, w_ifE, w_test, w_and, w_or, w_not, w_andV, w_orV, w_notV, w_do, w_rt, w_asg, w_C, w_var, w_args0, w_args1, w_plc, w_own, w_val, w_prim, w_list, w_tup, w_call, w_callIo, w_callK, w_chain, w_for, w_items, w_rng, w_lc, w_meth1, w_setL2, w_stores, w_aug, w_move, w_str, mNx, mRetN, startE, rds, HE.rd, sh1, sh2, dp1, dp2, gAdd, DL.gSub, gLt, gLe, gGt, gGe, gOrd, gIsI, gLen, gIx, gIxAny, gInAny, isDct, gLenAny, enumOf, zipOf, dat, gMax2, gMin2, gAbs, gNeg, gAddI, gTupOf, gListOf, gTupAny, gListAny, gInt, gIsN, gSl0, gSlL, gSlH, gSlice, OD.erase, OD.noS, noSL, OD.shallow, OD.isD, OD.still, allStill, boolOf, aName, aTup, aAll, outs, wipeE, isL, DL.intAt, DL.putAll, allO, allD, itemsOf, rngA, rngB, fw_ok, gEq_ii, gNe_ii, gEq_ss, gNe_ss, List.getElem?_cons_zero, List.getElem?_cons_succ, List.set_cons_zero, List.set_cons_succ, List.length_cons, List.length_nil, List.map_cons, List.map_nil, List.cons_append, List.nil_append, List.replicate_succ, List.replicate_zero, List.all_cons, List.all_nil, List.eraseIdx_cons_zero, List.eraseIdx_cons_succ, List.drop_succ_cons, List.drop_zero, List.filterMap_cons, List.filterMap_nil, Option.some.injEq, exists_eq_left', exists_eq_left, exists_eq', exists_eq, Option.join_some, Option.map_some, Option.bind_some, if_true, if_false, true_and, and_true, Bool.true_and, Bool.and_true, Bool.not_true, Bool.not_false, reduceCtorEq, false_and, exists_false, Bool.false_eq_true, OD.d.injEq, OD.l.injEq, HE.o.injEq, HE.al.injEq, List.cons.injEq, PyData.bool.injEq, PyData.int.injEq, PyData.str.injEq, ite_true, ite_false, Nat.reduceSub, Nat.reduceAdd, Nat.reduceLT, Nat.reduceEqDiff, Bool.and_self, Bool.or_true, Bool.true_or, Bool.or_false, Bool.false_or, Bool.false_and, Bool.and_false, eraseL_map, isd_d, er_d, sz_ok, is_int_n, is_int_b, is_int_i, is_int_s, is_int_l, is_int_t, is_int_d, is_bool_n, is_bool_b, is_bool_i, is_bool_s, is_bool_l, is_bool_t, is_bool_d, is_str_n, is_str_b, is_str_i, is_str_s, is_str_l, is_str_t, is_str_d, is_tuple_n, is_tuple_b, is_tuple_i, is_tuple_s, is_tuple_l, is_tuple_t, is_tuple_d, is_list_n, is_list_b, is_list_i, is_list_s, is_list_l, is_list_t, is_list_d, is_dict_n, is_dict_b, is_dict_i, is_dict_s, is_dict_l, is_dict_t, is_dict_d, ic0, ic1, ic2, ic3, ic4, ic5, ic6, ic7, ic8, ic9, ic10, ic11, ic12, ic13, ic14, ic15, ic16, ic17, ic18, ic19, ic20, ic21, noSL_d, nmL_noS, eq_self, decide_true, decide_false, Int.reduceLT, Int.reduceLE, Int.reduceEq, Int.reduceAdd, Int.reduceSub, Int.reduceNeg, Nat.reduceLeDiff, gNe_nil, gEq_nil, nmL_len, nmL_isd, nmL_er, ex_pair, fApp, h1]
  have f : ∀ t ∈ ts, fits 1 27 t := fun t ht => (hts t ht).fits
  have f1 : fits 2 5600 (.tuple ts) := fits_tup f hl
  have f2 : fits 2 5600 (.list ts) := fits_list f hl
  have f3 : fits 2 5600 (.tuple (cutD ts none (some 1))) := fits_tup (fun t ht => f t (cutD_mem ht)) (Nat.le_trans (cutD_len _ _ _) hl)
  have f4 : fits 2 (28 * 201) (.tuple (ts ++ [.none])) := fits_tup (List.forall_mem_append.mpr ⟨f, by simpa using (by decide +kernel : fits 1 27 .none)⟩) (by simp; omega)
  have f5 : fits 3 (5601 * 1) (.tuple [.tuple ts]) := fits_tup (by simpa using f1) (Nat.le_refl 1)
  have c0 : fits 5 60000 .none := by decide +kernel
  have c1 : fits 5 60000 (.int 0) := by decide +kernel
  have c2 : fits 5 60000 (.str "") := by decide +kernel
  have c3 : fits 5 60000 (.str "over") := by decide +kernel
  have c4 : fits 5 60000 (.tuple []) := by decide +kernel
  have c5 : fits 5 60000 (.list []) := by decide +kernel
  have c6 : fits 5 60000 (.dict []) := by decide +kernel
  have c7 : fits 5 60000 (.bool true) := by decide +kernel
  refine ⟨[.tuple ts, .list ts, .tuple (cutD ts none (some 1)), .tuple (ts ++ [.none]), .tuple [.tuple ts], .none, .int 0, .str "", .str "over", .tuple [], .list [], .dict [], .bool true], ?_, rfl, by (repeat' apply And.intro) <;> first | rfl | simp⟩
  unfold Vals
  simp only [List.forall_mem_cons, List.not_mem_nil, false_implies, implies_true, and_true, c0, c1, c2, c3, c4, c5, c6, c7]
  exact ⟨f1.mono (by decide) (by decide), f2.mono (by decide) (by decide), f3.mono (by decide) (by decide), f4.mono (by decide) (by decide), f5.mono (by decide) (by decide)⟩
theorem law_2 (ns : List Int) (k : OD) (o : OD) (ts vs : List PyData) (hl : ts.length ≤ 200) (hts : ∀ t ∈ ts, Trip t) (hv : Vals vs) (hvl : vs.length ≤ 1000) (i : Nat) (hi : i < ts.length) (d : PyData) (hd : fits 2 60 d) (x2 x6 x7 x10 x11 x12 x13 : OO) :
    Mwp (m_law_2 [some (.s ns), some k, x2, some o, some (.d (.tuple ts)), some (.l (vs.map .d)), x6, x7, some (.d (.int (i : Int))), some (.d d), x10, x11, x12, x13])
     (fun fl e => fl = .nx ∧ ∃ vs', Vals vs' ∧ vs'.length = vs.length + 3 ∧ e = [some (.s ns), some k, x2, some o, some (.d (.tuple ts)), some (.l (vs'.map .d)), x6, x7, some (.d (.int (i : Int))), some (.d d), x10, x11, x12, x13]) (fun _ _ => False) := by
  unfold m_law_2
  have l1 := cutD_len ts none (some (i : Int))
  have l2 := cutD_len ts (some ((i : Int) + 1)) none
  have h1 : (cutD ts none (some (i : Int))).length + 1 ≤ 16777216 := by omega
  have h2 : (cutD ts none (some (i : Int)) ++ [d]).length + (cutD ts (some ((i : Int) + 1)) none).length ≤ 16777216 := by simp; omega
  have h3 : vs.length + 3 ≤ 16777216 := by omega
  simp (config := { maxSteps := 4000000 }) only [w_bind, w_ret, w_ok, w_seq, w_if, w_ifE, w_test, w_and, w_or, w_not, w_andV, w_orV, w_notV, w_do, w_rt, w_asg, w_C, w_var, w_args0, w_args1, w_plc, w_own, w_val, w_prim, w_list, w_tup, w_call, w_callIo, w_callK, w_chain, w_for, w_items, w_rng, w_lc, w_meth1, w_setL2, w_stores, w_aug, w_move, w_str, mNx, mRetN, startE, rds, HE.rd, sh1, sh2, dp1, dp2, gAdd, DL.gSub, gLt, gLe, gGt, gGe, gOrd, gIsI, gLen, gIx, gIxAny, gInAny, isDct, gLenAny, enumOf, zipOf, dat, gMax2, gMin2, gAbs, gNeg, gAddI, gTupOf, gListOf, gTupAny, gListAny, gInt, gIsN, gSl0, gSlL, gSlH, gSlice, OD.erase, OD.noS, noSL, OD.shallow, OD.isD, OD.still, allStill, boolOf, aName, aTup, aAll, outs, wipeE, isL, DL.intAt, DL.putAll, allO, allD, itemsOf, rngA, rngB, fw_ok, gEq_ii, gNe_ii, gEq_ss, gNe_ss, List.getElem?_cons_zero, List.getElem?_cons_succ, List.set_cons_zero, List.set_cons_succ, List.length_cons, List.length_nil, List.map_cons, List.map_nil, List.cons_append, List.nil_append, List.replicate_succ, List.replicate_zero, List.all_cons, List.all_nil, List.eraseIdx_cons_zero, List.eraseIdx_cons_succ, List.drop_succ_cons, List.drop_zero, List.filterMap_cons, List.filterMap_nil, Option.some.injEq, exists_eq_left', exists_eq_left, exists_eq', exists_eq, Option.join_some, Option.map_some, Option.bind_some, if_true, if_false, true_and, and_true, Bool.true_and, Bool.and_true, Bool.not_true, Bool.not_false, reduceCtorEq, false_and, exists_false, Bool.false_eq_true, OD.d.injEq, OD.l.injEq, HE.o.injEq, HE.al.injEq, List.cons.injEq, PyData.bool.injEq, PyData.int.injEq, PyData.str.injEq, ite_true, ite_false, Nat.reduceSub, Nat.reduceAdd, Nat.reduceLT, Nat.reduceEqDiff, Bool.and_self, Bool.or_true, Bool.true_or, Bool.or_false, Bool.false_or, Bool.false_and, Bool.and_false, eraseL_map, isd_d, er_d, sz_ok, is_int_n, is_int_b, is_int_i, is_int_s, is_int_l, is_int_t, is_int_d, is_bool_n, is_bool_b, is_bool_i, is_bool_s, is_bool_l, is_bool_t, is_bool_d, is_str_n, is_str_b, is_str_i, is_str_s, is_str_l, is_str_t, is_str_d, is_tuple_n, is_tuple_b, is_tuple_i, is_tuple_s, is_tuple_l, is_tuple_t, is_tuple_d, is_list_n, is_list_b, is_list_i, is_list_s, is_list_l, is_list_t, is_list_d, is_dict_n, is_dict_b, is_dict_i, is_dict_s, is_dict_l, is_dict_t, is_dict_d, ic0, ic1, ic2, ic3, ic4, ic5, ic6, ic7, ic8, ic9, ic10, ic11, ic12, ic13, ic14, ic15, ic16, ic17, ic18, ic19, ic20, ic21, noSL_d, nmL_noS, eq_self, decide_true, decide_false, Int.reduceLT, Int.reduceLE, Int.reduceEq, Int.reduceAdd, Int.reduceSub, Int.reduceNeg, Nat.reduceLeDiff, gNe_nil, gEq_nil, nmL_len, nmL_isd, nmL_er, ex_pair, fApp, h1, h2, at_ok hi, List.length_map, h3]
  have f : ∀ t ∈ ts, fits 2 60 t := fun t ht => (hts t ht).fits.mono (by decide) (by decide)
  have f1 : fits 3 (61 * 401) (.tuple (cutD ts none (some (i : Int)) ++ [d] ++ cutD ts (some ((i : Int) + 1)) none)) :=
    fits_tup (List.forall_mem_append.mpr ⟨List.forall_mem_append.mpr ⟨fun t ht => f t (cutD_mem ht), by simpa using hd⟩, fun t ht => f t (cutD_mem ht)⟩) (by simp; omega)
  exact ⟨vs ++ [d, .tuple (cutD ts none (some (i : Int)) ++ [d] ++ cutD ts (some ((i : Int) + 1)) none), ts[i]],
    List.forall_mem_append.mpr ⟨hv, all3 (hd.mono (by decide) (by decide)) (f1.mono (by decide) (by decide)) ((f _ (List.getElem_mem hi)).mono (by decide) (by decide))⟩, by simp, by (repeat' apply And.intro) <;> first | rfl | simp⟩
end LW

set_option Elab.async false
set_option linter.all false
set_option autoImplicit false
set_option maxRecDepth 100000
set_option maxHeartbeats 1000000
namespace LW
open PySem PySem.Spec PyProof.Rows L2 DL

theorem mul12 (b : Bool) : gMul (.int 12) (.int (if b = true then 1 else 0)) = some (.d (.int (((if b = true then 12 else 0 : Nat)) : Int))) := by
  cases b
  · rfl
  · rfl
theorem law_3 (ns : List Int) (k : OD) (o : OD) (hJ : Jr 2000 o) (ts vs : List PyData) (hl : ts.length ≤ 200) (hts : ∀ t ∈ ts, Trip t) (hv : Vals vs) (hvl : vs.length = 13) (x2 x6 x7 x8 x9 x10 x11 x12 x13 : OO) :
    Mwp (m_law_3 [some (.s ns), some k, x2, some o, some (.d (.tuple ts)), some (.l (vs.map .d)), x6, x7, x8, x9, x10, x11, x12, x13])
     (fun fl e => fl = .nx ∧ ∃ vs' o x6 x8 x9, Vals vs' ∧ vs'.length ≤ 49 ∧ e = [some (.s ns), some k, x2, some o, some (.d (.tuple ts)), some (.l (vs'.map .d)), x6, x7, x8, x9, x10, x11, x12, x13]) (fun _ _ => False) := by
  unfold m_law_3
  refine for_by (fun ds e => ds = rngOf 0 ((if (!ts.isEmpty) = true then 12 else 0 : Nat) : Int) ∧ e = [some (.s ns), some k, x2, some o, some (.d (.tuple ts)), some (.l (vs.map .d)), x6, x7, x8, x9, x10, x11, x12, x13]) ?_ ?_
  · have hs : smallB ((if (!ts.isEmpty) = true then 12 else 0 : Nat) : Int) = true := by split <;> rfl
    simp (config := { maxSteps := 4000000 }) only [w_bind, w_ret, w_ok, w_seq, w_if, w_ifE, w_test, w_and, w_or, w_not, w_andV, w_orV, w_notV, w_do, w_rt, w_asg, w_C, w_var, w_args0, w_args1, w_plc, w_own, w_val, w_prim, w_list, w_tup, w_call, w_callIo, w_callK, w_chain, w_for, w_items, w_rng, w_lc, w_meth1, w_setL2, w_stores, w_aug, w_move, w_str, mNx, mRetN, startE, rds, HE.rd, sh1, sh2, dp1, dp2, gAdd, DL.gSub, gLt, gLe, gGt, gGe, gOrd, gIsI, gLen, gIx, gIxAny, gInAny, isDct, gLenAny, enumOf, zipOf, dat, gMax2, gMin2, gAbs, gNeg, gAddI, gTupOf, gListOf, gTupAny, gListAny, gInt, gIsN, gSl0, gSlL, gSlH, gSlice, OD.erase, OD.noS, noSL, OD.shallow, OD.isD, OD.still, allStill, boolOf, aName, aTup, aAll, outs, wipeE, isL, DL.intAt, DL.putAll, allO, allD, itemsOf, rngA, rngB, fw_ok, gEq_ii, gNe_ii, gEq_ss, gNe_ss, List.getElem?_cons_zero, List.getElem?_cons_succ, List.set_cons_zero, List.set_cons_succ, List.length_cons, List.length_nil, List.map_cons, List.map_nil, List.cons_append, List.nil_append, List.replicate_succ, List.replicate_zero, List.all_cons, List.all_nil, List.eraseIdx_cons_zero, List.eraseIdx_cons_succ, List.drop_succ_cons, List.drop_zero, List.filterMap_cons, List.filterMap_nil, Option.some.injEq, exists_eq_left', exists_eq_left, exists_eq', exists_eq, Option.join_some, Option.map_some, Option.bind_some, if_true, if_false, true_and, and_true, Bool.true_and, Bool.and_true, Bool.not_true, Bool.not_false, reduceCtorEq, false_and, exists_false, Bool.false_eq_true, OD.d.injEq, OD.l.injEq, HE.o.injEq, HE.al.injEq, List.cons.injEq, PyData.bool.injEq, PyData.int.injEq, PyData.str.injEq, ite_true, ite_false, Nat.reduceSub, Nat.reduceAdd, Nat.reduceLT, Nat.reduceEqDiff, Bool.and_self, Bool.or_true, Bool.true_or, Bool.or_false, Bool.false_or, Bool.false_and, Bool.and_false, eraseL_map, isd_d, er_d, sz_ok, is_int_n, is_int_b, is_int_i, is_int_s, is_int_l, is_int_t, is_int_d, is_bool_n, is_bool_b, is_bool_i, is_bool_s, is_bool_l, is_bool_t, is_bool_d, is_str_n, is_str_b, is_str_i, is_str_s, is_str_l, is_str_t, is_str_d, is_tuple_n, is_tuple_b, is_tuple_i, is_tuple_s, is_tuple_l, is_tuple_t, is_tuple_d, is_list_n, is_list_b, is_list_i, is_list_s, is_list_l, is_list_t, is_list_d, is_dict_n, is_dict_b, is_dict_i, is_dict_s, is_dict_l, is_dict_t, is_dict_d, ic0, ic1, ic2, ic3, ic4, ic5, ic6, ic7, ic8, ic9, ic10, ic11, ic12, ic13, ic14, ic15, ic16, ic17, ic18, ic19, ic20, ic21, noSL_d, nmL_noS, eq_self, decide_true, decide_false, Int.reduceLT, Int.reduceLE, Int.reduceEq, Int.reduceAdd, Int.reduceSub, Int.reduceNeg, Nat.reduceLeDiff, gNe_nil, gEq_nil, nmL_len, nmL_isd, nmL_er, ex_pair, fApp, gNe_nilT ts (plainAll_mem fun t ht => (hts t ht).plain), mul12, hs]
  rintro _ _ ⟨rfl, rfl⟩
  refine each_by (fun j e => ∃ (vs' : List PyData) (o : OD) (x6 x8 x9 : OO), Vals vs' ∧ vs'.length = 13 + 3 * j ∧ Jr (2000 + 3 * j) o ∧ e = [some (.s ns), some k, x2, some o, some (.d (.tuple ts)), some (.l (vs'.map .d)), x6, x7, x8, x9, x10, x11, x12, x13]) 0 ⟨vs, o, x6, x8, x9, hv, hvl, hJ, rfl⟩ ?_ ?_
  · rintro j d e hj ⟨vs', o, x6, x8, x9, hv, hvl, hJ, rfl⟩
    obtain ⟨hj, rfl⟩ := rng_at hj
    have hne : 0 < ts.length := by
      cases ts with
      | nil =>
        have e0 : (if (!([] : List PyData).isEmpty) = true then 12 else 0 : Nat) = 0 := rfl
        rw [e0] at hj
        omega
      | cons t ts => simp
    have hj12 : j < 12 := by
      have : (if (!ts.isEmpty) = true then 12 else 0 : Nat) ≤ 12 := by split <;> omega
      omega
    refine ⟨_, rfl, ?_⟩
    refine seq_by (fun e => ∃ (i : Nat) (o : OD), i < ts.length ∧ Jr (2000 + 3 * j + 1) o ∧ e = [some (.s ns), some k, x2, some o, some (.d (.tuple ts)), some (.l (vs'.map .d)), some (.d (.int (0 + (j : Int)))), x7, some (.d (.int (i : Int))), x9, x10, x11, x12, x13]) ?_ ?_
    · simp (config := { maxSteps := 4000000 }) only [w_bind, w_ret, w_ok, w_seq, w_if, w_ifE, w_test, w_and, w_or, w_not, w_andV, w_orV, w_notV, w_do, w_rt, w_asg, w_C, w_var, w_args0, w_args1, w_plc, w_own, w_val, w_prim, w_list, w_tup, w_call, w_callIo, w_callK, w_chain, w_for, w_items, w_rng, w_lc, w_meth1, w_setL2, w_stores, w_aug, w_move, w_str, mNx, mRetN, startE, rds, HE.rd, sh1, sh2, dp1, dp2, gAdd, DL.gSub, gLt, gLe, gGt, gGe, gOrd, gIsI, gLen, gIx, gIxAny, gInAny, isDct, gLenAny, enumOf, zipOf, dat, gMax2, gMin2, gAbs, gNeg, gAddI, gTupOf, gListOf, gTupAny, gListAny, gInt, gIsN, gSl0, gSlL, gSlH, gSlice, OD.erase, OD.noS, noSL, OD.shallow, OD.isD, OD.still, allStill, boolOf, aName, aTup, aAll, outs, wipeE, isL, DL.intAt, DL.putAll, allO, allD, itemsOf, rngA, rngB, fw_ok, gEq_ii, gNe_ii, gEq_ss, gNe_ss, List.getElem?_cons_zero, List.getElem?_cons_succ, List.set_cons_zero, List.set_cons_succ, List.length_cons, List.length_nil, List.map_cons, List.map_nil, List.cons_append, List.nil_append, List.replicate_succ, List.replicate_zero, List.all_cons, List.all_nil, List.eraseIdx_cons_zero, List.eraseIdx_cons_succ, List.drop_succ_cons, List.drop_zero, List.filterMap_cons, List.filterMap_nil, Option.some.injEq, exists_eq_left', exists_eq_left, exists_eq', exists_eq, Option.join_some, Option.map_some, Option.bind_some, if_true, if_false, true_and, and_true, Bool.true_and, Bool.and_true, Bool.not_true, Bool.not_false, reduceCtorEq, false_and, exists_false, Bool.false_eq_true, OD.d.injEq, OD.l.injEq, HE.o.injEq, HE.al.injEq, List.cons.injEq, PyData.bool.injEq, PyData.int.injEq, PyData.str.injEq, ite_true, ite_false, Nat.reduceSub, Nat.reduceAdd, Nat.reduceLT, Nat.reduceEqDiff, Bool.and_self, Bool.or_true, Bool.true_or, Bool.or_false, Bool.false_or, Bool.false_and, Bool.and_false, eraseL_map, isd_d, er_d, sz_ok, is_int_n, is_int_b, is_int_i, is_int_s, is_int_l, is_int_t, is_int_d, is_bool_n, is_bool_b, is_bool_i, is_bool_s, is_bool_l, is_bool_t, is_bool_d, is_str_n, is_str_b, is_str_i, is_str_s, is_str_l, is_str_t, is_str_d, is_tuple_n, is_tuple_b, is_tuple_i, is_tuple_s, is_tuple_l, is_tuple_t, is_tuple_d, is_list_n, is_list_b, is_list_i, is_list_s, is_list_l, is_list_t, is_list_d, is_dict_n, is_dict_b, is_dict_i, is_dict_s, is_dict_l, is_dict_t, is_dict_d, ic0, ic1, ic2, ic3, ic4, ic5, ic6, ic7, ic8, ic9, ic10, ic11, ic12, ic13, ic14, ic15, ic16, ic17, ic18, ic19, ic20, ic21, noSL_d, nmL_noS, eq_self, decide_true, decide_false, Int.reduceLT, Int.reduceLE, Int.reduceEq, Int.reduceAdd, Int.reduceSub, Int.reduceNeg, Nat.reduceLeDiff, gNe_nil, gEq_nil, nmL_len, nmL_isd, nmL_er, ex_pair, fApp]
      refine (v_dip hJ ts.length rfl hne (by omega) (by omega)).imp ?_ (fun _ _ z => z.elim)
      rintro _ _ ⟨i, o1, rfl, rfl, hi, hJ1⟩
      simp (config := { maxSteps := 4000000 }) only [w_bind, w_ret, w_ok, w_seq, w_if, w_ifE, w_test, w_and, w_or, w_not, w_andV, w_orV, w_notV, w_do, w_rt, w_asg, w_C, w_var, w_args0, w_args1, w_plc, w_own, w_val, w_prim, w_list, w_tup, w_call, w_callIo, w_callK, w_chain, w_for, w_items, w_rng, w_lc, w_meth1, w_setL2, w_stores, w_aug, w_move, w_str, mNx, mRetN, startE, rds, HE.rd, sh1, sh2, dp1, dp2, gAdd, DL.gSub, gLt, gLe, gGt, gGe, gOrd, gIsI, gLen, gIx, gIxAny, gInAny, isDct, gLenAny, enumOf, zipOf, dat, gMax2, gMin2, gAbs, gNeg, gAddI, gTupOf, gListOf, gTupAny, gListAny, gInt, gIsN, gSl0, gSlL, gSlH, gSlice, OD.erase, OD.noS, noSL, OD.shallow, OD.isD, OD.still, allStill, boolOf, aName, aTup, aAll, outs, wipeE, isL, DL.intAt, DL.putAll, allO, allD, itemsOf, rngA, rngB, fw_ok, gEq_ii, gNe_ii, gEq_ss, gNe_ss, List.getElem?_cons_zero, List.getElem?_cons_succ, List.set_cons_zero, List.set_cons_succ, List.length_cons, List.length_nil, List.map_cons, List.map_nil, List.cons_append, List.nil_append, List.replicate_succ, List.replicate_zero, List.all_cons, List.all_nil, List.eraseIdx_cons_zero, List.eraseIdx_cons_succ, List.drop_succ_cons, List.drop_zero, List.filterMap_cons, List.filterMap_nil, Option.some.injEq, exists_eq_left', exists_eq_left, exists_eq', exists_eq, Option.join_some, Option.map_some, Option.bind_some, if_true, if_false, true_and, and_true, Bool.true_and, Bool.and_true, Bool.not_true, Bool.not_false, reduceCtorEq, false_and, exists_false, Bool.false_eq_true, OD.d.injEq, OD.l.injEq, HE.o.injEq, HE.al.injEq, List.cons.injEq, PyData.bool.injEq, PyData.int.injEq, PyData.str.injEq, ite_true, ite_false, Nat.reduceSub, Nat.reduceAdd, Nat.reduceLT, Nat.reduceEqDiff, Bool.and_self, Bool.or_true, Bool.true_or, Bool.or_false, Bool.false_or, Bool.false_and, Bool.and_false, eraseL_map, isd_d, er_d, sz_ok, is_int_n, is_int_b, is_int_i, is_int_s, is_int_l, is_int_t, is_int_d, is_bool_n, is_bool_b, is_bool_i, is_bool_s, is_bool_l, is_bool_t, is_bool_d, is_str_n, is_str_b, is_str_i, is_str_s, is_str_l, is_str_t, is_str_d, is_tuple_n, is_tuple_b, is_tuple_i, is_tuple_s, is_tuple_l, is_tuple_t, is_tuple_d, is_list_n, is_list_b, is_list_i, is_list_s, is_list_l, is_list_t, is_list_d, is_dict_n, is_dict_b, is_dict_i, is_dict_s, is_dict_l, is_dict_t, is_dict_d, ic0, ic1, ic2, ic3, ic4, ic5, ic6, ic7, ic8, ic9, ic10, ic11, ic12, ic13, ic14, ic15, ic16, ic17, ic18, ic19, ic20, ic21, noSL_d, nmL_noS, eq_self, decide_true, decide_false, Int.reduceLT, Int.reduceLE, Int.reduceEq, Int.reduceAdd, Int.reduceSub, Int.reduceNeg, Nat.reduceLeDiff, gNe_nil, gEq_nil, nmL_len, nmL_isd, nmL_er, ex_pair, fApp]
      exact ⟨i, o1, hi, hJ1.mono (by omega), by (repeat' apply And.intro) <;> first | rfl | simp⟩
    rintro _ ⟨i, o, hi, hJ, rfl⟩
    refine seq_by (fun e => ∃ (d : PyData) (o : OD), fits 2 60 d ∧ Jr (2000 + 3 * j + 3) o ∧ e = [some (.s ns), some k, x2, some o, some (.d (.tuple ts)), some (.l (vs'.map .d)), some (.d (.int (0 + (j : Int)))), x7, some (.d (.int (i : Int))), some (.d d), x10, x11, x12, x13]) ?_ ?_
    · simp (config := { maxSteps := 4000000 }) only [w_bind, w_ret, w_ok, w_seq, w_if, w_ifE, w_test, w_and, w_or, w_not, w_andV, w_orV, w_notV, w_do, w_rt, w_asg, w_C, w_var, w_args0, w_args1, w_plc, w_own, w_val, w_prim, w_list, w_tup, w_call, w_callIo, w_callK, w_chain, w_for, w_items, w_rng, w_lc, w_meth1, w_setL2, w_stores, w_aug, w_move, w_str, mNx, mRetN, startE, rds, HE.rd, sh1, sh2, dp1, dp2, gAdd, DL.gSub, gLt, gLe, gGt, gGe, gOrd, gIsI, gLen, gIx, gIxAny, gInAny, isDct, gLenAny, enumOf, zipOf, dat, gMax2, gMin2, gAbs, gNeg, gAddI, gTupOf, gListOf, gTupAny, gListAny, gInt, gIsN, gSl0, gSlL, gSlH, gSlice, OD.erase, OD.noS, noSL, OD.shallow, OD.isD, OD.still, allStill, boolOf, aName, aTup, aAll, outs, wipeE, isL, DL.intAt, DL.putAll, allO, allD, itemsOf, rngA, rngB, fw_ok, gEq_ii, gNe_ii, gEq_ss, gNe_ss, List.getElem?_cons_zero, List.getElem?_cons_succ, List.set_cons_zero, List.set_cons_succ, List.length_cons, List.length_nil, List.map_cons, List.map_nil, List.cons_append, List.nil_append, List.replicate_succ, List.replicate_zero, List.all_cons, List.all_nil, List.eraseIdx_cons_zero, List.eraseIdx_cons_succ, List.drop_succ_cons, List.drop_zero, List.filterMap_cons, List.filterMap_nil, Option.some.injEq, exists_eq_left', exists_eq_left, exists_eq', exists_eq, Option.join_some, Option.map_some, Option.bind_some, if_true, if_false, true_and, and_true, Bool.true_and, Bool.and_true, Bool.not_true, Bool.not_false, reduceCtorEq, false_and, exists_false, Bool.false_eq_true, OD.d.injEq, OD.l.injEq, HE.o.injEq, HE.al.injEq, List.cons.injEq, PyData.bool.injEq, PyData.int.injEq, PyData.str.injEq, ite_true, ite_false, Nat.reduceSub, Nat.reduceAdd, Nat.reduceLT, Nat.reduceEqDiff, Bool.and_self, Bool.or_true, Bool.true_or, Bool.or_false, Bool.false_or, Bool.false_and, Bool.and_false, eraseL_map, isd_d, er_d, sz_ok, is_int_n, is_int_b, is_int_i, is_int_s, is_int_l, is_int_t, is_int_d, is_bool_n, is_bool_b, is_bool_i, is_bool_s, is_bool_l, is_bool_t, is_bool_d, is_str_n, is_str_b, is_str_i, is_str_s, is_str_l, is_str_t, is_str_d, is_tuple_n, is_tuple_b, is_tuple_i, is_tuple_s, is_tuple_l, is_tuple_t, is_tuple_d, is_list_n, is_list_b, is_list_i, is_list_s, is_list_l, is_list_t, is_list_d, is_dict_n, is_dict_b, is_dict_i, is_dict_s, is_dict_l, is_dict_t, is_dict_d, ic0, ic1, ic2, ic3, ic4, ic5, ic6, ic7, ic8, ic9, ic10, ic11, ic12, ic13, ic14, ic15, ic16, ic17, ic18, ic19, ic20, ic21, noSL_d, nmL_noS, eq_self, decide_true, decide_false, Int.reduceLT, Int.reduceLE, Int.reduceEq, Int.reduceAdd, Int.reduceSub, Int.reduceNeg, Nat.reduceLeDiff, gNe_nil, gEq_nil, nmL_len, nmL_isd, nmL_er, ex_pair, fApp, at_ok hi]
      have q := v_odd hJ _ (hts _ (List.getElem_mem hi)) (by omega)
      generalize f__law_odd [o, OD.d ts[i]] = r at q ⊢
      refine q.imp ?_ (fun _ _ z => z.elim)
      rintro _ _ ⟨d, o1, rfl, rfl, hd, hJ1⟩
      simp (config := { maxSteps := 4000000 }) only [w_bind, w_ret, w_ok, w_seq, w_if, w_ifE, w_test, w_and, w_or, w_not, w_andV, w_orV, w_notV, w_do, w_rt, w_asg, w_C, w_var, w_args0, w_args1, w_plc, w_own, w_val, w_prim, w_list, w_tup, w_call, w_callIo, w_callK, w_chain, w_for, w_items, w_rng, w_lc, w_meth1, w_setL2, w_stores, w_aug, w_move, w_str, mNx, mRetN, startE, rds, HE.rd, sh1, sh2, dp1, dp2, gAdd, DL.gSub, gLt, gLe, gGt, gGe, gOrd, gIsI, gLen, gIx, gIxAny, gInAny, isDct, gLenAny, enumOf, zipOf, dat, gMax2, gMin2, gAbs, gNeg, gAddI, gTupOf, gListOf, gTupAny, gListAny, gInt, gIsN, gSl0, gSlL, gSlH, gSlice, OD.erase, OD.noS, noSL, OD.shallow, OD.isD, OD.still, allStill, boolOf, aName, aTup, aAll, outs, wipeE, isL, DL.intAt, DL.putAll, allO, allD, itemsOf, rngA, rngB, fw_ok, gEq_ii, gNe_ii, gEq_ss, gNe_ss, List.getElem?_cons_zero, List.getElem?_cons_succ, List.set_cons_zero, List.set_cons_succ, List.length_cons, List.length_nil, List.map_cons, List.map_nil, List.cons_append, List.nil_append, List.replicate_succ, List.replicate_zero, List.all_cons, List.all_nil, List.eraseIdx_cons_zero, List.eraseIdx_cons_succ, List.drop_succ_cons, List.drop_zero, List.filterMap_cons, List.filterMap_nil, Option.some.injEq, exists_eq_left', exists_eq_left, exists_eq', exists_eq, Option.join_some, Option.map_some, Option.bind_some, if_true, if_false, true_and, and_true, Bool.true_and, Bool.and_true, Bool.not_true, Bool.not_false, reduceCtorEq, false_and, exists_false, Bool.false_eq_true, OD.d.injEq, OD.l.injEq, HE.o.injEq, HE.al.injEq, List.cons.injEq, PyData.bool.injEq, PyData.int.injEq, PyData.str.injEq, ite_true, ite_false, Nat.reduceSub, Nat.reduceAdd, Nat.reduceLT, Nat.reduceEqDiff, Bool.and_self, Bool.or_true, Bool.true_or, Bool.or_false, Bool.false_or, Bool.false_and, Bool.and_false, eraseL_map, isd_d, er_d, sz_ok, is_int_n, is_int_b, is_int_i, is_int_s, is_int_l, is_int_t, is_int_d, is_bool_n, is_bool_b, is_bool_i, is_bool_s, is_bool_l, is_bool_t, is_bool_d, is_str_n, is_str_b, is_str_i, is_str_s, is_str_l, is_str_t, is_str_d, is_tuple_n, is_tuple_b, is_tuple_i, is_tuple_s, is_tuple_l, is_tuple_t, is_tuple_d, is_list_n, is_list_b, is_list_i, is_list_s, is_list_l, is_list_t, is_list_d, is_dict_n, is_dict_b, is_dict_i, is_dict_s, is_dict_l, is_dict_t, is_dict_d, ic0, ic1, ic2, ic3, ic4, ic5, ic6, ic7, ic8, ic9, ic10, ic11, ic12, ic13, ic14, ic15, ic16, ic17, ic18, ic19, ic20, ic21, noSL_d, nmL_noS, eq_self, decide_true, decide_false, Int.reduceLT, Int.reduceLE, Int.reduceEq, Int.reduceAdd, Int.reduceSub, Int.reduceNeg, Nat.reduceLeDiff, gNe_nil, gEq_nil, nmL_len, nmL_isd, nmL_er, ex_pair, fApp]
      exact ⟨d, o1, hd, hJ1.mono (by omega), by (repeat' apply And.intro) <;> first | rfl | simp⟩
    rintro _ ⟨d, o, hd, hJ, rfl⟩
    refine (law_2 ns k o ts vs' hl hts hv (by omega) i hi d hd x2 _ x7 x10 x11 x12 x13).imp (fun fl e _ z => ?_) fun _ _ _ z => z.elim
    obtain ⟨rfl, vs2, h1, h2, rfl⟩ := z
    exact ⟨vs2, o, _, _, _, h1, by omega, hJ.mono (by omega), rfl⟩
  · rintro e ⟨vs', o, x6, x8, x9, hv, hvl, hJ, rfl⟩
    rw [rng_len] at hvl
    refine ⟨rfl, vs', o, x6, x8, x9, hv, ?_, rfl⟩
    have : (if (!ts.isEmpty) = true then 12 else 0 : Nat) ≤ 12 := by split <;> omega
    omega

/-! ### one value judged -/
def tupB : PyData → Bool
  | .tuple xs => decide ((xs.length : Int) ≤ 200)
  | _ => false
theorem four (a b : Bool) : ∃ s, gRepr (.list [.bool a, .bool a, .bool b, .bool b]) = some (.d (.str s)) := by
  have : fits 1 8 (.list [.bool a, .bool a, .bool b, .bool b]) := by revert a b; decide +kernel
  exact ⟨_, this.repr (by decide) (by decide)⟩
theorem mul2 (x : PyData) : gMul (.list [x]) (.int 2) = some (.l [.d x, .d x]) := by
  have h : [x].length * (Int.toNat 2) ≤ sizeLine ∧ (2 : Int) ≤ 1000000 ∧ -1000000 ≤ (2 : Int) := ⟨by show 1 * 2 ≤ 16777216; decide, by decide, by decide⟩
  simp only [gMul]
  rw [if_pos h]
  rfl
section
variable (ns : List Int) (k : OD) (x2 x3 x4 x5 x6 x8 x9 : OO) (d : PyData) (kp : OD) (x11 x12 x13 : OO)
theorem law_4 : Mwp (m_law_4 [some (.s ns), some k, x2, x3, x4, x5, x6, some (.d d), x8, x9, some kp, some (.d (.bool (tupB d))), x12, x13])
    (fun fl e => fl = .nx ∧ ∃ x13, e = [some (.s ns), some k, x2, x3, x4, x5, x6, some (.d d), x8, x9, some kp, some (.d (.bool (scriptB d))), x12, x13]) (fun _ _ => False) := by
  unfold m_law_4
  rcases Bool.eq_false_or_eq_true (tupB d) with h | h
  · cases d with
    | tuple xs =>
      have h' : (xs.length : Int) ≤ 200 := by simpa [tupB] using h
      have hz : xs.length ≤ 16777216 := by omega
      simp (config := { maxSteps := 4000000 }) only [w_bind, w_ret, w_ok, w_seq, w_if, w_ifE, w_test, w_and, w_or, w_not, w_andV, w_orV, w_notV, w_do, w_rt, w_asg, w_C, w_var, w_args0, w_args1, w_plc, w_own, w_val, w_prim, w_list, w_tup, w_call, w_callIo, w_callK, w_chain, w_for, w_items, w_rng, w_lc, w_meth1, w_setL2, w_stores, w_aug, w_move, w_str, mNx, mRetN, startE, rds, HE.rd, sh1, sh2, dp1, dp2, gAdd, DL.gSub, gLt, gLe, gGt, gGe, gOrd, gIsI, gLen, gIx, gIxAny, gInAny, isDct, gLenAny, enumOf, zipOf, dat, gMax2, gMin2, gAbs, gNeg, gAddI, gTupOf, gListOf, gTupAny, gListAny, gInt, gIsN, gSl0, gSlL, gSlH, gSlice, OD.erase, OD.noS, noSL, OD.shallow, OD.isD, OD.still, allStill, boolOf, aName, aTup, aAll, outs, wipeE, isL, DL.intAt, DL.putAll, allO, allD, itemsOf, rngA, rngB, fw_ok, gEq_ii, gNe_ii, gEq_ss, gNe_ss, List.getElem?_cons_zero, List.getElem?_cons_succ, List.set_cons_zero, List.set_cons_succ, List.length_cons, List.length_nil, List.map_cons, List.map_nil, List.cons_append, List.nil_append, List.replicate_succ, List.replicate_zero, List.all_cons, List.all_nil, List.eraseIdx_cons_zero, List.eraseIdx_cons_succ, List.drop_succ_cons, List.drop_zero, List.filterMap_cons, List.filterMap_nil, Option.some.injEq, exists_eq_left', exists_eq_left, exists_eq', exists_eq, Option.join_some, Option.map_some, Option.bind_some, if_true, if_false, true_and, and_true, Bool.true_and, Bool.and_true, Bool.not_true, Bool.not_false, reduceCtorEq, false_and, exists_false, Bool.false_eq_true, OD.d.injEq, OD.l.injEq, HE.o.injEq, HE.al.injEq, List.cons.injEq, PyData.bool.injEq, PyData.int.injEq, PyData.str.injEq, ite_true, ite_false, Nat.reduceSub, Nat.reduceAdd, Nat.reduceLT, Nat.reduceEqDiff, Bool.and_self, Bool.or_true, Bool.true_or, Bool.or_false, Bool.false_or, Bool.false_and, Bool.and_false, eraseL_map, isd_d, er_d, sz_ok, is_int_n, is_int_b, is_int_i, is_int_s, is_int_l, is_int_t, is_int_d, is_bool_n, is_bool_b, is_bool_i, is_bool_s, is_bool_l, is_bool_t, is_bool_d, is_str_n, is_str_b, is_str_i, is_str_s, is_str_l, is_str_t, is_str_d, is_tuple_n, is_tuple_b, is_tuple_i, is_tuple_s, is_tuple_l, is_tuple_t, is_tuple_d, is_list_n, is_list_b, is_list_i, is_list_s, is_list_l, is_list_t, is_list_d, is_dict_n, is_dict_b, is_dict_i, is_dict_s, is_dict_l, is_dict_t, is_dict_d, ic0, ic1, ic2, ic3, ic4, ic5, ic6, ic7, ic8, ic9, ic10, ic11, ic12, ic13, ic14, ic15, ic16, ic17, ic18, ic19, ic20, ic21, noSL_d, nmL_noS, eq_self, decide_true, decide_false, Int.reduceLT, Int.reduceLE, Int.reduceEq, Int.reduceAdd, Int.reduceSub, Int.reduceNeg, Nat.reduceLeDiff, gNe_nil, gEq_nil, nmL_len, nmL_isd, nmL_er, ex_pair, fApp, h, hz]
      refine lc_if (E := fun y => [some (.s ns), some k, x2, x3, x4, x5, x6, some (.d (.tuple xs)), x8, x9, some kp, some (.d (.bool true)), x12, y]) (p := fun d => !copyB d) (g := id) (fun _ => rfl) x13 (fun d hd => ?_) fun y => ?_
      · simp (config := { maxSteps := 4000000 }) only [w_bind, w_ret, w_ok, w_seq, w_if, w_ifE, w_test, w_and, w_or, w_not, w_andV, w_orV, w_notV, w_do, w_rt, w_asg, w_C, w_var, w_args0, w_args1, w_plc, w_own, w_val, w_prim, w_list, w_tup, w_call, w_callIo, w_callK, w_chain, w_for, w_items, w_rng, w_lc, w_meth1, w_setL2, w_stores, w_aug, w_move, w_str, mNx, mRetN, startE, rds, HE.rd, sh1, sh2, dp1, dp2, gAdd, DL.gSub, gLt, gLe, gGt, gGe, gOrd, gIsI, gLen, gIx, gIxAny, gInAny, isDct, gLenAny, enumOf, zipOf, dat, gMax2, gMin2, gAbs, gNeg, gAddI, gTupOf, gListOf, gTupAny, gListAny, gInt, gIsN, gSl0, gSlL, gSlH, gSlice, OD.erase, OD.noS, noSL, OD.shallow, OD.isD, OD.still, allStill, boolOf, aName, aTup, aAll, outs, wipeE, isL, DL.intAt, DL.putAll, allO, allD, itemsOf, rngA, rngB, fw_ok, gEq_ii, gNe_ii, gEq_ss, gNe_ss, List.getElem?_cons_zero, List.getElem?_cons_succ, List.set_cons_zero, List.set_cons_succ, List.length_cons, List.length_nil, List.map_cons, List.map_nil, List.cons_append, List.nil_append, List.replicate_succ, List.replicate_zero, List.all_cons, List.all_nil, List.eraseIdx_cons_zero, List.eraseIdx_cons_succ, List.drop_succ_cons, List.drop_zero, List.filterMap_cons, List.filterMap_nil, Option.some.injEq, exists_eq_left', exists_eq_left, exists_eq', exists_eq, Option.join_some, Option.map_some, Option.bind_some, if_true, if_false, true_and, and_true, Bool.true_and, Bool.and_true, Bool.not_true, Bool.not_false, reduceCtorEq, false_and, exists_false, Bool.false_eq_true, OD.d.injEq, OD.l.injEq, HE.o.injEq, HE.al.injEq, List.cons.injEq, PyData.bool.injEq, PyData.int.injEq, PyData.str.injEq, ite_true, ite_false, Nat.reduceSub, Nat.reduceAdd, Nat.reduceLT, Nat.reduceEqDiff, Bool.and_self, Bool.or_true, Bool.true_or, Bool.or_false, Bool.false_or, Bool.false_and, Bool.and_false, eraseL_map, isd_d, er_d, sz_ok, is_int_n, is_int_b, is_int_i, is_int_s, is_int_l, is_int_t, is_int_d, is_bool_n, is_bool_b, is_bool_i, is_bool_s, is_bool_l, is_bool_t, is_bool_d, is_str_n, is_str_b, is_str_i, is_str_s, is_str_l, is_str_t, is_str_d, is_tuple_n, is_tuple_b, is_tuple_i, is_tuple_s, is_tuple_l, is_tuple_t, is_tuple_d, is_list_n, is_list_b, is_list_i, is_list_s, is_list_l, is_list_t, is_list_d, is_dict_n, is_dict_b, is_dict_i, is_dict_s, is_dict_l, is_dict_t, is_dict_d, ic0, ic1, ic2, ic3, ic4, ic5, ic6, ic7, ic8, ic9, ic10, ic11, ic12, ic13, ic14, ic15, ic16, ic17, ic18, ic19, ic20, ic21, noSL_d, nmL_noS, eq_self, decide_true, decide_false, Int.reduceLT, Int.reduceLE, Int.reduceEq, Int.reduceAdd, Int.reduceSub, Int.reduceNeg, Nat.reduceLeDiff, gNe_nil, gEq_nil, nmL_len, nmL_isd, nmL_er, ex_pair, fApp, v_law_is_copy]
        rcases Bool.eq_false_or_eq_true (copyB d) with q | q <;> simp (config := { maxSteps := 4000000 }) only [w_bind, w_ret, w_ok, w_seq, w_if, w_ifE, w_test, w_and, w_or, w_not, w_andV, w_orV, w_notV, w_do, w_rt, w_asg, w_C, w_var, w_args0, w_args1, w_plc, w_own, w_val, w_prim, w_list, w_tup, w_call, w_callIo, w_callK, w_chain, w_for, w_items, w_rng, w_lc, w_meth1, w_setL2, w_stores, w_aug, w_move, w_str, mNx, mRetN, startE, rds, HE.rd, sh1, sh2, dp1, dp2, gAdd, DL.gSub, gLt, gLe, gGt, gGe, gOrd, gIsI, gLen, gIx, gIxAny, gInAny, isDct, gLenAny, enumOf, zipOf, dat, gMax2, gMin2, gAbs, gNeg, gAddI, gTupOf, gListOf, gTupAny, gListAny, gInt, gIsN, gSl0, gSlL, gSlH, gSlice, OD.erase, OD.noS, noSL, OD.shallow, OD.isD, OD.still, allStill, boolOf, aName, aTup, aAll, outs, wipeE, isL, DL.intAt, DL.putAll, allO, allD, itemsOf, rngA, rngB, fw_ok, gEq_ii, gNe_ii, gEq_ss, gNe_ss, List.getElem?_cons_zero, List.getElem?_cons_succ, List.set_cons_zero, List.set_cons_succ, List.length_cons, List.length_nil, List.map_cons, List.map_nil, List.cons_append, List.nil_append, List.replicate_succ, List.replicate_zero, List.all_cons, List.all_nil, List.eraseIdx_cons_zero, List.eraseIdx_cons_succ, List.drop_succ_cons, List.drop_zero, List.filterMap_cons, List.filterMap_nil, Option.some.injEq, exists_eq_left', exists_eq_left, exists_eq', exists_eq, Option.join_some, Option.map_some, Option.bind_some, if_true, if_false, true_and, and_true, Bool.true_and, Bool.and_true, Bool.not_true, Bool.not_false, reduceCtorEq, false_and, exists_false, Bool.false_eq_true, OD.d.injEq, OD.l.injEq, HE.o.injEq, HE.al.injEq, List.cons.injEq, PyData.bool.injEq, PyData.int.injEq, PyData.str.injEq, ite_true, ite_false, Nat.reduceSub, Nat.reduceAdd, Nat.reduceLT, Nat.reduceEqDiff, Bool.and_self, Bool.or_true, Bool.true_or, Bool.or_false, Bool.false_or, Bool.false_and, Bool.and_false, eraseL_map, isd_d, er_d, sz_ok, is_int_n, is_int_b, is_int_i, is_int_s, is_int_l, is_int_t, is_int_d, is_bool_n, is_bool_b, is_bool_i, is_bool_s, is_bool_l, is_bool_t, is_bool_d, is_str_n, is_str_b, is_str_i, is_str_s, is_str_l, is_str_t, is_str_d, is_tuple_n, is_tuple_b, is_tuple_i, is_tuple_s, is_tuple_l, is_tuple_t, is_tuple_d, is_list_n, is_list_b, is_list_i, is_list_s, is_list_l, is_list_t, is_list_d, is_dict_n, is_dict_b, is_dict_i, is_dict_s, is_dict_l, is_dict_t, is_dict_d, ic0, ic1, ic2, ic3, ic4, ic5, ic6, ic7, ic8, ic9, ic10, ic11, ic12, ic13, ic14, ic15, ic16, ic17, ic18, ic19, ic20, ic21, noSL_d, nmL_noS, eq_self, decide_true, decide_false, Int.reduceLT, Int.reduceLE, Int.reduceEq, Int.reduceAdd, Int.reduceSub, Int.reduceNeg, Nat.reduceLeDiff, gNe_nil, gEq_nil, nmL_len, nmL_isd, nmL_er, ex_pair, fApp, q, id]
      · rw [List.map_id]
        simp (config := { maxSteps := 4000000 }) only [w_bind, w_ret, w_ok, w_seq, w_if, w_ifE, w_test, w_and, w_or, w_not, w_andV, w_orV, w_notV, w_do, w_rt, w_asg, w_C, w_var, w_args0, w_args1, w_plc, w_own, w_val, w_prim, w_list, w_tup, w_call, w_callIo, w_callK, w_chain, w_for, w_items, w_rng, w_lc, w_meth1, w_setL2, w_stores, w_aug, w_move, w_str, mNx, mRetN, startE, rds, HE.rd, sh1, sh2, dp1, dp2, gAdd, DL.gSub, gLt, gLe, gGt, gGe, gOrd, gIsI, gLen, gIx, gIxAny, gInAny, isDct, gLenAny, enumOf, zipOf, dat, gMax2, gMin2, gAbs, gNeg, gAddI, gTupOf, gListOf, gTupAny, gListAny, gInt, gIsN, gSl0, gSlL, gSlH, gSlice, OD.erase, OD.noS, noSL, OD.shallow, OD.isD, OD.still, allStill, boolOf, aName, aTup, aAll, outs, wipeE, isL, DL.intAt, DL.putAll, allO, allD, itemsOf, rngA, rngB, fw_ok, gEq_ii, gNe_ii, gEq_ss, gNe_ss, List.getElem?_cons_zero, List.getElem?_cons_succ, List.set_cons_zero, List.set_cons_succ, List.length_cons, List.length_nil, List.map_cons, List.map_nil, List.cons_append, List.nil_append, List.replicate_succ, List.replicate_zero, List.all_cons, List.all_nil, List.eraseIdx_cons_zero, List.eraseIdx_cons_succ, List.drop_succ_cons, List.drop_zero, List.filterMap_cons, List.filterMap_nil, Option.some.injEq, exists_eq_left', exists_eq_left, exists_eq', exists_eq, Option.join_some, Option.map_some, Option.bind_some, if_true, if_false, true_and, and_true, Bool.true_and, Bool.and_true, Bool.not_true, Bool.not_false, reduceCtorEq, false_and, exists_false, Bool.false_eq_true, OD.d.injEq, OD.l.injEq, HE.o.injEq, HE.al.injEq, List.cons.injEq, PyData.bool.injEq, PyData.int.injEq, PyData.str.injEq, ite_true, ite_false, Nat.reduceSub, Nat.reduceAdd, Nat.reduceLT, Nat.reduceEqDiff, Bool.and_self, Bool.or_true, Bool.true_or, Bool.or_false, Bool.false_or, Bool.false_and, Bool.and_false, eraseL_map, isd_d, er_d, sz_ok, is_int_n, is_int_b, is_int_i, is_int_s, is_int_l, is_int_t, is_int_d, is_bool_n, is_bool_b, is_bool_i, is_bool_s, is_bool_l, is_bool_t, is_bool_d, is_str_n, is_str_b, is_str_i, is_str_s, is_str_l, is_str_t, is_str_d, is_tuple_n, is_tuple_b, is_tuple_i, is_tuple_s, is_tuple_l, is_tuple_t, is_tuple_d, is_list_n, is_list_b, is_list_i, is_list_s, is_list_l, is_list_t, is_list_d, is_dict_n, is_dict_b, is_dict_i, is_dict_s, is_dict_l, is_dict_t, is_dict_d, ic0, ic1, ic2, ic3, ic4, ic5, ic6, ic7, ic8, ic9, ic10, ic11, ic12, ic13, ic14, ic15, ic16, ic17, ic18, ic19, ic20, ic21, noSL_d, nmL_noS, eq_self, decide_true, decide_false, Int.reduceLT, Int.reduceLE, Int.reduceEq, Int.reduceAdd, Int.reduceSub, Int.reduceNeg, Nat.reduceLeDiff, gNe_nil, gEq_nil, nmL_len, nmL_isd, nmL_er, ex_pair, fApp, fil_emp, Bool.not_not]
        have : scriptB (.tuple xs) = xs.all copyB := by simp [scriptB, h']
        rw [this]
        exact ⟨_, rfl, rfl⟩
    | _ => cases h
  · simp (config := { maxSteps := 4000000 }) only [w_bind, w_ret, w_ok, w_seq, w_if, w_ifE, w_test, w_and, w_or, w_not, w_andV, w_orV, w_notV, w_do, w_rt, w_asg, w_C, w_var, w_args0, w_args1, w_plc, w_own, w_val, w_prim, w_list, w_tup, w_call, w_callIo, w_callK, w_chain, w_for, w_items, w_rng, w_lc, w_meth1, w_setL2, w_stores, w_aug, w_move, w_str, mNx, mRetN, startE, rds, HE.rd, sh1, sh2, dp1, dp2, gAdd, DL.gSub, gLt, gLe, gGt, gGe, gOrd, gIsI, gLen, gIx, gIxAny, gInAny, isDct, gLenAny, enumOf, zipOf, dat, gMax2, gMin2, gAbs, gNeg, gAddI, gTupOf, gListOf, gTupAny, gListAny, gInt, gIsN, gSl0, gSlL, gSlH, gSlice, OD.erase, OD.noS, noSL, OD.shallow, OD.isD, OD.still, allStill, boolOf, aName, aTup, aAll, outs, wipeE, isL, DL.intAt, DL.putAll, allO, allD, itemsOf, rngA, rngB, fw_ok, gEq_ii, gNe_ii, gEq_ss, gNe_ss, List.getElem?_cons_zero, List.getElem?_cons_succ, List.set_cons_zero, List.set_cons_succ, List.length_cons, List.length_nil, List.map_cons, List.map_nil, List.cons_append, List.nil_append, List.replicate_succ, List.replicate_zero, List.all_cons, List.all_nil, List.eraseIdx_cons_zero, List.eraseIdx_cons_succ, List.drop_succ_cons, List.drop_zero, List.filterMap_cons, List.filterMap_nil, Option.some.injEq, exists_eq_left', exists_eq_left, exists_eq', exists_eq, Option.join_some, Option.map_some, Option.bind_some, if_true, if_false, true_and, and_true, Bool.true_and, Bool.and_true, Bool.not_true, Bool.not_false, reduceCtorEq, false_and, exists_false, Bool.false_eq_true, OD.d.injEq, OD.l.injEq, HE.o.injEq, HE.al.injEq, List.cons.injEq, PyData.bool.injEq, PyData.int.injEq, PyData.str.injEq, ite_true, ite_false, Nat.reduceSub, Nat.reduceAdd, Nat.reduceLT, Nat.reduceEqDiff, Bool.and_self, Bool.or_true, Bool.true_or, Bool.or_false, Bool.false_or, Bool.false_and, Bool.and_false, eraseL_map, isd_d, er_d, sz_ok, is_int_n, is_int_b, is_int_i, is_int_s, is_int_l, is_int_t, is_int_d, is_bool_n, is_bool_b, is_bool_i, is_bool_s, is_bool_l, is_bool_t, is_bool_d, is_str_n, is_str_b, is_str_i, is_str_s, is_str_l, is_str_t, is_str_d, is_tuple_n, is_tuple_b, is_tuple_i, is_tuple_s, is_tuple_l, is_tuple_t, is_tuple_d, is_list_n, is_list_b, is_list_i, is_list_s, is_list_l, is_list_t, is_list_d, is_dict_n, is_dict_b, is_dict_i, is_dict_s, is_dict_l, is_dict_t, is_dict_d, ic0, ic1, ic2, ic3, ic4, ic5, ic6, ic7, ic8, ic9, ic10, ic11, ic12, ic13, ic14, ic15, ic16, ic17, ic18, ic19, ic20, ic21, noSL_d, nmL_noS, eq_self, decide_true, decide_false, Int.reduceLT, Int.reduceLE, Int.reduceEq, Int.reduceAdd, Int.reduceSub, Int.reduceNeg, Nat.reduceLeDiff, gNe_nil, gEq_nil, nmL_len, nmL_isd, nmL_er, ex_pair, fApp, h]
    have : scriptB d = false := by
      cases d with
      | tuple xs =>
        have h' : ¬ (xs.length : Int) ≤ 200 := by simpa [tupB] using h
        simp [scriptB, h']
      | _ => rfl
    rw [this]
    exact ⟨_, rfl, rfl⟩
theorem law_5 : Mwp (m_law_5 [some (.s ns), some k, x2, x3, x4, x5, x6, some (.d d), x8, x9, some kp, x11, x12, x13])
    (fun fl e => fl = .nx ∧ e = [some (.s ns), some k, x2, x3, x4, x5, x6, some (.d d), x8, x9, some kp, x11, some (.l [.d (.bool (copyB d)), .d (.bool (copyB d)), .d (.bool (scriptB d)), .d (.bool (scriptB d))]), x13]) (fun _ _ => False) := by
  unfold m_law_5
  simp (config := { maxSteps := 4000000 }) only [w_bind, w_ret, w_ok, w_seq, w_if, w_ifE, w_test, w_and, w_or, w_not, w_andV, w_orV, w_notV, w_do, w_rt, w_asg, w_C, w_var, w_args0, w_args1, w_plc, w_own, w_val, w_prim, w_list, w_tup, w_call, w_callIo, w_callK, w_chain, w_for, w_items, w_rng, w_lc, w_meth1, w_setL2, w_stores, w_aug, w_move, w_str, mNx, mRetN, startE, rds, HE.rd, sh1, sh2, dp1, dp2, gAdd, DL.gSub, gLt, gLe, gGt, gGe, gOrd, gIsI, gLen, gIx, gIxAny, gInAny, isDct, gLenAny, enumOf, zipOf, dat, gMax2, gMin2, gAbs, gNeg, gAddI, gTupOf, gListOf, gTupAny, gListAny, gInt, gIsN, gSl0, gSlL, gSlH, gSlice, OD.erase, OD.noS, noSL, OD.shallow, OD.isD, OD.still, allStill, boolOf, aName, aTup, aAll, outs, wipeE, isL, DL.intAt, DL.putAll, allO, allD, itemsOf, rngA, rngB, fw_ok, gEq_ii, gNe_ii, gEq_ss, gNe_ss, List.getElem?_cons_zero, List.getElem?_cons_succ, List.set_cons_zero, List.set_cons_succ, List.length_cons, List.length_nil, List.map_cons, List.map_nil, List.cons_append, List.nil_append, List.replicate_succ, List.replicate_zero, List.all_cons, List.all_nil, List.eraseIdx_cons_zero, List.eraseIdx_cons_succ, List.drop_succ_cons, List.drop_zero, List.filterMap_cons, List.filterMap_nil, Option.some.injEq, exists_eq_left', exists_eq_left, exists_eq', exists_eq, Option.join_some, Option.map_some, Option.bind_some, if_true, if_false, true_and, and_true, Bool.true_and, Bool.and_true, Bool.not_true, Bool.not_false, reduceCtorEq, false_and, exists_false, Bool.false_eq_true, OD.d.injEq, OD.l.injEq, HE.o.injEq, HE.al.injEq, List.cons.injEq, PyData.bool.injEq, PyData.int.injEq, PyData.str.injEq, ite_true, ite_false, Nat.reduceSub, Nat.reduceAdd, Nat.reduceLT, Nat.reduceEqDiff, Bool.and_self, Bool.or_true, Bool.true_or, Bool.or_false, Bool.false_or, Bool.false_and, Bool.and_false, eraseL_map, isd_d, er_d, sz_ok, is_int_n, is_int_b, is_int_i, is_int_s, is_int_l, is_int_t, is_int_d, is_bool_n, is_bool_b, is_bool_i, is_bool_s, is_bool_l, is_bool_t, is_bool_d, is_str_n, is_str_b, is_str_i, is_str_s, is_str_l, is_str_t, is_str_d, is_tuple_n, is_tuple_b, is_tuple_i, is_tuple_s, is_tuple_l, is_tuple_t, is_tuple_d, is_list_n, is_list_b, is_list_i, is_list_s, is_list_l, is_list_t, is_list_d, is_dict_n, is_dict_b, is_dict_i, is_dict_s, is_dict_l, is_dict_t, is_dict_d, ic0, ic1, ic2, ic3, ic4, ic5, ic6, ic7, ic8, ic9, ic10, ic11, ic12, ic13, ic14, ic15, ic16, ic17, ic18, ic19, ic20, ic21, noSL_d, nmL_noS, eq_self, decide_true, decide_false, Int.reduceLT, Int.reduceLE, Int.reduceEq, Int.reduceAdd, Int.reduceSub, Int.reduceNeg, Nat.reduceLeDiff, gNe_nil, gEq_nil, nmL_len, nmL_isd, nmL_er, ex_pair, fApp, v_is_copy, v_is_script]
theorem law_6 (hd : fits 5 60000 d) : Mwp (m_law_6 [some (.s ns), some k, x2, x3, x4, x5, x6, some (.d d), x8, x9, some (.d (.str d.shown)), some (.d (.bool (scriptB d))), some (.l [.d (.bool (copyB d)), .d (.bool (copyB d)), .d (.bool (scriptB d)), .d (.bool (scriptB d))]), x13])
    (fun fl e => fl = .nx ∧ ∃ x11, e = [some (.s ns), some k, x2, x3, x4, x5, x6, some (.d d), x8, x9, some (.d (.str d.shown)), x11, some (.l [.d (.bool (copyB d)), .d (.bool (copyB d)), .d (.bool (scriptB d)), .d (.bool (scriptB d))]), x13]) (fun _ _ => False) := by
  unfold m_law_6
  obtain ⟨s, hs⟩ := four (copyB d) (scriptB d)
  have hr := hd.repr (by decide) (by decide)
  simp (config := { maxSteps := 4000000 }) only [w_bind, w_ret, w_ok, w_seq, w_if, w_ifE, w_test, w_and, w_or, w_not, w_andV, w_orV, w_notV, w_do, w_rt, w_asg, w_C, w_var, w_args0, w_args1, w_plc, w_own, w_val, w_prim, w_list, w_tup, w_call, w_callIo, w_callK, w_chain, w_for, w_items, w_rng, w_lc, w_meth1, w_setL2, w_stores, w_aug, w_move, w_str, mNx, mRetN, startE, rds, HE.rd, sh1, sh2, dp1, dp2, gAdd, DL.gSub, gLt, gLe, gGt, gGe, gOrd, gIsI, gLen, gIx, gIxAny, gInAny, isDct, gLenAny, enumOf, zipOf, dat, gMax2, gMin2, gAbs, gNeg, gAddI, gTupOf, gListOf, gTupAny, gListAny, gInt, gIsN, gSl0, gSlL, gSlH, gSlice, OD.erase, OD.noS, noSL, OD.shallow, OD.isD, OD.still, allStill, boolOf, aName, aTup, aAll, outs, wipeE, isL, DL.intAt, DL.putAll, allO, allD, itemsOf, rngA, rngB, fw_ok, gEq_ii, gNe_ii, gEq_ss, gNe_ss, List.getElem?_cons_zero, List.getElem?_cons_succ, List.set_cons_zero, List.set_cons_succ, List.length_cons, List.length_nil, List.map_cons, List.map_nil, List.cons_append, List.nil_append, List.replicate_succ, List.replicate_zero, List.all_cons, List.all_nil, List.eraseIdx_cons_zero, List.eraseIdx_cons_succ, List.drop_succ_cons, List.drop_zero, List.filterMap_cons, List.filterMap_nil, Option.some.injEq, exists_eq_left', exists_eq_left, exists_eq', exists_eq, Option.join_some, Option.map_some, Option.bind_some, if_true, if_false, true_and, and_true, Bool.true_and, Bool.and_true, Bool.not_true, Bool.not_false, reduceCtorEq, false_and, exists_false, Bool.false_eq_true, OD.d.injEq, OD.l.injEq, HE.o.injEq, HE.al.injEq, List.cons.injEq, PyData.bool.injEq, PyData.int.injEq, PyData.str.injEq, ite_true, ite_false, Nat.reduceSub, Nat.reduceAdd, Nat.reduceLT, Nat.reduceEqDiff, Bool.and_self, Bool.or_true, Bool.true_or, Bool.or_false, Bool.false_or, Bool.false_and, Bool.and_false, eraseL_map, isd_d, er_d, sz_ok, is_int_n, is_int_b, is_int_i, is_int_s, is_int_l, is_int_t, is_int_d, is_bool_n, is_bool_b, is_bool_i, is_bool_s, is_bool_l, is_bool_t, is_bool_d, is_str_n, is_str_b, is_str_i, is_str_s, is_str_l, is_str_t, is_str_d, is_tuple_n, is_tuple_b, is_tuple_i, is_tuple_s, is_tuple_l, is_tuple_t, is_tuple_d, is_list_n, is_list_b, is_list_i, is_list_s, is_list_l, is_list_t, is_list_d, is_dict_n, is_dict_b, is_dict_i, is_dict_s, is_dict_l, is_dict_t, is_dict_d, ic0, ic1, ic2, ic3, ic4, ic5, ic6, ic7, ic8, ic9, ic10, ic11, ic12, ic13, ic14, ic15, ic16, ic17, ic18, ic19, ic20, ic21, noSL_d, nmL_noS, eq_self, decide_true, decide_false, Int.reduceLT, Int.reduceLE, Int.reduceEq, Int.reduceAdd, Int.reduceSub, Int.reduceNeg, Nat.reduceLeDiff, gNe_nil, gEq_nil, nmL_len, nmL_isd, nmL_er, ex_pair, fApp, v_law_is_copy, mul2, hs, hr]
end
theorem law_7 (ns : List Int) (k : OD) (vs : List PyData) (hv : Vals vs) (x2 x3 x4 x6 x7 x8 x9 x10 x11 x12 x13 : OO) :
    Mwp (m_law_7 [some (.s ns), some k, x2, x3, x4, some (.l (vs.map .d)), x6, x7, x8, x9, x10, x11, x12, x13])
     (fun fl e => fl = .nx ∧ ∃ x2 x3 x4 x5 x6 x7 x8 x9 x10 x11 x12 x13, e = [some (.s ns), some k, x2, x3, x4, x5, x6, x7, x8, x9, x10, x11, x12, x13]) (fun _ _ => False) := by
  unfold m_law_7
  refine for_by (fun ds e => ds = vs ∧ e = [some (.s ns), some k, x2, x3, x4, some (.d (.list vs)), x6, x7, x8, x9, x10, x11, x12, x13]) ?_ ?_
  · simp (config := { maxSteps := 4000000 }) only [w_bind, w_ret, w_ok, w_seq, w_if, w_ifE, w_test, w_and, w_or, w_not, w_andV, w_orV, w_notV, w_do, w_rt, w_asg, w_C, w_var, w_args0, w_args1, w_plc, w_own, w_val, w_prim, w_list, w_tup, w_call, w_callIo, w_callK, w_chain, w_for, w_items, w_rng, w_lc, w_meth1, w_setL2, w_stores, w_aug, w_move, w_str, mNx, mRetN, startE, rds, HE.rd, sh1, sh2, dp1, dp2, gAdd, DL.gSub, gLt, gLe, gGt, gGe, gOrd, gIsI, gLen, gIx, gIxAny, gInAny, isDct, gLenAny, enumOf, zipOf, dat, gMax2, gMin2, gAbs, gNeg, gAddI, gTupOf, gListOf, gTupAny, gListAny, gInt, gIsN, gSl0, gSlL, gSlH, gSlice, OD.erase, OD.noS, noSL, OD.shallow, OD.isD, OD.still, allStill, boolOf, aName, aTup, aAll, outs, wipeE, isL, DL.intAt, DL.putAll, allO, allD, itemsOf, rngA, rngB, fw_ok, gEq_ii, gNe_ii, gEq_ss, gNe_ss, List.getElem?_cons_zero, List.getElem?_cons_succ, List.set_cons_zero, List.set_cons_succ, List.length_cons, List.length_nil, List.map_cons, List.map_nil, List.cons_append, List.nil_append, List.replicate_succ, List.replicate_zero, List.all_cons, List.all_nil, List.eraseIdx_cons_zero, List.eraseIdx_cons_succ, List.drop_succ_cons, List.drop_zero, List.filterMap_cons, List.filterMap_nil, Option.some.injEq, exists_eq_left', exists_eq_left, exists_eq', exists_eq, Option.join_some, Option.map_some, Option.bind_some, if_true, if_false, true_and, and_true, Bool.true_and, Bool.and_true, Bool.not_true, Bool.not_false, reduceCtorEq, false_and, exists_false, Bool.false_eq_true, OD.d.injEq, OD.l.injEq, HE.o.injEq, HE.al.injEq, List.cons.injEq, PyData.bool.injEq, PyData.int.injEq, PyData.str.injEq, ite_true, ite_false, Nat.reduceSub, Nat.reduceAdd, Nat.reduceLT, Nat.reduceEqDiff, Bool.and_self, Bool.or_true, Bool.true_or, Bool.or_false, Bool.false_or, Bool.false_and, Bool.and_false, eraseL_map, isd_d, er_d, sz_ok, is_int_n, is_int_b, is_int_i, is_int_s, is_int_l, is_int_t, is_int_d, is_bool_n, is_bool_b, is_bool_i, is_bool_s, is_bool_l, is_bool_t, is_bool_d, is_str_n, is_str_b, is_str_i, is_str_s, is_str_l, is_str_t, is_str_d, is_tuple_n, is_tuple_b, is_tuple_i, is_tuple_s, is_tuple_l, is_tuple_t, is_tuple_d, is_list_n, is_list_b, is_list_i, is_list_s, is_list_l, is_list_t, is_list_d, is_dict_n, is_dict_b, is_dict_i, is_dict_s, is_dict_l, is_dict_t, is_dict_d, ic0, ic1, ic2, ic3, ic4, ic5, ic6, ic7, ic8, ic9, ic10, ic11, ic12, ic13, ic14, ic15, ic16, ic17, ic18, ic19, ic20, ic21, noSL_d, nmL_noS, eq_self, decide_true, decide_false, Int.reduceLT, Int.reduceLE, Int.reduceEq, Int.reduceAdd, Int.reduceSub, Int.reduceNeg, Nat.reduceLeDiff, gNe_nil, gEq_nil, nmL_len, nmL_isd, nmL_er, ex_pair, fApp]
  rintro ds _ ⟨hds, rfl⟩
  subst hds
  refine each_by (fun j e => ∃ (x7 x10 x11 x12 x13 : OO), e = [some (.s ns), some k, x2, x3, x4, some (.d (.list ds)), x6, x7, x8, x9, x10, x11, x12, x13]) 0 ⟨_, _, _, _, _, rfl⟩ ?_ ?_
  · rintro j d e hj ⟨x7, x10, x11, x12, x13, rfl⟩
    have hd := hv d (List.mem_of_getElem? hj)
    have hr := hd.repr (by decide) (by decide)
    refine ⟨_, rfl, ?_⟩
    refine seq_by (fun e => e = [some (.s ns), some k, x2, x3, x4, some (.d (.list ds)), x6, some (.d d), x8, x9, some (.d (.str d.shown)), x11, x12, x13]) ?_ ?_
    · simp (config := { maxSteps := 4000000 }) only [w_bind, w_ret, w_ok, w_seq, w_if, w_ifE, w_test, w_and, w_or, w_not, w_andV, w_orV, w_notV, w_do, w_rt, w_asg, w_C, w_var, w_args0, w_args1, w_plc, w_own, w_val, w_prim, w_list, w_tup, w_call, w_callIo, w_callK, w_chain, w_for, w_items, w_rng, w_lc, w_meth1, w_setL2, w_stores, w_aug, w_move, w_str, mNx, mRetN, startE, rds, HE.rd, sh1, sh2, dp1, dp2, gAdd, DL.gSub, gLt, gLe, gGt, gGe, gOrd, gIsI, gLen, gIx, gIxAny, gInAny, isDct, gLenAny, enumOf, zipOf, dat, gMax2, gMin2, gAbs, gNeg, gAddI, gTupOf, gListOf, gTupAny, gListAny, gInt, gIsN, gSl0, gSlL, gSlH, gSlice, OD.erase, OD.noS, noSL, OD.shallow, OD.isD, OD.still, allStill, boolOf, aName, aTup, aAll, outs, wipeE, isL, DL.intAt, DL.putAll, allO, allD, itemsOf, rngA, rngB, fw_ok, gEq_ii, gNe_ii, gEq_ss, gNe_ss, List.getElem?_cons_zero, List.getElem?_cons_succ, List.set_cons_zero, List.set_cons_succ, List.length_cons, List.length_nil, List.map_cons, List.map_nil, List.cons_append, List.nil_append, List.replicate_succ, List.replicate_zero, List.all_cons, List.all_nil, List.eraseIdx_cons_zero, List.eraseIdx_cons_succ, List.drop_succ_cons, List.drop_zero, List.filterMap_cons, List.filterMap_nil, Option.some.injEq, exists_eq_left', exists_eq_left, exists_eq', exists_eq, Option.join_some, Option.map_some, Option.bind_some, if_true, if_false, true_and, and_true, Bool.true_and, Bool.and_true, Bool.not_true, Bool.not_false, reduceCtorEq, false_and, exists_false, Bool.false_eq_true, OD.d.injEq, OD.l.injEq, HE.o.injEq, HE.al.injEq, List.cons.injEq, PyData.bool.injEq, PyData.int.injEq, PyData.str.injEq, ite_true, ite_false, Nat.reduceSub, Nat.reduceAdd, Nat.reduceLT, Nat.reduceEqDiff, Bool.and_self, Bool.or_true, Bool.true_or, Bool.or_false, Bool.false_or, Bool.false_and, Bool.and_false, eraseL_map, isd_d, er_d, sz_ok, is_int_n, is_int_b, is_int_i, is_int_s, is_int_l, is_int_t, is_int_d, is_bool_n, is_bool_b, is_bool_i, is_bool_s, is_bool_l, is_bool_t, is_bool_d, is_str_n, is_str_b, is_str_i, is_str_s, is_str_l, is_str_t, is_str_d, is_tuple_n, is_tuple_b, is_tuple_i, is_tuple_s, is_tuple_l, is_tuple_t, is_tuple_d, is_list_n, is_list_b, is_list_i, is_list_s, is_list_l, is_list_t, is_list_d, is_dict_n, is_dict_b, is_dict_i, is_dict_s, is_dict_l, is_dict_t, is_dict_d, ic0, ic1, ic2, ic3, ic4, ic5, ic6, ic7, ic8, ic9, ic10, ic11, ic12, ic13, ic14, ic15, ic16, ic17, ic18, ic19, ic20, ic21, noSL_d, nmL_noS, eq_self, decide_true, decide_false, Int.reduceLT, Int.reduceLE, Int.reduceEq, Int.reduceAdd, Int.reduceSub, Int.reduceNeg, Nat.reduceLeDiff, gNe_nil, gEq_nil, nmL_len, nmL_isd, nmL_er, ex_pair, fApp, hr]
    rintro _ rfl
    refine seq_by (fun e => e = [some (.s ns), some k, x2, x3, x4, some (.d (.list ds)), x6, some (.d d), x8, x9, some (.d (.str d.shown)), some (.d (.bool (tupB d))), x12, x13]) ?_ ?_
    · cases d with
      | tuple xs => simp (config := { maxSteps := 4000000 }) only [w_bind, w_ret, w_ok, w_seq, w_if, w_ifE, w_test, w_and, w_or, w_not, w_andV, w_orV, w_notV, w_do, w_rt, w_asg, w_C, w_var, w_args0, w_args1, w_plc, w_own, w_val, w_prim, w_list, w_tup, w_call, w_callIo, w_callK, w_chain, w_for, w_items, w_rng, w_lc, w_meth1, w_setL2, w_stores, w_aug, w_move, w_str, mNx, mRetN, startE, rds, HE.rd, sh1, sh2, dp1, dp2, gAdd, DL.gSub, gLt, gLe, gGt, gGe, gOrd, gIsI, gLen, gIx, gIxAny, gInAny, isDct, gLenAny, enumOf, zipOf, dat, gMax2, gMin2, gAbs, gNeg, gAddI, gTupOf, gListOf, gTupAny, gListAny, gInt, gIsN, gSl0, gSlL, gSlH, gSlice, OD.erase, OD.noS, noSL, OD.shallow, OD.isD, OD.still, allStill, boolOf, aName, aTup, aAll, outs, wipeE, isL, DL.intAt, DL.putAll, allO, allD, itemsOf, rngA, rngB, fw_ok, gEq_ii, gNe_ii, gEq_ss, gNe_ss, List.getElem?_cons_zero, List.getElem?_cons_succ, List.set_cons_zero, List.set_cons_succ, List.length_cons, List.length_nil, List.map_cons, List.map_nil, List.cons_append, List.nil_append, List.replicate_succ, List.replicate_zero, List.all_cons, List.all_nil, List.eraseIdx_cons_zero, List.eraseIdx_cons_succ, List.drop_succ_cons, List.drop_zero, List.filterMap_cons, List.filterMap_nil, Option.some.injEq, exists_eq_left', exists_eq_left, exists_eq', exists_eq, Option.join_some, Option.map_some, Option.bind_some, if_true, if_false, true_and, and_true, Bool.true_and, Bool.and_true, Bool.not_true, Bool.not_false, reduceCtorEq, false_and, exists_false, Bool.false_eq_true, OD.d.injEq, OD.l.injEq, HE.o.injEq, HE.al.injEq, List.cons.injEq, PyData.bool.injEq, PyData.int.injEq, PyData.str.injEq, ite_true, ite_false, Nat.reduceSub, Nat.reduceAdd, Nat.reduceLT, Nat.reduceEqDiff, Bool.and_self, Bool.or_true, Bool.true_or, Bool.or_false, Bool.false_or, Bool.false_and, Bool.and_false, eraseL_map, isd_d, er_d, sz_ok, is_int_n, is_int_b, is_int_i, is_int_s, is_int_l, is_int_t, is_int_d, is_bool_n, is_bool_b, is_bool_i, is_bool_s, is_bool_l, is_bool_t, is_bool_d, is_str_n, is_str_b, is_str_i, is_str_s, is_str_l, is_str_t, is_str_d, is_tuple_n, is_tuple_b, is_tuple_i, is_tuple_s, is_tuple_l, is_tuple_t, is_tuple_d, is_list_n, is_list_b, is_list_i, is_list_s, is_list_l, is_list_t, is_list_d, is_dict_n, is_dict_b, is_dict_i, is_dict_s, is_dict_l, is_dict_t, is_dict_d, ic0, ic1, ic2, ic3, ic4, ic5, ic6, ic7, ic8, ic9, ic10, ic11, ic12, ic13, ic14, ic15, ic16, ic17, ic18, ic19, ic20, ic21, noSL_d, nmL_noS, eq_self, decide_true, decide_false, Int.reduceLT, Int.reduceLE, Int.reduceEq, Int.reduceAdd, Int.reduceSub, Int.reduceNeg, Nat.reduceLeDiff, gNe_nil, gEq_nil, nmL_len, nmL_isd, nmL_er, ex_pair, fApp, tupB]
      | _ => simp (config := { maxSteps := 4000000 }) only [w_bind, w_ret, w_ok, w_seq, w_if, w_ifE, w_test, w_and, w_or, w_not, w_andV, w_orV, w_notV, w_do, w_rt, w_asg, w_C, w_var, w_args0, w_args1, w_plc, w_own, w_val, w_prim, w_list, w_tup, w_call, w_callIo, w_callK, w_chain, w_for, w_items, w_rng, w_lc, w_meth1, w_setL2, w_stores, w_aug, w_move, w_str, mNx, mRetN, startE, rds, HE.rd, sh1, sh2, dp1, dp2, gAdd, DL.gSub, gLt, gLe, gGt, gGe, gOrd, gIsI, gLen, gIx, gIxAny, gInAny, isDct, gLenAny, enumOf, zipOf, dat, gMax2, gMin2, gAbs, gNeg, gAddI, gTupOf, gListOf, gTupAny, gListAny, gInt, gIsN, gSl0, gSlL, gSlH, gSlice, OD.erase, OD.noS, noSL, OD.shallow, OD.isD, OD.still, allStill, boolOf, aName, aTup, aAll, outs, wipeE, isL, DL.intAt, DL.putAll, allO, allD, itemsOf, rngA, rngB, fw_ok, gEq_ii, gNe_ii, gEq_ss, gNe_ss, List.getElem?_cons_zero, List.getElem?_cons_succ, List.set_cons_zero, List.set_cons_succ, List.length_cons, List.length_nil, List.map_cons, List.map_nil, List.cons_append, List.nil_append, List.replicate_succ, List.replicate_zero, List.all_cons, List.all_nil, List.eraseIdx_cons_zero, List.eraseIdx_cons_succ, List.drop_succ_cons, List.drop_zero, List.filterMap_cons, List.filterMap_nil, Option.some.injEq, exists_eq_left', exists_eq_left, exists_eq', exists_eq, Option.join_some, Option.map_some, Option.bind_some, if_true, if_false, true_and, and_true, Bool.true_and, Bool.and_true, Bool.not_true, Bool.not_false, reduceCtorEq, false_and, exists_false, Bool.false_eq_true, OD.d.injEq, OD.l.injEq, HE.o.injEq, HE.al.injEq, List.cons.injEq, PyData.bool.injEq, PyData.int.injEq, PyData.str.injEq, ite_true, ite_false, Nat.reduceSub, Nat.reduceAdd, Nat.reduceLT, Nat.reduceEqDiff, Bool.and_self, Bool.or_true, Bool.true_or, Bool.or_false, Bool.false_or, Bool.false_and, Bool.and_false, eraseL_map, isd_d, er_d, sz_ok, is_int_n, is_int_b, is_int_i, is_int_s, is_int_l, is_int_t, is_int_d, is_bool_n, is_bool_b, is_bool_i, is_bool_s, is_bool_l, is_bool_t, is_bool_d, is_str_n, is_str_b, is_str_i, is_str_s, is_str_l, is_str_t, is_str_d, is_tuple_n, is_tuple_b, is_tuple_i, is_tuple_s, is_tuple_l, is_tuple_t, is_tuple_d, is_list_n, is_list_b, is_list_i, is_list_s, is_list_l, is_list_t, is_list_d, is_dict_n, is_dict_b, is_dict_i, is_dict_s, is_dict_l, is_dict_t, is_dict_d, ic0, ic1, ic2, ic3, ic4, ic5, ic6, ic7, ic8, ic9, ic10, ic11, ic12, ic13, ic14, ic15, ic16, ic17, ic18, ic19, ic20, ic21, noSL_d, nmL_noS, eq_self, decide_true, decide_false, Int.reduceLT, Int.reduceLE, Int.reduceEq, Int.reduceAdd, Int.reduceSub, Int.reduceNeg, Nat.reduceLeDiff, gNe_nil, gEq_nil, nmL_len, nmL_isd, nmL_er, ex_pair, fApp, tupB]
    rintro _ rfl
    refine seq_of (law_4 ns k x2 x3 x4 _ x6 x8 x9 d _ x12 x13) ?_
    rintro _ ⟨x13, rfl⟩
    refine seq_of (law_5 ns k x2 x3 x4 _ x6 x8 x9 d _ _ x12 x13) ?_
    rintro _ rfl
    refine (law_6 ns k x2 x3 x4 _ x6 x8 x9 d x13 hd).imp (fun fl e _ z => ?_) fun _ _ _ z => z.elim
    obtain ⟨rfl, x11, rfl⟩ := z
    exact ⟨_, _, _, _, _, rfl⟩
  · rintro e ⟨x7, x10, x11, x12, x13, rfl⟩
    exact ⟨rfl, _, _, _, _, _, _, _, _, _, _, _, _, rfl⟩
end LW

set_option Elab.async false
set_option linter.all false
set_option autoImplicit false
set_option maxRecDepth 100000
set_option maxHeartbeats 1000000
namespace LW
open PySem PySem.Spec PyProof.Rows L2 DL

def Ie (ns : List Int) (e : DEnv) : Prop := ∃ x1 x2 x3 x4 x5 x6 x7 x8 x9 x10 x11 x12 x13 : OO, e = [some (.s ns), x1, x2, x3, x4, x5, x6, x7, x8, x9, x10, x11, x12, x13]
theorem law_body (ns : List Int) (j : Nat) (hj : j < 8) (x2 x3 x4 x5 x6 x7 x8 x9 x10 x11 x12 x13 : OO) {e : DEnv} (he : e = [some (.s ns), some (.d (.int (j : Int))), x2, x3, x4, x5, x6, x7, x8, x9, x10, x11, x12, x13]) :
    Mwp (mSeq (mAsg (mCall f__law_jar [.plc 0, .val (mVar 1)]) (aName 3)) (mSeq m_law_0 (mSeq m_law_1 (mSeq m_law_3 m_law_7))) e) (fun fl e => fl = .nx ∧ Ie ns e) (fun _ _ => False) := by
  refine seq_of (I := fun e => ∃ o, Jr 0 o ∧ e = [some (.s ns), some (.d (.int (j : Int))), x2, some o, x4, x5, x6, x7, x8, x9, x10, x11, x12, x13]) ?_ fun e h => ?_
  · subst he
    simp (config := { maxSteps := 4000000 }) only [w_bind, w_ret, w_ok, w_seq, w_if, w_ifE, w_test, w_and, w_or, w_not, w_andV, w_orV, w_notV, w_do, w_rt, w_asg, w_C, w_var, w_args0, w_args1, w_plc, w_own, w_val, w_prim, w_list, w_tup, w_call, w_callIo, w_callK, w_chain, w_for, w_items, w_rng, w_lc, w_meth1, w_setL2, w_stores, w_aug, w_move, w_str, mNx, mRetN, startE, rds, HE.rd, sh1, sh2, dp1, dp2, gAdd, DL.gSub, gLt, gLe, gGt, gGe, gOrd, gIsI, gLen, gIx, gIxAny, gInAny, isDct, gLenAny, enumOf, zipOf, dat, gMax2, gMin2, gAbs, gNeg, gAddI, gTupOf, gListOf, gTupAny, gListAny, gInt, gIsN, gSl0, gSlL, gSlH, gSlice, OD.erase, OD.noS, noSL, OD.shallow, OD.isD, OD.still, allStill, boolOf, aName, aTup, aAll, outs, wipeE, isL, DL.intAt, DL.putAll, allO, allD, itemsOf, rngA, rngB, fw_ok, gEq_ii, gNe_ii, gEq_ss, gNe_ss, List.getElem?_cons_zero, List.getElem?_cons_succ, List.set_cons_zero, List.set_cons_succ, List.length_cons, List.length_nil, List.map_cons, List.map_nil, List.cons_append, List.nil_append, List.replicate_succ, List.replicate_zero, List.all_cons, List.all_nil, List.eraseIdx_cons_zero, List.eraseIdx_cons_succ, List.drop_succ_cons, List.drop_zero, List.filterMap_cons, List.filterMap_nil, Option.some.injEq, exists_eq_left', exists_eq_left, exists_eq', exists_eq, Option.join_some, Option.map_some, Option.bind_some, if_true, if_false, true_and, and_true, Bool.true_and, Bool.and_true, Bool.not_true, Bool.not_false, reduceCtorEq, false_and, exists_false, Bool.false_eq_true, OD.d.injEq, OD.l.injEq, HE.o.injEq, HE.al.injEq, List.cons.injEq, PyData.bool.injEq, PyData.int.injEq, PyData.str.injEq, ite_true, ite_false, Nat.reduceSub, Nat.reduceAdd, Nat.reduceLT, Nat.reduceEqDiff, Bool.and_self, Bool.or_true, Bool.true_or, Bool.or_false, Bool.false_or, Bool.false_and, Bool.and_false, eraseL_map, isd_d, er_d, sz_ok, is_int_n, is_int_b, is_int_i, is_int_s, is_int_l, is_int_t, is_int_d, is_bool_n, is_bool_b, is_bool_i, is_bool_s, is_bool_l, is_bool_t, is_bool_d, is_str_n, is_str_b, is_str_i, is_str_s, is_str_l, is_str_t, is_str_d, is_tuple_n, is_tuple_b, is_tuple_i, is_tuple_s, is_tuple_l, is_tuple_t, is_tuple_d, is_list_n, is_list_b, is_list_i, is_list_s, is_list_l, is_list_t, is_list_d, is_dict_n, is_dict_b, is_dict_i, is_dict_s, is_dict_l, is_dict_t, is_dict_d, ic0, ic1, ic2, ic3, ic4, ic5, ic6, ic7, ic8, ic9, ic10, ic11, ic12, ic13, ic14, ic15, ic16, ic17, ic18, ic19, ic20, ic21, noSL_d, nmL_noS, eq_self, decide_true, decide_false, Int.reduceLT, Int.reduceLE, Int.reduceEq, Int.reduceAdd, Int.reduceSub, Int.reduceNeg, Nat.reduceLeDiff, gNe_nil, gEq_nil, nmL_len, nmL_isd, nmL_er, ex_pair, fApp]
    refine (v_jar ns j (by omega)).imp ?_ (fun _ _ z => z.elim)
    rintro o l ⟨rfl, hJ⟩
    simp (config := { maxSteps := 4000000 }) only [w_bind, w_ret, w_ok, w_seq, w_if, w_ifE, w_test, w_and, w_or, w_not, w_andV, w_orV, w_notV, w_do, w_rt, w_asg, w_C, w_var, w_args0, w_args1, w_plc, w_own, w_val, w_prim, w_list, w_tup, w_call, w_callIo, w_callK, w_chain, w_for, w_items, w_rng, w_lc, w_meth1, w_setL2, w_stores, w_aug, w_move, w_str, mNx, mRetN, startE, rds, HE.rd, sh1, sh2, dp1, dp2, gAdd, DL.gSub, gLt, gLe, gGt, gGe, gOrd, gIsI, gLen, gIx, gIxAny, gInAny, isDct, gLenAny, enumOf, zipOf, dat, gMax2, gMin2, gAbs, gNeg, gAddI, gTupOf, gListOf, gTupAny, gListAny, gInt, gIsN, gSl0, gSlL, gSlH, gSlice, OD.erase, OD.noS, noSL, OD.shallow, OD.isD, OD.still, allStill, boolOf, aName, aTup, aAll, outs, wipeE, isL, DL.intAt, DL.putAll, allO, allD, itemsOf, rngA, rngB, fw_ok, gEq_ii, gNe_ii, gEq_ss, gNe_ss, List.getElem?_cons_zero, List.getElem?_cons_succ, List.set_cons_zero, List.set_cons_succ, List.length_cons, List.length_nil, List.map_cons, List.map_nil, List.cons_append, List.nil_append, List.replicate_succ, List.replicate_zero, List.all_cons, List.all_nil, List.eraseIdx_cons_zero, List.eraseIdx_cons_succ, List.drop_succ_cons, List.drop_zero, List.filterMap_cons, List.filterMap_nil, Option.some.injEq, exists_eq_left', exists_eq_left, exists_eq', exists_eq, Option.join_some, Option.map_some, Option.bind_some, if_true, if_false, true_and, and_true, Bool.true_and, Bool.and_true, Bool.not_true, Bool.not_false, reduceCtorEq, false_and, exists_false, Bool.false_eq_true, OD.d.injEq, OD.l.injEq, HE.o.injEq, HE.al.injEq, List.cons.injEq, PyData.bool.injEq, PyData.int.injEq, PyData.str.injEq, ite_true, ite_false, Nat.reduceSub, Nat.reduceAdd, Nat.reduceLT, Nat.reduceEqDiff, Bool.and_self, Bool.or_true, Bool.true_or, Bool.or_false, Bool.false_or, Bool.false_and, Bool.and_false, eraseL_map, isd_d, er_d, sz_ok, is_int_n, is_int_b, is_int_i, is_int_s, is_int_l, is_int_t, is_int_d, is_bool_n, is_bool_b, is_bool_i, is_bool_s, is_bool_l, is_bool_t, is_bool_d, is_str_n, is_str_b, is_str_i, is_str_s, is_str_l, is_str_t, is_str_d, is_tuple_n, is_tuple_b, is_tuple_i, is_tuple_s, is_tuple_l, is_tuple_t, is_tuple_d, is_list_n, is_list_b, is_list_i, is_list_s, is_list_l, is_list_t, is_list_d, is_dict_n, is_dict_b, is_dict_i, is_dict_s, is_dict_l, is_dict_t, is_dict_d, ic0, ic1, ic2, ic3, ic4, ic5, ic6, ic7, ic8, ic9, ic10, ic11, ic12, ic13, ic14, ic15, ic16, ic17, ic18, ic19, ic20, ic21, noSL_d, nmL_noS, eq_self, decide_true, decide_false, Int.reduceLT, Int.reduceLE, Int.reduceEq, Int.reduceAdd, Int.reduceSub, Int.reduceNeg, Nat.reduceLeDiff, gNe_nil, gEq_nil, nmL_len, nmL_isd, nmL_er, ex_pair, fApp]
    exact ⟨o, hJ, by (repeat' apply And.intro) <;> first | rfl | simp⟩
  clear he
  obtain ⟨o, hJ, he⟩ := h
  refine seq_of (I := fun e => ∃ o' ts, Jr 2000 o' ∧ ts.length ≤ 200 ∧ (∀ t ∈ ts, Trip t) ∧ e = [some (.s ns), some (.d (.int (j : Int))), x2, some o', some (.d (.tuple ts)), x5, x6, x7, x8, x9, x10, x11, x12, x13]) (he ▸ law_0 ns _ o hJ x2 x4 x5 x6 x7 x8 x9 x10 x11 x12 x13) fun e h => ?_
  clear he
  obtain ⟨o, ts, hJ, hl, hts, he⟩ := h
  refine seq_of (I := fun e => ∃ vs, Vals vs ∧ vs.length = 13 ∧ e = [some (.s ns), some (.d (.int (j : Int))), x2, some o, some (.d (.tuple ts)), some (.l (vs.map .d)), x6, x7, x8, x9, x10, x11, x12, x13]) (he ▸ law_1 ns _ o ts hl hts x2 x5 x6 x7 x8 x9 x10 x11 x12 x13) fun e h => ?_
  clear he
  obtain ⟨vs, hv, hvl, he⟩ := h
  refine seq_of (I := fun e => ∃ vs' o x6 x8 x9, Vals vs' ∧ vs'.length ≤ 49 ∧ e = [some (.s ns), some (.d (.int (j : Int))), x2, some o, some (.d (.tuple ts)), some (.l (vs'.map .d)), x6, x7, x8, x9, x10, x11, x12, x13]) (he ▸ law_3 ns _ o hJ ts vs hl hts hv hvl x2 x6 x7 x8 x9 x10 x11 x12 x13) fun e h => ?_
  clear he
  obtain ⟨vs, o, x6, x8, x9, hv, hvl, he⟩ := h
  have q := law_7 ns (.d (.int (j : Int))) vs hv x2 (some o) (some (.d (.tuple ts))) x6 x7 x8 x9 x10 x11 x12 x13
  rw [← he] at q
  refine q.imp (fun fl e _ z => ?_) fun _ _ _ z => z
  obtain ⟨rfl, y2, y3, y4, y5, y6, y7, y8, y9, y10, y11, y12, y13, rfl⟩ := z
  exact ⟨rfl, _, _, _, _, _, _, _, _, _, _, _, _, _, rfl⟩
theorem law_8 (ns : List Int) {e : DEnv} (h : Ie ns e) : Mwp (m_law_8 e) (fun fl e => fl = .nx ∧ Ie ns e) (fun _ _ => False) := by
  unfold m_law_8
  refine for_by (fun ds e => ∃ T : Nat, T ≤ 8 ∧ ds = rngOf 0 T ∧ Ie ns e) ?_ ?_
  · obtain ⟨x1, x2, x3, x4, x5, x6, x7, x8, x9, x10, x11, x12, x13, rfl⟩ := h
    have hT : ∃ T : Nat, T ≤ 8 ∧ (if (if (ns.length : Int) < 8 then (ns.length : Int) else 8) > 1 then (if (ns.length : Int) < 8 then (ns.length : Int) else 8) else 1) = (T : Int) := by
      by_cases h1 : (ns.length : Int) < 8
      · by_cases h2 : (ns.length : Int) > 1
        · exact ⟨ns.length, by omega, by rw [if_pos h1, if_pos h2]⟩
        · exact ⟨1, by omega, by rw [if_pos h1, if_neg h2]; rfl⟩
      · exact ⟨8, by omega, by rw [if_neg h1, if_pos (by decide)]; rfl⟩
    obtain ⟨T, hT, eT⟩ := hT
    have sm : smallB (T : Int) = true := by simp [smallB]; omega
    simp (config := { maxSteps := 4000000 }) only [w_bind, w_ret, w_ok, w_seq, w_if, w_ifE, w_test, w_and, w_or, w_not, w_andV, w_orV, w_notV, w_do, w_rt, w_asg, w_C, w_var, w_args0, w_args1, w_plc, w_own, w_val, w_prim, w_list, w_tup, w_call, w_callIo, w_callK, w_chain, w_for, w_items, w_rng, w_lc, w_meth1, w_setL2, w_stores, w_aug, w_move, w_str, mNx, mRetN, startE, rds, HE.rd, sh1, sh2, dp1, dp2, gAdd, DL.gSub, gLt, gLe, gGt, gGe, gOrd, gIsI, gLen, gIx, gIxAny, gInAny, isDct, gLenAny, enumOf, zipOf, dat, gMax2, gMin2, gAbs, gNeg, gAddI, gTupOf, gListOf, gTupAny, gListAny, gInt, gIsN, gSl0, gSlL, gSlH, gSlice, OD.erase, OD.noS, noSL, OD.shallow, OD.isD, OD.still, allStill, boolOf, aName, aTup, aAll, outs, wipeE, isL, DL.intAt, DL.putAll, allO, allD, itemsOf, rngA, rngB, fw_ok, gEq_ii, gNe_ii, gEq_ss, gNe_ss, List.getElem?_cons_zero, List.getElem?_cons_succ, List.set_cons_zero, List.set_cons_succ, List.length_cons, List.length_nil, List.map_cons, List.map_nil, List.cons_append, List.nil_append, List.replicate_succ, List.replicate_zero, List.all_cons, List.all_nil, List.eraseIdx_cons_zero, List.eraseIdx_cons_succ, List.drop_succ_cons, List.drop_zero, List.filterMap_cons, List.filterMap_nil, Option.some.injEq, exists_eq_left', exists_eq_left, exists_eq', exists_eq, Option.join_some, Option.map_some, Option.bind_some, if_true, if_false, true_and, and_true, Bool.true_and, Bool.and_true, Bool.not_true, Bool.not_false, reduceCtorEq, false_and, exists_false, Bool.false_eq_true, OD.d.injEq, OD.l.injEq, HE.o.injEq, HE.al.injEq, List.cons.injEq, PyData.bool.injEq, PyData.int.injEq, PyData.str.injEq, ite_true, ite_false, Nat.reduceSub, Nat.reduceAdd, Nat.reduceLT, Nat.reduceEqDiff, Bool.and_self, Bool.or_true, Bool.true_or, Bool.or_false, Bool.false_or, Bool.false_and, Bool.and_false, eraseL_map, isd_d, er_d, sz_ok, is_int_n, is_int_b, is_int_i, is_int_s, is_int_l, is_int_t, is_int_d, is_bool_n, is_bool_b, is_bool_i, is_bool_s, is_bool_l, is_bool_t, is_bool_d, is_str_n, is_str_b, is_str_i, is_str_s, is_str_l, is_str_t, is_str_d, is_tuple_n, is_tuple_b, is_tuple_i, is_tuple_s, is_tuple_l, is_tuple_t, is_tuple_d, is_list_n, is_list_b, is_list_i, is_list_s, is_list_l, is_list_t, is_list_d, is_dict_n, is_dict_b, is_dict_i, is_dict_s, is_dict_l, is_dict_t, is_dict_d, ic0, ic1, ic2, ic3, ic4, ic5, ic6, ic7, ic8, ic9, ic10, ic11, ic12, ic13, ic14, ic15, ic16, ic17, ic18, ic19, ic20, ic21, noSL_d, nmL_noS, eq_self, decide_true, decide_false, Int.reduceLT, Int.reduceLE, Int.reduceEq, Int.reduceAdd, Int.reduceSub, Int.reduceNeg, Nat.reduceLeDiff, gNe_nil, gEq_nil, nmL_len, nmL_isd, nmL_er, ex_pair, fApp, eT, sm]
    exact ⟨T, hT, rfl, _, _, _, _, _, _, _, _, _, _, _, _, _, rfl⟩
  rintro ds e ⟨T, hT, rfl, he⟩
  refine each_by (fun k e => Ie ns e) 0 he ?_ fun e he => ⟨rfl, he⟩
  rintro j d e hj ⟨x1, x2, x3, x4, x5, x6, x7, x8, x9, x10, x11, x12, x13, rfl⟩
  obtain ⟨hj, rfl⟩ := rng_at hj
  refine ⟨_, rfl, ?_⟩
  have z0 : (0 : Int) + (j : Int) = (j : Int) := Int.zero_add _
  rw [z0]
  refine (law_body ns j (by omega) x2 x3 x4 x5 x6 x7 x8 x9 x10 x11 x12 x13 rfl).imp (fun fl e _ q => ?_) fun _ _ _ z => z
  obtain ⟨rfl, h⟩ := q
  exact h
def cp : PyData := .tuple [.str "skip", .str "a", .str "abcdefgh"]
theorem cp_ok : copyB cp = true := by decide +kernel
theorem full_mul : gMul (.tuple [cp]) (.int 200) = some (.d (.tuple (List.replicate 200 cp))) := by
  have h : [cp].length ≤ 1000 ∧ (200 : Int) ≤ 1000 ∧ 2 ≤ (200 : Int) ∧ 1 ≤ [cp].length := by decide
  simp only [gMul]
  rw [if_pos h, List.flatten_replicate_singleton]
  rfl
theorem full_1 : scriptB (.tuple (List.replicate 200 cp)) = true := by
  simp [scriptB, cp_ok]
theorem full_2 (xs : List PyData) (h : xs.length = 201) : scriptB (.tuple xs) = false := by
  simp [scriptB, h]
theorem same_1 : copyB (.tuple [.str "over", .str "a", .str "a"]) = false := by decide +kernel
theorem fin_eq : gEq (.list [.bool true, .bool false, .bool false]) (.list [.bool true, .bool false, .bool false]) = some (.d (.bool true)) := by
  have h : eqFit (.list [.bool true, .bool false, .bool false]) (.list [.bool true, .bool false, .bool false]) = true := by decide +kernel
  unfold gEq
  rw [if_pos h]
  rfl
theorem law_9 (ns : List Int) {e : DEnv} (h : Ie ns e) : Mwp (mSeq (mAsg (prim (sh2 gMul) [.own (mTup [.val (mTup [.val (mC (.str "skip")), .val (mC (.str "a")), .val (mC (.str "abcdefgh"))])]), .own (mC (.int 200))]) (aName 2)) m_law_9 e) (fun fl e => fl = .rt (.d (.bool true))) (fun _ _ => False) := by
  obtain ⟨x1, x2, x3, x4, x5, x6, x7, x8, x9, x10, x11, x12, x13, he⟩ := h
  refine seq_of (I := fun e => e = [some (.s ns), x1, some (.d (.tuple (List.replicate 200 cp))), x3, x4, x5, x6, x7, x8, x9, x10, x11, x12, x13]) ?_ fun e h => ?_
  · subst he
    have := full_mul
    unfold cp at this
    simp (config := { maxSteps := 4000000 }) only [w_bind, w_ret, w_ok, w_seq, w_if, w_ifE, w_test, w_and, w_or, w_not, w_andV, w_orV, w_notV, w_do, w_rt, w_asg, w_C, w_var, w_args0, w_args1, w_plc, w_own, w_val, w_prim, w_list, w_tup, w_call, w_callIo, w_callK, w_chain, w_for, w_items, w_rng, w_lc, w_meth1, w_setL2, w_stores, w_aug, w_move, w_str, mNx, mRetN, startE, rds, HE.rd, sh1, sh2, dp1, dp2, gAdd, DL.gSub, gLt, gLe, gGt, gGe, gOrd, gIsI, gLen, gIx, gIxAny, gInAny, isDct, gLenAny, enumOf, zipOf, dat, gMax2, gMin2, gAbs, gNeg, gAddI, gTupOf, gListOf, gTupAny, gListAny, gInt, gIsN, gSl0, gSlL, gSlH, gSlice, OD.erase, OD.noS, noSL, OD.shallow, OD.isD, OD.still, allStill, boolOf, aName, aTup, aAll, outs, wipeE, isL, DL.intAt, DL.putAll, allO, allD, itemsOf, rngA, rngB, fw_ok, gEq_ii, gNe_ii, gEq_ss, gNe_ss, List.getElem?_cons_zero, List.getElem?_cons_succ, List.set_cons_zero, List.set_cons_succ, List.length_cons, List.length_nil, List.map_cons, List.map_nil, List.cons_append, List.nil_append, List.replicate_succ, List.replicate_zero, List.all_cons, List.all_nil, List.eraseIdx_cons_zero, List.eraseIdx_cons_succ, List.drop_succ_cons, List.drop_zero, List.filterMap_cons, List.filterMap_nil, Option.some.injEq, exists_eq_left', exists_eq_left, exists_eq', exists_eq, Option.join_some, Option.map_some, Option.bind_some, if_true, if_false, true_and, and_true, Bool.true_and, Bool.and_true, Bool.not_true, Bool.not_false, reduceCtorEq, false_and, exists_false, Bool.false_eq_true, OD.d.injEq, OD.l.injEq, HE.o.injEq, HE.al.injEq, List.cons.injEq, PyData.bool.injEq, PyData.int.injEq, PyData.str.injEq, ite_true, ite_false, Nat.reduceSub, Nat.reduceAdd, Nat.reduceLT, Nat.reduceEqDiff, Bool.and_self, Bool.or_true, Bool.true_or, Bool.or_false, Bool.false_or, Bool.false_and, Bool.and_false, eraseL_map, isd_d, er_d, sz_ok, is_int_n, is_int_b, is_int_i, is_int_s, is_int_l, is_int_t, is_int_d, is_bool_n, is_bool_b, is_bool_i, is_bool_s, is_bool_l, is_bool_t, is_bool_d, is_str_n, is_str_b, is_str_i, is_str_s, is_str_l, is_str_t, is_str_d, is_tuple_n, is_tuple_b, is_tuple_i, is_tuple_s, is_tuple_l, is_tuple_t, is_tuple_d, is_list_n, is_list_b, is_list_i, is_list_s, is_list_l, is_list_t, is_list_d, is_dict_n, is_dict_b, is_dict_i, is_dict_s, is_dict_l, is_dict_t, is_dict_d, ic0, ic1, ic2, ic3, ic4, ic5, ic6, ic7, ic8, ic9, ic10, ic11, ic12, ic13, ic14, ic15, ic16, ic17, ic18, ic19, ic20, ic21, noSL_d, nmL_noS, eq_self, decide_true, decide_false, Int.reduceLT, Int.reduceLE, Int.reduceEq, Int.reduceAdd, Int.reduceSub, Int.reduceNeg, Nat.reduceLeDiff, gNe_nil, gEq_nil, nmL_len, nmL_isd, nmL_er, ex_pair, fApp, this]
    rfl
  clear he
  subst h
  unfold m_law_9
  have hl : (List.replicate 200 cp).length = 200 := List.length_replicate
  generalize hg : List.replicate 200 cp = F at hl ⊢
  have f1 : scriptB (.tuple F) = true := by rw [← hg]; exact full_1
  have hc : (cutD F none (some 1)).length = 1 := by rw [← hg]; rfl
  have f2 : scriptB (.tuple (F ++ cutD F none (some 1))) = false := full_2 _ (by rw [List.length_append, hl, hc])
  have hz : F.length + (cutD F none (some 1)).length ≤ 16777216 := by rw [hl, hc]; decide
  simp (config := { maxSteps := 4000000 }) only [w_bind, w_ret, w_ok, w_seq, w_if, w_ifE, w_test, w_and, w_or, w_not, w_andV, w_orV, w_notV, w_do, w_rt, w_asg, w_C, w_var, w_args0, w_args1, w_plc, w_own, w_val, w_prim, w_list, w_tup, w_call, w_callIo, w_callK, w_chain, w_for, w_items, w_rng, w_lc, w_meth1, w_setL2, w_stores, w_aug, w_move, w_str, mNx, mRetN, startE, rds, HE.rd, sh1, sh2, dp1, dp2, gAdd, DL.gSub, gLt, gLe, gGt, gGe, gOrd, gIsI, gLen, gIx, gIxAny, gInAny, isDct, gLenAny, enumOf, zipOf, dat, gMax2, gMin2, gAbs, gNeg, gAddI, gTupOf, gListOf, gTupAny, gListAny, gInt, gIsN, gSl0, gSlL, gSlH, gSlice, OD.erase, OD.noS, noSL, OD.shallow, OD.isD, OD.still, allStill, boolOf, aName, aTup, aAll, outs, wipeE, isL, DL.intAt, DL.putAll, allO, allD, itemsOf, rngA, rngB, fw_ok, gEq_ii, gNe_ii, gEq_ss, gNe_ss, List.getElem?_cons_zero, List.getElem?_cons_succ, List.set_cons_zero, List.set_cons_succ, List.length_cons, List.length_nil, List.map_cons, List.map_nil, List.cons_append, List.nil_append, List.replicate_succ, List.replicate_zero, List.all_cons, List.all_nil, List.eraseIdx_cons_zero, List.eraseIdx_cons_succ, List.drop_succ_cons, List.drop_zero, List.filterMap_cons, List.filterMap_nil, Option.some.injEq, exists_eq_left', exists_eq_left, exists_eq', exists_eq, Option.join_some, Option.map_some, Option.bind_some, if_true, if_false, true_and, and_true, Bool.true_and, Bool.and_true, Bool.not_true, Bool.not_false, reduceCtorEq, false_and, exists_false, Bool.false_eq_true, OD.d.injEq, OD.l.injEq, HE.o.injEq, HE.al.injEq, List.cons.injEq, PyData.bool.injEq, PyData.int.injEq, PyData.str.injEq, ite_true, ite_false, Nat.reduceSub, Nat.reduceAdd, Nat.reduceLT, Nat.reduceEqDiff, Bool.and_self, Bool.or_true, Bool.true_or, Bool.or_false, Bool.false_or, Bool.false_and, Bool.and_false, eraseL_map, isd_d, er_d, sz_ok, is_int_n, is_int_b, is_int_i, is_int_s, is_int_l, is_int_t, is_int_d, is_bool_n, is_bool_b, is_bool_i, is_bool_s, is_bool_l, is_bool_t, is_bool_d, is_str_n, is_str_b, is_str_i, is_str_s, is_str_l, is_str_t, is_str_d, is_tuple_n, is_tuple_b, is_tuple_i, is_tuple_s, is_tuple_l, is_tuple_t, is_tuple_d, is_list_n, is_list_b, is_list_i, is_list_s, is_list_l, is_list_t, is_list_d, is_dict_n, is_dict_b, is_dict_i, is_dict_s, is_dict_l, is_dict_t, is_dict_d, ic0, ic1, ic2, ic3, ic4, ic5, ic6, ic7, ic8, ic9, ic10, ic11, ic12, ic13, ic14, ic15, ic16, ic17, ic18, ic19, ic20, ic21, noSL_d, nmL_noS, eq_self, decide_true, decide_false, Int.reduceLT, Int.reduceLE, Int.reduceEq, Int.reduceAdd, Int.reduceSub, Int.reduceNeg, Nat.reduceLeDiff, gNe_nil, gEq_nil, nmL_len, nmL_isd, nmL_er, ex_pair, fApp, v_is_script, v_is_copy, f1, f2, hz, same_1, fin_eq]
theorem law_true : ∀ ns : List Int, ns.length ≤ 63 → f_law [.s ns] = some (.ok (.d (.bool true)), []) := by
  intro ns _
  rw [← fw_eq]
  unfold f_law
  rw [fw_sem]
  have h : Mwp (m_law (startE 14 [.s ns])) (fun fl e => fl = .rt (.d (.bool true))) (fun _ _ => False) := by
    unfold m_law
    refine seq_of (I := Ie ns) (law_8 ns ⟨none, none, none, none, none, none, none, none, none, none, none, none, none, rfl⟩) fun e h => law_9 ns h
  refine h.imp (fun fl e _ h => ?_) (fun _ _ _ z => z.elim)
  subst h
  exact ⟨[], rfl, rfl, rfl⟩
end LW

open PySem PySem.W PyProof.Rows
set_option maxRecDepth 100000 in
set_option maxHeartbeats 0 in
theorem PySem.Challenge.cw_copyover_k01_copies_and_scripts_judged_holds : PySem.Challenge.rw_copyover_k01_copies_and_scripts_judged.Holds := by
  w_on; o_law; k_head; (case hw => w_witness2)
  k_fill
  refine DL.walk_g (l := PySem.Challenge.rw_copyover_k01_copies_and_scripts_judged) (n := 63) (k := 4) (x := "script") (fs := LW.f_law) rfl (by decide) rfl ?imp ⟨rfl, by decide, by decide⟩ (fun w h Y => PySem.W.kIn_of Y) ?F LW.law_true
  case imp => first | rfl | decide +kernel
  case F =>
    intro w mg fa h KX G hmg
    refine' LW.all_mk KX G hmg ?a0 ?l0 ?c0 ?k0 ?a1 ?l1 ?c1 ?k1 ?a2 ?l2 ?c2 ?k2 ?a3 ?l3 ?c3 ?k3 ?a4 ?l4 ?c4 ?k4 ?a5 ?l5 ?c5 ?k5 ?a6 ?l6 ?c6 ?k6 ?a7 ?l7 ?c7 ?k7 ?a8 ?l8 ?c8 ?k8 ?a9 ?l9 ?c9 ?k9 ?z0 ?z1 ?z2 ?z3 ?z4 ?z5 ?z6 ?z7 ?z8 ?z9 ?z10 ?z11 ?y0 ?y1 ?y2 ?y3 ?y4
    (case a0 => k_is); (case l0 => k_is); (case c0 => k_is); (case k0 => k_is); (case a1 => k_is); (case l1 => k_is); (case c1 => k_is); (case k1 => k_is); (case a2 => k_is); (case l2 => k_is); (case c2 => k_is); (case k2 => k_is); (case a3 => k_is); (case l3 => k_is); (case c3 => k_is); (case k3 => k_is); (case a4 => k_is); (case l4 => k_is); (case c4 => k_is); (case k4 => k_is); (case a5 => k_is); (case l5 => k_is); (case c5 => k_is); (case k5 => k_is); (case a6 => k_is); (case l6 => k_is); (case c6 => k_is); (case k6 => k_is); (case a7 => k_is); (case l7 => k_is); (case c7 => k_is); (case k7 => k_is); (case a8 => k_is); (case l8 => k_is); (case c8 => k_is); (case k8 => k_is); (case a9 => k_is); (case l9 => k_is); (case c9 => k_is); (case k9 => k_is); (case z0 => k_is); (case z1 => k_is); (case z2 => k_is); (case z3 => k_is); (case z4 => k_is); (case z5 => k_is); (case z6 => k_is); (case z7 => k_is); (case z8 => k_is); (case z9 => k_is); (case z10 => k_is); (case z11 => k_is); (case y0 => k_is); (case y1 => k_is); (case y2 => k_is); (case y3 => k_is); (case y4 => k_is)

