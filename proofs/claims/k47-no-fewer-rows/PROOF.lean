import PyProof.Rows.All
import HandS.ForMost
import HandS.Deep
import HandS.TupSets
import HandS.Conv
import HandS.IsInst
import HandS.More
import HandS.Wide
import HandS.Strs
import HandS.ReCall
import KE.KDictDisplayH
import KE.SortData
import PySem.Challenge.RW_rowsorder_k47_whole_no_fewer_rows
set_option Elab.async false
set_option linter.all false
set_option maxRecDepth 100000
set_option maxHeartbeats 1000000
/-! an abstract layer over the hand layer: values that denote data in a frozen part F of the tracked heap H -/
namespace RO
open PySem PySem.Spec PyProof.Rows L2

/-! ### data in a frozen heap -/
mutual
inductive Dn (F : Hp) : V → PyData → Prop
  | non : Dn F .non .none
  | bl (b : Bool) : Dn F (.bl b) (.bool b)
  | int (i : Int) : Dn F (.int i) (.int i)
  | str (x : Str) : Dn F (.str x) (.str x)
  | lst {a : Addr} {xs : List V} {ds : List PyData} : F a = some (.lst xs) → ds.length ≤ 100000 → DnAll F xs ds → Dn F (.ref a) (.list ds)
  | tup {a : Addr} {xs : List V} {ds : List PyData} : F a = some (.tup xs) → ds.length ≤ 100000 → DnAll F xs ds → Dn F (.ref a) (.tuple ds)
  | row {a : Addr} {o : Obj} {ns : List Nat} {kvs : List (PyData × PyData)} : F a = some (.frz o (.tup (ns.map fun n : Nat => V.int (n : Int)))) → o.dict = none → ns.length ≤ 100000 → kvs = ns.map (fun n : Nat => (PyData.int (n : Int), PyData.none)) → Dn F (.ref a) (.dict kvs)
inductive DnAll (F : Hp) : List V → List PyData → Prop
  | nil : DnAll F [] []
  | cons {v : V} {vs : List V} {d : PyData} {ds : List PyData} : Dn F v d → DnAll F vs ds → DnAll F (v :: vs) (d :: ds)
end
mutual
theorem Dn.mono {F F2 : Hp} (e : Same F F2) : ∀ {v : V} {d : PyData}, Dn F v d → Dn F2 v d
  | _, _, .non => .non
  | _, _, .bl b => .bl b
  | _, _, .int i => .int i
  | _, _, .str x => .str x
  | _, _, .lst h l a => .lst (e _ _ h) l (DnAll.mono e a)
  | _, _, .tup h l a => .tup (e _ _ h) l (DnAll.mono e a)
  | _, _, .row h o l a => .row (e _ _ h) o l a
theorem DnAll.mono {F F2 : Hp} (e : Same F F2) : ∀ {vs : List V} {ds : List PyData}, DnAll F vs ds → DnAll F2 vs ds
  | _, _, .nil => .nil
  | _, _, .cons h t => .cons (Dn.mono e h) (DnAll.mono e t)
end
mutual
theorem Dn.dp {K : PySem.W.Frag} {F H : Hp} (e : Same F H) : ∀ {v : V} {d : PyData}, Dn F v d → d.canLay0 = true → Dp K H v d
  | _, _, .non, _ => .non
  | _, _, .bl b, _ => .bl b
  | _, _, .int i, _ => .int i
  | _, _, .str x, _ => .str x
  | _, _, .lst h l a, c => .lst (SqL.of (e _ _ h)) (DnAll.dp e a (by simpa [PyData.canLay0] using c))
  | _, _, .tup h l a, c => .tup (SqT.of (e _ _ h)) (DnAll.dp e a (by simpa [PyData.canLay0] using c))
  | _, _, .row h o l a, c => by simp [PyData.canLay0] at c
theorem DnAll.dp {K : PySem.W.Frag} {F H : Hp} (e : Same F H) : ∀ {vs : List V} {ds : List PyData}, DnAll F vs ds → PyData.canLayAll0 ds = true → DpAll K H vs ds
  | _, _, .nil, _ => .nil
  | _, _, .cons h t, c => by
    simp only [PyData.canLayAll0, Bool.and_eq_true] at c
    exact .cons (Dn.dp e h c.1) (DnAll.dp e t c.2)
end
theorem DnAll.length {F : Hp} : ∀ {vs : List V} {ds : List PyData}, DnAll F vs ds → vs.length = ds.length
  | _, _, .nil => rfl
  | _, _, .cons _ t => by rw [List.length_cons, List.length_cons, DnAll.length t]
theorem DnAll.get {F : Hp} : ∀ {vs : List V} {ds : List PyData} {i : Nat} {d : PyData}, DnAll F vs ds → ds[i]? = some d → ∃ v, vs[i]? = some v ∧ Dn F v d
  | _, _, _, _, .nil, e => by simp at e
  | _, _, 0, _, .cons h _, e => by simp at e; subst e; exact ⟨_, rfl, h⟩
  | _, _, i + 1, d, .cons _ t, e => by
    obtain ⟨v, h1, h2⟩ := DnAll.get (i := i) t (by simpa using e)
    exact ⟨v, by simpa using h1, h2⟩
theorem DnAll.append {F : Hp} : ∀ {vs ws : List V} {ds es : List PyData}, DnAll F vs ds → DnAll F ws es → DnAll F (vs ++ ws) (ds ++ es)
  | _, _, _, _, .nil, h => h
  | _, _, _, _, .cons a t, h => .cons a (DnAll.append t h)
theorem DnAll.one {F : Hp} {v : V} {d : PyData} (h : Dn F v d) : DnAll F [v] [d] := .cons h .nil
theorem DnAll.take {F : Hp} : ∀ {vs : List V} {ds : List PyData} (n : Nat), DnAll F vs ds → DnAll F (vs.take n) (ds.take n)
  | _, _, 0, _ => .nil
  | _, _, _ + 1, .nil => .nil
  | _, _, n + 1, .cons a t => .cons a (DnAll.take n t)
theorem DnAll.drop {F : Hp} : ∀ {vs : List V} {ds : List PyData} (n : Nat), DnAll F vs ds → DnAll F (vs.drop n) (ds.drop n)
  | _, _, 0, h => h
  | _, _, _ + 1, .nil => .nil
  | _, _, n + 1, .cons a t => DnAll.drop n t
theorem DnAll.mem {F : Hp} {vs : List V} {ds : List PyData} {v : V} (h : DnAll F vs ds) (hv : v ∈ vs) : ∃ d ∈ ds, Dn F v d := by
  induction vs generalizing ds with
  | nil => cases hv
  | cons w ws ih =>
    cases h with
    | cons a t =>
      rcases List.mem_cons.mp hv with rfl | hv
      · exact ⟨_, List.mem_cons_self, a⟩
      · obtain ⟨d, h1, h2⟩ := ih t hv
        exact ⟨d, List.mem_cons_of_mem _ h1, h2⟩

/-! ### growth: M may change, nothing else; F gets new things alone -/
/-- something stands at a, and no tuple (tuples may be frozen at any time) -/
def NT (H : Hp) (a : Addr) : Prop := ∃ o, H a = some o ∧ ∀ xs, o ≠ .tup xs
theorem NT.ne {H : Hp} {a : Addr} (h : NT H a) : H a ≠ none := by
  obtain ⟨o, e, _⟩ := h
  rw [e]; simp
structure Gr (M : Addr → Prop) (F H F2 H2 : Hp) : Prop where
  ff : Same F F2
  fh : Same F2 H2
  hh : ∀ a o, ¬ M a → H a = some o → H2 a = some o
  nw : ∀ a, F a = none → NT H a → F2 a = none
  dm : ∀ a, H a ≠ none → H2 a ≠ none
abbrev M0 : Addr → Prop := fun _ => False
abbrev Gr0 := Gr M0
section
variable {M : Addr → Prop} {F H F1 H1 F2 H2 : Hp}
theorem Gr.refl (e : Same F H) : Gr M F H F H := ⟨Same.refl _, e, fun _ _ _ h => h, fun _ h _ => h, fun _ h => h⟩
theorem NT.gr (a : Gr0 F H F1 H1) {x : Addr} (h : NT H x) : NT H1 x := by
  obtain ⟨o, e, n⟩ := h
  exact ⟨o, a.hh x o (fun z => z) e, n⟩
theorem Gr.trans (a : Gr M0 F H F1 H1) (b : Gr M0 F1 H1 F2 H2) : Gr M0 F H F2 H2 :=
  ⟨a.ff.trans b.ff, b.fh, fun x o m h => b.hh x o m (a.hh x o m h), fun x h1 h2 => b.nw x (a.nw x h1 h2) (h2.gr a), fun x h => b.dm x (a.dm x h)⟩
theorem Gr.up (a : Gr0 F H F2 H2) : Gr M F H F2 H2 := ⟨a.ff, a.fh, fun x o _ h => a.hh x o (fun z => z) h, a.nw, a.dm⟩
theorem Gr.same (a : Gr0 F H F2 H2) : Same H H2 := fun x o h => a.hh x o (fun z => z) h
/-- a new frozen object -/
theorem Gr.new {p : Addr} {o : HO} (e : Same F H) (h : H p = none) : Gr M F H (upd F p o) (upd H p o) := by
  have hF : F p = none := by
    cases q : F p with
    | none => rfl
    | some u => rw [e _ _ q] at h; cases h
  refine ⟨fun a u x => ?_, fun a u x => ?_, fun a u _ x => ?_, fun a x y => ?_, fun a x => ?_⟩
  · rw [upd_ne (ne_of_none x hF)]; exact x
  · by_cases ha : a = p
    · subst ha; rw [upd_same] at x ⊢; exact x
    · rw [upd_ne ha] at x ⊢; exact e _ _ x
  · rw [upd_ne (ne_of_none x h)]; exact x
  · by_cases ha : a = p
    · subst ha; exact absurd h y.ne
    · rw [upd_ne ha]; exact x
  · by_cases ha : a = p
    · subst ha; rw [upd_same]; simp
    · rw [upd_ne ha]; exact x
/-- a new object that stays out of F -/
theorem Gr.new' {p : Addr} {o : HO} (e : Same F H) (h : H p = none) : Gr M F H F (upd H p o) := by
  refine ⟨Same.refl _, fun a u x => ?_, fun a u _ x => ?_, fun a x _ => x, fun a x => ?_⟩
  · rw [upd_ne (ne_of_none (e _ _ x) h)]; exact e _ _ x
  · rw [upd_ne (ne_of_none x h)]; exact x
  · by_cases ha : a = p
    · subst ha; rw [upd_same]; simp
    · rw [upd_ne ha]; exact x
/-- an object out of F is written -/
theorem Gr.wr {p : Addr} {o : HO} (e : Same F H) (h : F p = none) (m : M p) : Gr M F H F (upd H p o) := by
  refine ⟨Same.refl _, fun a u x => ?_, fun a u n x => ?_, fun a x _ => x, fun a x => ?_⟩
  · rw [upd_ne (ne_of_none x h)]; exact e _ _ x
  · have : a ≠ p := fun z => n (z ▸ m)
    rw [upd_ne this]; exact x
  · by_cases ha : a = p
    · subst ha; rw [upd_same]; simp
    · rw [upd_ne ha]; exact x
theorem Gr.fresh (e : Same F H) {p : Addr} (h : H p = none) : F p = none := by
  cases q : F p with
  | none => rfl
  | some u => rw [e _ _ q] at h; cases h
/-- unfreezing: all that was not frozen ahead -/
theorem Gr.back {Fz : Hp} (e : Same F H) (ez : Same F Fz) (g : Gr0 Fz H F2 H2) : ∃ F3, Gr0 F H F3 H2 := by
  classical
  refine ⟨fun a => if F a = none ∧ H a ≠ none then none else F2 a, fun a o h => ?_, fun a o h => ?_, g.hh, fun a h1 h2 => ?_, g.dm⟩
  · show (if F a = none ∧ H a ≠ none then none else F2 a) = some o
    rw [if_neg (by rw [h]; simp)]
    exact g.ff _ _ (ez _ _ h)
  · have h : (if F a = none ∧ H a ≠ none then none else F2 a) = some o := h
    split at h
    · cases h
    · exact g.fh _ _ h
  · show (if F a = none ∧ H a ≠ none then none else F2 a) = none
    rw [if_pos ⟨h1, h2.ne⟩]
end

/-! ### slots -/
inductive Ct where
  | lst (ds : List PyData)
  | dK (kvs : List (Nat × Nat))
  | dT (kvs : List ((Nat × Nat) × PyData))
inductive Sl where
  | no
  | dat (d : PyData)
  | own (c : Ct)
  | par (a : Addr) (c : Ct)
abbrev kP (k : Nat × Nat) : List Key := [Sum.inl (k.1 : Int), Sum.inl (k.2 : Int)]
inductive DT (F : Hp) : List (List Key × V) → List ((Nat × Nat) × PyData) → Prop
  | nil : DT F [] []
  | cons {k : Nat × Nat} {v : V} {d : PyData} {ws : List (List Key × V)} {kvs : List ((Nat × Nat) × PyData)} : Dn F v d → DT F ws kvs → DT F ((kP k, v) :: ws) ((k, d) :: kvs)
theorem DT.mono {F F2 : Hp} (e : Same F F2) : ∀ {ws : List (List Key × V)} {kvs : List ((Nat × Nat) × PyData)}, DT F ws kvs → DT F2 ws kvs
  | _, _, .nil => .nil
  | _, _, .cons h t => .cons (h.mono e) (DT.mono e t)
abbrev eK (kvs : List (Nat × Nat)) : List (Key × V) := kvs.map fun q => (Sum.inl (q.1 : Int), V.int (q.2 : Int))
def cOk (F H : Hp) (p : Addr) : Ct → Prop
  | .lst ds => ds.length ≤ 100000 ∧ ∃ xs, H p = some (.lst xs) ∧ DnAll F xs ds
  | .dK kvs => H p = some (.dK (eK kvs))
  | .dT kvs => ∃ ws, H p = some (.dT ws) ∧ DT F ws kvs
theorem cOk_ne {F H : Hp} {p : Addr} : ∀ {c : Ct}, cOk F H p c → H p ≠ none
  | .lst _, ⟨_, _, h, _⟩ => by rw [h]; simp
  | .dK _, h => by rw [show H p = _ from h]; simp
  | .dT _, ⟨_, h, _⟩ => by rw [h]; simp
theorem cOk_nt {F H : Hp} {p : Addr} : ∀ {c : Ct}, cOk F H p c → NT H p
  | .lst _, ⟨_, _, h, _⟩ => ⟨_, h, fun _ z => nomatch z⟩
  | .dK _, h => ⟨_, h, fun _ z => nomatch z⟩
  | .dT _, ⟨_, h, _⟩ => ⟨_, h, fun _ z => nomatch z⟩
theorem cOk_grow {F H F2 H2 : Hp} {p : Addr} (e : Same F F2) (hp : ∀ o, H p = some o → H2 p = some o) : ∀ {c : Ct}, cOk F H p c → cOk F2 H2 p c
  | .lst _, ⟨l, xs, h, a⟩ => ⟨l, xs, hp _ h, a.mono e⟩
  | .dK _, h => hp _ h
  | .dT _, ⟨ws, h, a⟩ => ⟨ws, hp _ h, a.mono e⟩
def SlOk (F H : Hp) (nw mt : Addr → Prop) (o : Option (Option V)) : Sl → Prop
  | .no => True
  | .dat d => ∃ v, o = some (some v) ∧ Dn F v d
  | .own c => ∃ p, o = some (some (.ref p)) ∧ F p = none ∧ nw p ∧ cOk F H p c
  | .par a c => ∃ p, o = some (some (.ref p)) ∧ F p = none ∧ (mt p ∧ p = a) ∧ cOk F H p c
def isO : Sl → Bool
  | .own _ => true
  | .par _ _ => true
  | _ => false
structure SLs (F H : Hp) (nw mt : Addr → Prop) (σ : L2.St) (ss : List Sl) : Prop where
  len : σ.length = ss.length
  ok : ∀ (i : Nat) (s : Sl), ss[i]? = some s → SlOk F H nw mt σ[i]? s
  dj : ∀ (i j : Nat) (s s' : Sl) (p : Addr), i ≠ j → ss[i]? = some s → ss[j]? = some s' → isO s = true → isO s' = true → σ[i]? = some (some (.ref p)) → σ[j]? ≠ some (some (.ref p))
section
variable {F H F2 H2 : Hp} {nw mt : Addr → Prop} {σ : L2.St} {ss : List Sl}
theorem SlOk.grow (g : Gr0 F H F2 H2) {o : Option (Option V)} : ∀ {s : Sl}, SlOk F H nw mt o s → SlOk F2 H2 nw mt o s
  | .no, _ => trivial
  | .dat _, ⟨v, e, h⟩ => ⟨v, e, h.mono g.ff⟩
  | .own _, ⟨p, e, f, n, c⟩ => ⟨p, e, g.nw p f (cOk_nt c), n, cOk_grow g.ff (fun o h => g.same _ _ h) c⟩
  | .par _ _, ⟨p, e, f, n, c⟩ => ⟨p, e, g.nw p f (cOk_nt c), n, cOk_grow g.ff (fun o h => g.same _ _ h) c⟩
theorem SLs.grow (S : SLs F H nw mt σ ss) (g : Gr0 F H F2 H2) : SLs F2 H2 nw mt σ ss := ⟨S.len, fun i s e => (S.ok i s e).grow g, S.dj⟩
theorem SLs.set (S : SLs F H nw mt σ ss) (i : Nat) {v : V} {d : PyData} (h : Dn F v d) : SLs F H nw mt (σ.set i (some v)) (ss.set i (.dat d)) := by
  have hl : σ.length = ss.length := S.len
  refine ⟨by rw [List.length_set, List.length_set]; exact S.len, fun j s e => ?_, fun j k s s' p hjk e1 e2 o1 o2 h1 => ?_⟩
  · by_cases hj : i = j
    · subst hj
      by_cases hi : i < ss.length
      · rw [List.getElem?_set_self hi] at e
        cases e
        exact ⟨v, by rw [List.getElem?_set_self (by omega)], h⟩
      · rw [List.getElem?_eq_none (by rw [List.length_set]; omega)] at e; cases e
    · rw [List.getElem?_set_ne hj] at e
      rw [List.getElem?_set_ne hj]
      exact S.ok j s e
  · have n1 : i ≠ j := by
      rintro rfl
      by_cases hi : i < ss.length
      · rw [List.getElem?_set_self hi] at e1; cases e1; cases o1
      · rw [List.getElem?_eq_none (by rw [List.length_set]; omega)] at e1; cases e1
    have n2 : i ≠ k := by
      rintro rfl
      by_cases hi : i < ss.length
      · rw [List.getElem?_set_self hi] at e2; cases e2; cases o2
      · rw [List.getElem?_eq_none (by rw [List.length_set]; omega)] at e2; cases e2
    rw [List.getElem?_set_ne n1] at e1 h1
    rw [List.getElem?_set_ne n2] at e2 ⊢
    exact S.dj j k s s' p hjk e1 e2 o1 o2 h1
theorem SLs.clr (S : SLs F H nw mt σ ss) (i : Nat) : SLs F H nw mt (σ.set i none) (ss.set i .no) := by
  have hl : σ.length = ss.length := S.len
  refine ⟨by rw [List.length_set, List.length_set]; exact S.len, fun j s e => ?_, fun j k s s' p hjk e1 e2 o1 o2 h1 => ?_⟩
  · by_cases hj : i = j
    · subst hj
      by_cases hi : i < ss.length
      · rw [List.getElem?_set_self hi] at e
        cases e
        trivial
      · rw [List.getElem?_eq_none (by rw [List.length_set]; omega)] at e; cases e
    · rw [List.getElem?_set_ne hj] at e
      rw [List.getElem?_set_ne hj]
      exact S.ok j s e
  · have n1 : i ≠ j := by
      rintro rfl
      by_cases hi : i < ss.length
      · rw [List.getElem?_set_self hi] at e1; cases e1; cases o1
      · rw [List.getElem?_eq_none (by rw [List.length_set]; omega)] at e1; cases e1
    have n2 : i ≠ k := by
      rintro rfl
      by_cases hi : i < ss.length
      · rw [List.getElem?_set_self hi] at e2; cases e2; cases o2
      · rw [List.getElem?_eq_none (by rw [List.length_set]; omega)] at e2; cases e2
    rw [List.getElem?_set_ne n1] at e1 h1
    rw [List.getElem?_set_ne n2] at e2 ⊢
    exact S.dj j k s s' p hjk e1 e2 o1 o2 h1
/-- an own object comes to slot i, at an address that no other own slot has -/
theorem SLs.setO (S : SLs F H nw mt σ ss) (i : Nat) {p : Addr} {c : Ct} (hF : F p = none) (hn : nw p) (hc : cOk F H p c) (hd : ∀ j s, i ≠ j → ss[j]? = some s → isO s = true → σ[j]? ≠ some (some (.ref p))) :
    SLs F H nw mt (σ.set i (some (.ref p))) (ss.set i (.own c)) := by
  have hl : σ.length = ss.length := S.len
  refine ⟨by rw [List.length_set, List.length_set]; exact S.len, fun j s e => ?_, fun j k s s' q hjk e1 e2 o1 o2 h1 => ?_⟩
  · by_cases hj : i = j
    · subst hj
      by_cases hi : i < ss.length
      · rw [List.getElem?_set_self hi] at e
        cases e
        exact ⟨p, by rw [List.getElem?_set_self (by omega)], hF, hn, hc⟩
      · rw [List.getElem?_eq_none (by rw [List.length_set]; omega)] at e; cases e
    · rw [List.getElem?_set_ne hj] at e
      rw [List.getElem?_set_ne hj]
      exact S.ok j s e
  · by_cases n1 : i = j
    · subst n1
      have n2 : i ≠ k := hjk
      by_cases hi : i < σ.length
      · rw [List.getElem?_set_self hi] at h1
        cases h1
        rw [List.getElem?_set_ne n2] at e2 ⊢
        exact hd k s' n2 e2 o2
      · rw [List.getElem?_eq_none (by rw [List.length_set]; omega)] at h1; cases h1
    · rw [List.getElem?_set_ne n1] at e1 h1
      by_cases n2 : i = k
      · subst n2
        by_cases hi : i < σ.length
        · rw [List.getElem?_set_self hi]
          intro z
          cases z
          exact hd j s (by omega) e1 o1 h1
        · rw [List.getElem?_eq_none (by rw [List.length_set]; omega)]; simp
      · rw [List.getElem?_set_ne n2] at e2 ⊢
        exact S.dj j k s s' q hjk e1 e2 o1 o2 h1
/-- a new own object -/
theorem SLs.newO (S : SLs F H nw mt σ ss) (i : Nat) {p : Addr} {c : Ct} (hF : F p = none) (hn : nw p) (hH : H p = none) {o : HO} (e : Same F H) (hc : cOk F (upd H p o) p c) :
    SLs F (upd H p o) nw mt (σ.set i (some (.ref p))) (ss.set i (.own c)) := by
  refine (S.grow (Gr.new' e hH)).setO i hF hn hc fun j s _ hj ho hz => ?_
  have q := S.ok j s hj
  cases s with
  | no => cases ho
  | dat d => cases ho
  | own c' =>
    obtain ⟨p', e', _, _, c2⟩ := q
    rw [hz] at e'; cases e'
    exact cOk_ne c2 hH
  | par _ c' =>
    obtain ⟨p', e', _, _, c2⟩ := q
    rw [hz] at e'; cases e'
    exact cOk_ne c2 hH
/-- the own object of slot i is written -/
theorem SLs.wrO (S : SLs F H nw mt σ ss) {i : Nat} {p : Addr} {c c' : Ct} (hi : ss[i]? = some (.own c)) (hp : σ[i]? = some (some (.ref p))) {o : HO} (hc : cOk F (upd H p o) p c') :
    F p = none ∧ nw p ∧ SLs F (upd H p o) nw mt σ (ss.set i (.own c')) := by
  obtain ⟨p', e, hF, hn, c0⟩ := S.ok i _ hi
  rw [hp] at e; cases e
  obtain ⟨hi', _⟩ := List.getElem?_eq_some_iff.mp hi
  refine ⟨hF, hn, by rw [List.length_set]; exact S.len, fun j s ej => ?_, fun j k s s' q hjk e1 e2 o1 o2 h1 => ?_⟩
  · by_cases hj : i = j
    · subst hj
      rw [List.getElem?_set_self hi'] at ej
      cases ej
      exact ⟨p, hp, hF, hn, hc⟩
    · rw [List.getElem?_set_ne hj] at ej
      have q := S.ok j s ej
      have key : isO s = true → ∀ p', σ[j]? = some (some (.ref p')) → p' ≠ p := fun hs p' e' z => by
        subst z
        exact S.dj i j _ s p' hj hi ej rfl hs hp e'
      cases s with
      | no => trivial
      | dat d => exact q
      | own c2 =>
        obtain ⟨p', e', f', n', c3⟩ := q
        exact ⟨p', e', f', n', cOk_grow (Same.refl _) (fun o' h' => by rw [upd_ne (key rfl p' e')]; exact h') c3⟩
      | par _ c2 =>
        obtain ⟨p', e', f', n', c3⟩ := q
        exact ⟨p', e', f', n', cOk_grow (Same.refl _) (fun o' h' => by rw [upd_ne (key rfl p' e')]; exact h') c3⟩
  · have back : ∀ j s, (ss.set i (.own c'))[j]? = some s → isO s = true → ∃ s0, ss[j]? = some s0 ∧ isO s0 = true := fun j s e o => by
      by_cases hj : i = j
      · subst hj; exact ⟨_, hi, rfl⟩
      · rw [List.getElem?_set_ne hj] at e; exact ⟨s, e, o⟩
    obtain ⟨s0, a1, a2⟩ := back j s e1 o1
    obtain ⟨s1, b1, b2⟩ := back k s' e2 o2
    exact S.dj j k s0 s1 q hjk a1 b1 a2 b2 h1
theorem SLs.wrP (S : SLs F H nw mt σ ss) {i : Nat} {p : Addr} {c c' : Ct} (hi : ss[i]? = some (.par p c)) (hp : σ[i]? = some (some (.ref p))) {o : HO} (hc : cOk F (upd H p o) p c') :
    F p = none ∧ mt p ∧ SLs F (upd H p o) nw mt σ (ss.set i (.par p c')) := by
  obtain ⟨p', e, hF, hn, c0⟩ := S.ok i _ hi
  rw [hp] at e; cases e
  obtain ⟨hi', _⟩ := List.getElem?_eq_some_iff.mp hi
  refine ⟨hF, hn.1, by rw [List.length_set]; exact S.len, fun j s ej => ?_, fun j k s s' q hjk e1 e2 o1 o2 h1 => ?_⟩
  · by_cases hj : i = j
    · subst hj
      rw [List.getElem?_set_self hi'] at ej
      cases ej
      exact ⟨p, hp, hF, hn, hc⟩
    · rw [List.getElem?_set_ne hj] at ej
      have q := S.ok j s ej
      have key : isO s = true → ∀ p', σ[j]? = some (some (.ref p')) → p' ≠ p := fun hs p' e' z => by
        subst z
        exact S.dj i j _ s p' hj hi ej rfl hs hp e'
      cases s with
      | no => trivial
      | dat d => exact q
      | own c2 =>
        obtain ⟨p', e', f', n', c3⟩ := q
        exact ⟨p', e', f', n', cOk_grow (Same.refl _) (fun o' h' => by rw [upd_ne (key rfl p' e')]; exact h') c3⟩
      | par _ c2 =>
        obtain ⟨p', e', f', n', c3⟩ := q
        exact ⟨p', e', f', n', cOk_grow (Same.refl _) (fun o' h' => by rw [upd_ne (key rfl p' e')]; exact h') c3⟩
  · have back : ∀ j s, (ss.set i (.par p c'))[j]? = some s → isO s = true → ∃ s0, ss[j]? = some s0 ∧ isO s0 = true := fun j s e o => by
      by_cases hj : i = j
      · subst hj; exact ⟨_, hi, rfl⟩
      · rw [List.getElem?_set_ne hj] at e; exact ⟨s, e, o⟩
    obtain ⟨s0, a1, a2⟩ := back j s e1 o1
    obtain ⟨s1, b1, b2⟩ := back k s' e2 o2
    exact S.dj j k s0 s1 q hjk a1 b1 a2 b2 h1
/-- own lists frozen for a look -/
def fz : Sl → Sl
  | .own (.lst ds) => .dat (.list ds)
  | .par _ (.lst ds) => .dat (.list ds)
  | .dat d => .dat d
  | _ => .no
theorem SLs.fz (S : SLs F H nw mt σ ss) (e : Same F H) : SLs H H nw mt σ (ss.map fz) := by
  refine ⟨by rw [List.length_map]; exact S.len, fun i s ei => ?_, fun i j s s' p _ e1 _ o1 _ _ => ?_⟩
  · rw [List.getElem?_map] at ei
    cases q : ss[i]? with
    | none => rw [q] at ei; cases ei
    | some s0 =>
      rw [q] at ei
      have es : RO.fz s0 = s := Option.some.inj ei
      subst es
      have k := S.ok i s0 q
      cases s0 with
      | no => trivial
      | dat d =>
        obtain ⟨v, a, b⟩ := k
        exact ⟨v, a, b.mono e⟩
      | own c =>
        cases c with
        | lst ds =>
          obtain ⟨p, a, _, _, l, xs, hx, hd⟩ := k
          exact ⟨_, a, .lst hx l (hd.mono e)⟩
        | dK _ => trivial
        | dT _ => trivial
      | par _ c =>
        cases c with
        | lst ds =>
          obtain ⟨p, a, _, _, l, xs, hx, hd⟩ := k
          exact ⟨_, a, .lst hx l (hd.mono e)⟩
        | dK _ => trivial
        | dT _ => trivial
  · rw [List.getElem?_map] at e1
    cases q : ss[i]? with
    | none => rw [q] at e1; cases e1
    | some s0 =>
      rw [q] at e1
      have es : RO.fz s0 = s := Option.some.inj e1
      subst es
      cases s0 with
      | no => cases o1
      | dat d => cases o1
      | own c => cases c <;> cases o1
      | par _ c => cases c <;> cases o1
end
/-- the comprehension's own names forgotten -/
def wipeS (ss : List Sl) : List Nat → List Sl
  | [] => ss
  | v :: vs => (wipeS ss vs).set v .no
theorem SLs.wipe {F H : Hp} {nw mt : Addr → Prop} {σ : L2.St} {ss : List Sl} (S : SLs F H nw mt σ ss) : ∀ vs : List Nat, SLs F H nw mt (L2.wipe σ vs) (wipeS ss vs)
  | [] => S
  | v :: vs => (SLs.wipe S vs).clr v

/-! ### judgements -/
def W (te : TE) (ss : List Sl) (P : PyData → Prop) : Prop := ∀ (F H : Hp) (nw mt : Addr → Prop) (σ : L2.St), Same F H → SLs F H nw mt σ ss → ∀ Q : VK, (∀ v F2 H2 d, P d → Gr0 F H F2 H2 → Dn F2 v d → Q v H2) → te σ H Q
def WT (t : TT) (ss : List Sl) (P : Bool → Prop) : Prop := ∀ (F H : Hp) (nw mt : Addr → Prop) (σ : L2.St), Same F H → SLs F H nw mt σ ss → ∀ Q : Bool → Hp → Prop, (∀ b F2 H2, P b → Gr0 F H F2 H2 → Q b H2) → t σ H Q
def WA (t : TA) (ss : List Sl) (P : List PyData → Prop) : Prop := ∀ (F H : Hp) (nw mt : Addr → Prop) (σ : L2.St), Same F H → SLs F H nw mt σ ss → ∀ Q : List V → Hp → Prop, (∀ vs F2 H2 ds, P ds → Gr0 F H F2 H2 → DnAll F2 vs ds → Q vs H2) → t σ H Q
def WO (t : TO) (ss : List Sl) (P : Option Int → Prop) : Prop := ∀ (F H : Hp) (nw mt : Addr → Prop) (σ : L2.St), Same F H → SLs F H nw mt σ ss → ∀ Q : Option Int → Hp → Prop, (∀ o F2 H2, P o → Gr0 F H F2 H2 → Q o H2) → t σ H Q
def WG (g : TG) (js : List Nat) (d : PyData) (ss : List Sl) (P : List Sl → Prop) : Prop := ∀ (F H : Hp) (nw mt : Addr → Prop) (σ : L2.St) (v : V), Same F H → SLs F H nw mt σ ss → Dn F v d → ∀ Q : L2.St → Hp → Prop,
  (∀ F2 H2 σ2 ss2, P ss2 → Gr0 F H F2 H2 → SLs F2 H2 nw mt σ2 ss2 → σ2.length = σ.length → (∀ k, k ∉ js → σ2[k]? = σ[k]?) → Q σ2 H2) → g v σ H Q
/-- what a walk gives, whatever grows -/
structure ItOk (F : Hp) (J : It) (ds : List PyData) : Prop where
  go : ∀ (i : Nat) (F3 H3 : Hp) (d : PyData), Same F F3 → Same F3 H3 → ds[i]? = some d → J.go i H3 ∧ ∀ x H', J.yld i H3 x H' → ∃ F', Gr0 F3 H3 F' H' ∧ Dn F' x d
  stop : ∀ (F3 H3 : Hp), Same F F3 → Same F3 H3 → J.stop ds.length H3
def WI (wi : TI) (ss : List Sl) (P : List PyData → Prop) : Prop := ∀ (F H : Hp) (nw mt : Addr → Prop) (σ : L2.St), Same F H → SLs F H nw mt σ ss → ∀ R : It → Hp → Prop, (∀ J F2 H2 ds, P ds → Gr0 F H F2 H2 → ItOk F2 J ds → R J H2) → wi σ H R
end RO
namespace RO
open PySem PySem.Spec PyProof.Rows L2

/-! ### expressions -/
section
variable {K : PySem.W.Frag} {ss : List Sl} {P : PyData → Prop} {PB : Bool → Prop} {ta tb te tc : TE} {t u : TT}
theorem W.imp {P' : PyData → Prop} (h : W te ss P') (k : ∀ d, P' d → P d) : W te ss P := fun F H nw mt σ e S Q q => h F H nw mt σ e S Q fun v F2 H2 d p g hd => q v F2 H2 d (k d p) g hd
theorem WT.imp {P' : Bool → Prop} (h : WT t ss P') (k : ∀ d, P' d → PB d) : WT t ss PB := fun F H nw mt σ e S Q q => h F H nw mt σ e S Q fun v F2 H2 p g => q v F2 H2 (k v p) g
theorem W_var {i : Nat} {d : PyData} (h : ss[i]? = some (.dat d)) (p : P d) : W (tVar i) ss P := fun F H nw mt σ e S Q q => by
  obtain ⟨v, h1, h2⟩ := S.ok i _ h
  exact ⟨v, h1, q v F H d p (Gr.refl e) h2⟩
theorem W_int {i : Int} (p : P (.int i)) : W (tC (.int i)) ss P := fun F H nw mt σ e S Q q => q _ F H _ p (Gr.refl e) (.int i)
theorem W_bl {b : Bool} (p : P (.bool b)) : W (tC (.bl b)) ss P := fun F H nw mt σ e S Q q => q _ F H _ p (Gr.refl e) (.bl b)
theorem W_non (p : P .none) : W (tC .non) ss P := fun F H nw mt σ e S Q q => q _ F H _ p (Gr.refl e) .non
theorem W_str {x : Str} (p : P (.str x)) : W (tC (.str x)) ss P := fun F H nw mt σ e S Q q => q _ F H _ p (Gr.refl e) (.str x)
/-- a two-place operation by data -/
def RD (r : R2) (x y : PyData) (P : PyData → Prop) : Prop := ∀ (F H : Hp) (v w : V), Same F H → Dn F v x → Dn F w y → ∀ Q : VK, (∀ z F2 H2 d, P d → Gr0 F H F2 H2 → Dn F2 z d → Q z H2) → r v w H Q
theorem W_op {r : R2} (h : W ta ss fun x => W tb ss fun y => RD r x y P) : W (tOp r ta tb) ss P := fun F H nw mt σ e S Q q =>
  h F H nw mt σ e S _ fun v F2 H2 x h2 g2 dx => h2 F2 H2 nw mt σ g2.fh (S.grow g2) _ fun w F3 H3 y h3 g3 dy =>
    h3 F3 H3 v w g3.fh (dx.mono g3.ff) dy Q fun z F4 H4 d p g4 dz => q z F4 H4 d p ((g2.trans g3).trans g4) dz
theorem W_eq (h : W ta ss fun x => W tb ss fun y => SeqAt.shaped x = true ∧ SeqAt.shaped y = true ∧ P (.bool (PyData.eqv x y))) : W (tOp (rEqD K) ta tb) ss P :=
  W_op (h.imp fun x hx => hx.imp fun y ⟨sx, sy, p⟩ F H v w e dx dy Q q => ⟨x, y, dx.dp e (SeqAt.canLay_of_shaped sx), dy.dp e (SeqAt.canLay_of_shaped sy), sx, sy, q _ F H _ p (Gr.refl e) (.bl _)⟩)
theorem W_ne (h : W ta ss fun x => W tb ss fun y => SeqAt.shaped x = true ∧ SeqAt.shaped y = true ∧ P (.bool (!PyData.eqv x y))) : W (tOp (rNeD K) ta tb) ss P :=
  W_op (h.imp fun x hx => hx.imp fun y ⟨sx, sy, p⟩ F H v w e dx dy Q q => ⟨x, y, dx.dp e (SeqAt.canLay_of_shaped sx), dy.dp e (SeqAt.canLay_of_shaped sy), sx, sy, q _ F H _ p (Gr.refl e) (.bl _)⟩)
/-- x in y, a list or a tuple -/
def rInQ (K : PySem.W.Frag) (neg : Bool) : R2 := fun x y H Q => ∃ d ds, Dp K H x d ∧ (Dp K H y (.list ds) ∨ Dp K H y (.tuple ds)) ∧ SeqAt.shaped d = true ∧ SeqAt.shaped (.list ds) = true ∧ Q (.bl (if neg then !ds.any (fun z => PyData.eqv z d) else ds.any fun z => PyData.eqv z d)) H
theorem W_in (h : W ta ss fun x => W tb ss fun y => ∃ ds, (y = .list ds ∨ y = .tuple ds) ∧ SeqAt.shaped x = true ∧ SeqAt.shaped (.list ds) = true ∧ P (.bool (ds.any fun z => PyData.eqv z x))) : W (tOp (rInQ K false) ta tb) ss P :=
  W_op (h.imp fun x hx => hx.imp fun y ⟨ds, hy, sx, sy, p⟩ F H v w e dx dy Q q => ⟨x, ds, dx.dp e (SeqAt.canLay_of_shaped sx), hy.elim (fun z => .inl (by rw [z] at dy; exact dy.dp e (SeqAt.canLay_of_shaped sy))) (fun z => .inr (by rw [z] at dy; exact dy.dp e (SeqAt.canLay_of_shaped (d := .list ds) sy))), sx, sy, q _ F H _ p (Gr.refl e) (.bl _)⟩)
theorem W_nin (h : W ta ss fun x => W tb ss fun y => ∃ ds, (y = .list ds ∨ y = .tuple ds) ∧ SeqAt.shaped x = true ∧ SeqAt.shaped (.list ds) = true ∧ P (.bool (!ds.any fun z => PyData.eqv z x))) : W (tOp (rInQ K true) ta tb) ss P :=
  W_op (h.imp fun x hx => hx.imp fun y ⟨ds, hy, sx, sy, p⟩ F H v w e dx dy Q q => ⟨x, ds, dx.dp e (SeqAt.canLay_of_shaped sx), hy.elim (fun z => .inl (by rw [z] at dy; exact dy.dp e (SeqAt.canLay_of_shaped sy))) (fun z => .inr (by rw [z] at dy; exact dy.dp e (SeqAt.canLay_of_shaped (d := .list ds) sy))), sx, sy, q _ F H _ p (Gr.refl e) (.bl _)⟩)
theorem inv_int {F : Hp} {v : V} {i : Int} (h : Dn F v (.int i)) : v = .int i := by cases h; rfl
theorem inv_bl {F : Hp} {v : V} {b : Bool} (h : Dn F v (.bool b)) : v = .bl b := by cases h; rfl
theorem inv_non {F : Hp} {v : V} (h : Dn F v .none) : v = .non := by cases h; rfl
theorem inv_lst {F : Hp} {v : V} {ds : List PyData} (h : Dn F v (.list ds)) : ∃ a xs, v = .ref a ∧ F a = some (.lst xs) ∧ ds.length ≤ 100000 ∧ DnAll F xs ds := by
  cases h with
  | lst a l t => exact ⟨_, _, rfl, a, l, t⟩
theorem inv_tup {F : Hp} {v : V} {ds : List PyData} (h : Dn F v (.tuple ds)) : ∃ a xs, v = .ref a ∧ F a = some (.tup xs) ∧ ds.length ≤ 100000 ∧ DnAll F xs ds := by
  cases h with
  | tup a l t => exact ⟨_, _, rfl, a, l, t⟩
theorem W_ib {g : Int → Int → Bool} (h : W ta ss fun x => W tb ss fun y => ∃ i j, x = .int i ∧ y = .int j ∧ P (.bool (g i j))) : W (tOp (rI0 fun i j => .bl (g i j)) ta tb) ss P :=
  W_op (h.imp fun x hx => hx.imp fun y ⟨i, j, ex, ey, p⟩ F H v w e dx dy Q q => by
    subst ex ey
    exact ⟨i, j, inv_int dx, inv_int dy, q _ F H _ p (Gr.refl e) (.bl _)⟩)
theorem W_ii {g : Int → Int → Int} (h : W ta ss fun x => W tb ss fun y => ∃ i j, x = .int i ∧ y = .int j ∧ P (.int (g i j))) : W (tOp (rI0 fun i j => .int (g i j)) ta tb) ss P :=
  W_op (h.imp fun x hx => hx.imp fun y ⟨i, j, ex, ey, p⟩ F H v w e dx dy Q q => by
    subst ex ey
    exact ⟨i, j, inv_int dx, inv_int dy, q _ F H _ p (Gr.refl e) (.int _)⟩)
theorem W_ci {C : Int → Int → Prop} {g : Int → Int → Int} (h : W ta ss fun x => W tb ss fun y => ∃ i j, x = .int i ∧ y = .int j ∧ C i j ∧ P (.int (g i j))) : W (tOp (rI C fun i j => .int (g i j)) ta tb) ss P :=
  W_op (h.imp fun x hx => hx.imp fun y ⟨i, j, ex, ey, hc, p⟩ F H v w e dx dy Q q => by
    subst ex ey
    exact ⟨i, j, inv_int dx, inv_int dy, hc, q _ F H _ p (Gr.refl e) (.int _)⟩)
/-- xs + ys -/
theorem W_cat (h : W ta ss fun x => W tb ss fun y => ∃ ds es, x = .list ds ∧ y = .list es ∧ ds.length + es.length ≤ 100000 ∧ P (.list (ds ++ es))) : W (tOp rCat ta tb) ss P :=
  W_op (h.imp fun x hx => hx.imp fun y ⟨ds, es, ex, ey, hl, p⟩ F H v w e dx dy Q q => by
    subst ex ey
    obtain ⟨a, xs, rfl, h1, l1, t1⟩ := inv_lst dx
    obtain ⟨b, ys, rfl, h2, l2, t2⟩ := inv_lst dy
    refine ⟨a, b, xs, ys, rfl, rfl, e _ _ h1, e _ _ h2, ?_, fun p' hp => ?_⟩
    · rw [t1.length, t2.length, sizeLine_eq]; omega
    · have g : Gr0 F H (upd F p' (.lst (xs ++ ys))) (upd H p' (.lst (xs ++ ys))) := Gr.new e hp
      exact q _ _ _ _ p g (.lst upd_same (by rw [List.length_append]; exact hl) ((t1.append t2).mono g.ff)))
/-- xs * k -/
theorem W_rep (h : W ta ss fun x => W tb ss fun y => ∃ (d : PyData) (k : Nat), x = .list [d] ∧ y = .int k ∧ k ≤ 1000 ∧ P (.list (List.replicate k d))) : W (tOp rRep ta tb) ss P :=
  W_op (h.imp fun x hx => hx.imp fun y ⟨d, k, ex, ey, hl, p⟩ F H v w e dx dy Q q => by
    subst ex ey
    obtain ⟨a, xs, rfl, h1, l1, t1⟩ := inv_lst dx
    obtain rfl := inv_int dy
    refine ⟨a, k, xs, rfl, rfl, e _ _ h1, by omega, by omega, ?_, fun p' hp => ?_⟩
    · rw [t1.length, sizeLine_eq]; simp; omega
    · have g : Gr0 F H (upd F p' (.lst (List.replicate (k : Int).toNat xs).flatten)) (upd H p' (.lst (List.replicate (k : Int).toNat xs).flatten)) := Gr.new e hp
      refine q _ _ _ _ p g (.lst upd_same (by rw [List.length_replicate]; omega) (DnAll.mono g.ff ?_))
      cases t1 with
      | cons d1 t =>
        cases t
        have : ∀ k : Nat, DnAll F (List.replicate k [_]).flatten (List.replicate k d) := fun k => by
          induction k with
          | zero => exact .nil
          | succ k ih => exact .cons d1 ih
        exact this k)
/-- xs[i], t[i], i a place from the left -/
theorem W_ixL (h : W ta ss fun x => W tb ss fun y => ∃ (ds : List PyData) (j : Nat) (d : PyData), x = .list ds ∧ y = .int j ∧ ds[j]? = some d ∧ P d) : W (tOp (rIxL K) ta tb) ss P :=
  W_op (h.imp fun x hx => hx.imp fun y ⟨ds, j, d, ex, ey, hj, p⟩ F H v w e dx dy Q q => by
    subst ex ey
    obtain ⟨a, xs, rfl, h1, l1, t1⟩ := inv_lst dx
    obtain rfl := inv_int dy
    obtain ⟨z, hz, dz⟩ := t1.get hj
    exact ⟨a, xs, j, z, rfl, rfl, SqL.of (e _ _ h1), atI_nat hz, q z F H d p (Gr.refl e) dz⟩)
theorem W_ixLast (h : W ta ss fun x => W tb ss fun y => ∃ (ds : List PyData) (d : PyData), x = .list (ds ++ [d]) ∧ y = .int (-1) ∧ P d) : W (tOp (rIxL K) ta tb) ss P :=
  W_op (h.imp fun x hx => hx.imp fun y ⟨ds, d, ex, ey, p⟩ F H v w e dx dy Q q => by
    subst ex ey
    obtain ⟨a, xs, rfl, h1, l1, t1⟩ := inv_lst dx
    obtain rfl := inv_int dy
    obtain ⟨z, hz, dz⟩ := t1.get (i := ds.length) (d := d) (by simp)
    have hxl : xs.length = ds.length + 1 := by rw [t1.length, List.length_append]; rfl
    have hat : atI xs (-1) = some z := by
      unfold atI
      have e1 : ixN xs.length (-1) = some ds.length := by
        unfold ixN
        rw [if_neg (by decide), if_pos (by omega)]
        congr 1
        omega
      rw [e1]; exact hz
    exact ⟨a, xs, -1, z, rfl, rfl, SqL.of (e _ _ h1), hat, q z F H d p (Gr.refl e) dz⟩)
theorem W_ixT (h : W ta ss fun x => W tb ss fun y => ∃ (ds : List PyData) (j : Nat) (d : PyData), x = .tuple ds ∧ y = .int j ∧ ds[j]? = some d ∧ P d) : W (tOp (rIxT K) ta tb) ss P :=
  W_op (h.imp fun x hx => hx.imp fun y ⟨ds, j, d, ex, ey, hj, p⟩ F H v w e dx dy Q q => by
    subst ex ey
    obtain ⟨a, xs, rfl, h1, l1, t1⟩ := inv_tup dx
    obtain rfl := inv_int dy
    obtain ⟨z, hz, dz⟩ := t1.get hj
    exact ⟨a, xs, j, z, rfl, rfl, SqT.of (e _ _ h1), atI_nat hz, q z F H d p (Gr.refl e) dz⟩)
def isND : PyData → Bool
  | .none => true
  | _ => false
theorem W_isN (h : W ta ss fun x => P (.bool (isND x))) : W (tIsN ta) ss P := fun F H nw mt σ e S Q q =>
  h F H nw mt σ e S _ fun v F2 H2 x p g dx => by
    have : (.bl (decide (v = V.non)) : V) = .bl (isND x) := by cases dx <;> rfl
    rw [this]
    exact q _ F2 H2 _ p g (.bl _)
theorem W_notN (h : W ta ss fun x => P (.bool (!isND x))) : W (tNotN ta) ss P := fun F H nw mt σ e S Q q =>
  h F H nw mt σ e S _ fun v F2 H2 x p g dx => by
    have : (.bl (!decide (v = V.non)) : V) = .bl (!isND x) := by cases dx <;> rfl
    rw [this]
    exact q _ F2 H2 _ p g (.bl _)
theorem W_and (h : W ta ss fun x => ∃ c, x = .bool c ∧ if c = true then W tb ss P else P (.bool false)) : W (tAndV ta tb) ss P := fun F H nw mt σ e S Q q =>
  h F H nw mt σ e S _ fun v F2 H2 x ⟨c, ex, p⟩ g dx => by
    subst ex
    refine ⟨c, inv_bl dx, ?_⟩
    cases c with
    | true => exact iteT (p F2 H2 nw mt σ g.fh (S.grow g) Q fun z F3 H3 d p' g' dz => q z F3 H3 d p' (g.trans g') dz)
    | false => exact iteF (q _ F2 H2 _ p g (.bl _))
theorem W_or (h : W ta ss fun x => ∃ c, x = .bool c ∧ if c = true then P (.bool true) else W tb ss P) : W (tOrV ta tb) ss P := fun F H nw mt σ e S Q q =>
  h F H nw mt σ e S _ fun v F2 H2 x ⟨c, ex, p⟩ g dx => by
    subst ex
    refine ⟨c, inv_bl dx, ?_⟩
    cases c with
    | false => exact iteF (p F2 H2 nw mt σ g.fh (S.grow g) Q fun z F3 H3 d p' g' dz => q z F3 H3 d p' (g.trans g') dz)
    | true => exact iteT (q _ F2 H2 _ p g (.bl _))
theorem W_not (h : W ta ss fun x => ∃ c, x = .bool c ∧ P (.bool (!c))) : W (tNotV ta) ss P := fun F H nw mt σ e S Q q =>
  h F H nw mt σ e S _ fun v F2 H2 x ⟨c, ex, p⟩ g dx => by
    subst ex
    exact ⟨c, inv_bl dx, q _ F2 H2 _ p g (.bl _)⟩
/-- a chain of two comparisons of ints -/
theorem W_chain {g1 g2 : Int → Int → Bool} (h : W ta ss fun x => W tb ss fun y => ∃ i j, x = .int i ∧ y = .int j ∧ if g1 i j = true then W tc ss fun z => ∃ k, z = .int k ∧ P (.bool (g2 j k)) else P (.bool false)) :
    W (tChain (rI0 fun i j => .bl (g1 i j)) (rI0 fun i j => .bl (g2 i j)) ta tb tc) ss P := fun F H nw mt σ e S Q q =>
  h F H nw mt σ e S _ fun v F2 H2 x h2 ga dx => h2 F2 H2 nw mt σ ga.fh (S.grow ga) _ fun w F3 H3 y ⟨i, j, ex, ey, h3⟩ gb dy => by
    subst ex ey
    refine ⟨i, j, inv_int dx, inv_int dy, _, rfl, ?_⟩
    cases hg : g1 i j with
    | false =>
      rw [hg] at h3
      exact iteF (q _ F3 H3 _ h3 (ga.trans gb) (.bl _))
    | true =>
      rw [hg] at h3
      refine iteT (h3 F3 H3 nw mt σ gb.fh ((S.grow ga).grow gb) _ fun z F4 H4 dz ⟨k, ez, p⟩ gc hz => ?_)
      subst ez
      exact ⟨j, k, inv_int dy, inv_int hz, q _ F4 H4 _ p ((ga.trans gb).trans gc) (.bl _)⟩
/-! tests -/
theorem WT_B (h : W te ss fun x => ∃ c, x = .bool c ∧ PB c) : WT (tB te) ss PB := fun F H nw mt σ e S Q q =>
  h F H nw mt σ e S _ fun v F2 H2 x ⟨c, ex, p⟩ g dx => by subst ex; exact ⟨c, inv_bl dx, q c F2 H2 p g⟩
theorem WT_t (h : W te ss fun x => ∃ c, x = .bool c ∧ PB c) : WT (tTest te) ss PB := fun F H nw mt σ e S Q q =>
  h F H nw mt σ e S _ fun v F2 H2 x ⟨c, ex, p⟩ g dx => by subst ex; exact ⟨c, inv_bl dx, q c F2 H2 p g⟩
theorem WT_and (h : WT t ss fun c => if c = true then WT u ss PB else PB false) : WT (tAnd t u) ss PB := fun F H nw mt σ e S Q q =>
  h F H nw mt σ e S _ fun c F2 H2 p g => by
    cases c with
    | true => exact iteT (p F2 H2 nw mt σ g.fh (S.grow g) Q fun z F3 H3 p' g' => q z F3 H3 p' (g.trans g'))
    | false => exact iteF (q _ F2 H2 p g)
theorem WT_or (h : WT t ss fun c => if c = true then PB true else WT u ss PB) : WT (tOr t u) ss PB := fun F H nw mt σ e S Q q =>
  h F H nw mt σ e S _ fun c F2 H2 p g => by
    cases c with
    | false => exact iteF (p F2 H2 nw mt σ g.fh (S.grow g) Q fun z F3 H3 p' g' => q z F3 H3 p' (g.trans g'))
    | true => exact iteT (q _ F2 H2 p g)
theorem WT_not (h : WT t ss fun c => PB (!c)) : WT (tNot t) ss PB := fun F H nw mt σ e S Q q => h F H nw mt σ e S _ fun c F2 H2 p g => q _ F2 H2 p g
theorem WT_yes (h : PB true) : WT tYes ss PB := fun F H nw mt σ e S Q q => q true F H h (Gr.refl e)
theorem W_if (h : WT t ss fun c => if c = true then W ta ss P else W tb ss P) : W (tIf t ta tb) ss P := fun F H nw mt σ e S Q q =>
  h F H nw mt σ e S _ fun c F2 H2 p g => by
    cases c with
    | true => exact iteT (p F2 H2 nw mt σ g.fh (S.grow g) Q fun z F3 H3 d p' g' dz => q z F3 H3 d p' (g.trans g') dz)
    | false => exact iteF (p F2 H2 nw mt σ g.fh (S.grow g) Q fun z F3 H3 d p' g' dz => q z F3 H3 d p' (g.trans g') dz)
/-! a look at own lists: what is found is flat -/
def flat : PyData → Bool
  | .none | .bool _ | .int _ | .str _ => true
  | _ => false
theorem Dn.flat {F F' : Hp} {v : V} {d : PyData} (h : Dn F v d) (hf : RO.flat d = true) : Dn F' v d := by
  cases h with
  | non => exact .non
  | bl b => exact .bl b
  | int i => exact .int i
  | str x => exact .str x
  | lst _ _ _ => cases hf
  | tup _ _ _ => cases hf
  | row _ _ _ _ => cases hf
theorem W_fz (h : W te (ss.map fz) fun d => flat d = true ∧ P d) : W te ss P := fun F H nw mt σ e S Q q =>
  h H H nw mt σ (Same.refl _) (S.fz e) Q fun v F2 H2 d ⟨hf, p⟩ g hd => by
    obtain ⟨F3, g3⟩ := Gr.back e e g
    exact q v F3 H2 d p g3 (hd.flat hf)
theorem WT_fz (h : WT t (ss.map fz) PB) : WT t ss PB := fun F H nw mt σ e S Q q =>
  h H H nw mt σ (Same.refl _) (S.fz e) Q fun b F2 H2 p g => by
    obtain ⟨F3, g3⟩ := Gr.back e e g
    exact q b F3 H2 p g3
/-! arguments, displays, calls -/
variable {A : TA} {PL : List PyData → Prop}
theorem WA_nil (h : PL []) : WA tNil ss PL := fun F H nw mt σ e S Q q => q _ F H _ h (Gr.refl e) .nil
theorem WA_cons (h : W ta ss fun x => WA A ss fun xs => PL (x :: xs)) : WA (tCons ta A) ss PL := fun F H nw mt σ e S Q q =>
  h F H nw mt σ e S _ fun v F2 H2 x h2 g dx => h2 F2 H2 nw mt σ g.fh (S.grow g) _ fun vs F3 H3 xs p g' dxs => q _ F3 H3 _ p (g.trans g') (.cons (dx.mono g'.ff) dxs)
theorem W_tup (h : WA A ss fun xs => xs.length ≤ 100000 ∧ P (.tuple xs)) : W (tTup A) ss P := fun F H nw mt σ e S Q q =>
  h F H nw mt σ e S _ fun vs F2 H2 xs ⟨hl, p⟩ g dxs => ⟨by rw [dxs.length, sizeLine_eq]; omega, fun a ha => by
    have g2 : Gr0 F2 H2 (upd F2 a (.tup vs)) (upd H2 a (.tup vs)) := Gr.new g.fh ha
    exact q _ _ _ _ p (g.trans g2) (.tup upd_same hl (dxs.mono g2.ff))⟩
theorem W_lst (h : WA A ss fun xs => xs.length ≤ 100000 ∧ P (.list xs)) : W (tLst A) ss P := fun F H nw mt σ e S Q q =>
  h F H nw mt σ e S _ fun vs F2 H2 xs ⟨hl, p⟩ g dxs => ⟨by rw [dxs.length, sizeLine_eq]; omega, fun a ha => by
    have g2 : Gr0 F2 H2 (upd F2 a (.lst vs)) (upd H2 a (.lst vs)) := Gr.new g.fh ha
    exact q _ _ _ _ p (g.trans g2) (.lst upd_same hl (dxs.mono g2.ff))⟩
/-- what a def hands back: data, or an object of the caller's own -/
def RvOk (F H H0 : Hp) (v : V) : Sl → Prop
  | .dat d => Dn F v d
  | .own c => ∃ p, v = .ref p ∧ F p = none ∧ H0 p = none ∧ cOk F H p c
  | _ => False
/-- the promise of a def that changes nothing: Pre args R, R holds of what it hands back -/
def SpD (Pre : List PyData → (Sl → Prop) → Prop) : Sp := fun vs H Q _ => ∃ F ds R, Same F H ∧ DnAll F vs ds ∧ Pre ds R ∧ ∀ v F2 H2 s, R s → Gr0 F H F2 H2 → RvOk F2 H2 H v s → Q v H2
theorem W_call {Pre : List PyData → (Sl → Prop) → Prop} {E : XK} (h : WA A ss fun ds => ∃ R, Pre ds R ∧ ∀ s, R s → ∃ d, s = .dat d ∧ P d) : W (tCall (SpD Pre) [] E A) ss P := fun F H nw mt σ e S Q q =>
  h F H nw mt σ e S _ fun vs F2 H2 ds ⟨R, pre, k⟩ g dv => ⟨F2, ds, R, g.fh, by rw [List.append_nil]; exact dv, pre, fun v F3 H3 s hs g3 hv => by
    obtain ⟨d, rfl, p⟩ := k s hs
    exact q v F3 H3 d p (g.trans g3) hv⟩
/-- a built-in by data -/
def RCD (r : List V → Hp → VK → Prop) (xs : List PyData) (P : PyData → Prop) : Prop := ∀ (F H : Hp) (vs : List V), Same F H → DnAll F vs xs → ∀ Q : VK, (∀ z F2 H2 d, P d → Gr0 F H F2 H2 → Dn F2 z d → Q z H2) → r vs H Q
theorem W_cb {r : List V → Hp → VK → Prop} (h : WA A ss fun xs => RCD r xs P) : W (tCB r A) ss P := fun F H nw mt σ e S Q q =>
  h F H nw mt σ e S _ fun vs F2 H2 xs k g dv => k F2 H2 vs g.fh dv Q fun z F3 H3 d p g' dz => q z F3 H3 d p (g.trans g') dz
theorem all1 {F : Hp} {vs : List V} {x : PyData} (h : DnAll F vs [x]) : ∃ v, vs = [v] ∧ Dn F v x := by
  cases h with
  | cons a t => cases t; exact ⟨_, rfl, a⟩
theorem all2 {F : Hp} {vs : List V} {x y : PyData} (h : DnAll F vs [x, y]) : ∃ v w, vs = [v, w] ∧ Dn F v x ∧ Dn F w y := by
  cases h with
  | cons a t =>
    obtain ⟨w, rfl, b⟩ := all1 t
    exact ⟨_, w, rfl, a, b⟩
def rLenQ (K : PySem.W.Frag) : List V → Hp → VK → Prop := fun xs H Q => ∃ p ys, xs = [.ref p] ∧ (SqL K H p ys ∨ SqT K H p ys) ∧ Q (.int ys.length) H
theorem W_len (h : W ta ss fun x => ∃ ds, (x = .list ds ∨ x = .tuple ds) ∧ P (.int (ds.length : Nat))) : W (tCB (rLenQ K) (tCons ta tNil)) ss P :=
  W_cb (WA_cons (h.imp fun x ⟨ds, hx, p⟩ => WA_nil fun F H vs e dv Q q => by
    obtain ⟨v, rfl, dx⟩ := all1 dv
    rcases hx with rfl | rfl
    · obtain ⟨a, xs, rfl, h1, l1, t1⟩ := inv_lst dx
      refine ⟨a, xs, rfl, .inl (SqL.of (e _ _ h1)), ?_⟩
      rw [t1.length]
      exact q _ F H _ p (Gr.refl e) (.int _)
    · obtain ⟨a, xs, rfl, h1, l1, t1⟩ := inv_tup dx
      refine ⟨a, xs, rfl, .inr (SqT.of (e _ _ h1)), ?_⟩
      rw [t1.length]
      exact q _ F H _ p (Gr.refl e) (.int _)))
def rListQ (K : PySem.W.Frag) : List V → Hp → VK → Prop := fun xs H Q => ∃ p ys, xs = [.ref p] ∧ (SqL K H p ys ∨ SqT K H p ys) ∧ ∀ l, H l = none → Q (.ref l) (upd H l (.lst ys))
theorem W_list (h : W ta ss fun x => ∃ ds, (x = .list ds ∨ x = .tuple ds) ∧ P (.list ds)) : W (tCB (rListQ K) (tCons ta tNil)) ss P :=
  W_cb (WA_cons (h.imp fun x ⟨ds, hx, p⟩ => WA_nil fun F H vs e dv Q q => by
    obtain ⟨v, rfl, dx⟩ := all1 dv
    rcases hx with rfl | rfl
    · obtain ⟨a, xs, rfl, h1, l1, t1⟩ := inv_lst dx
      refine ⟨a, xs, rfl, .inl (SqL.of (e _ _ h1)), fun b hb => ?_⟩
      have g : Gr0 F H (upd F b (.lst xs)) (upd H b (.lst xs)) := Gr.new e hb
      exact q _ _ _ _ p g (.lst upd_same l1 (t1.mono g.ff))
    · obtain ⟨a, xs, rfl, h1, l1, t1⟩ := inv_tup dx
      refine ⟨a, xs, rfl, .inr (SqT.of (e _ _ h1)), fun b hb => ?_⟩
      have g : Gr0 F H (upd F b (.lst xs)) (upd H b (.lst xs)) := Gr.new e hb
      exact q _ _ _ _ p g (.lst upd_same l1 (t1.mono g.ff))))
def rTupQ (K : PySem.W.Frag) : List V → Hp → VK → Prop := fun xs H Q => ∃ p ys, xs = [.ref p] ∧ ((SqL K H p ys ∧ ∀ l, H l = none → Q (.ref l) (upd H l (.tup ys))) ∨ (SqT K H p ys ∧ Q (.ref p) H))
theorem W_tuple (h : W ta ss fun x => ∃ ds, x = .list ds ∧ P (.tuple ds)) : W (tCB (rTupQ K) (tCons ta tNil)) ss P :=
  W_cb (WA_cons (h.imp fun x ⟨ds, hx, p⟩ => WA_nil fun F H vs e dv Q q => by
    obtain ⟨v, rfl, dx⟩ := all1 dv
    subst hx
    obtain ⟨a, xs, rfl, h1, l1, t1⟩ := inv_lst dx
    refine ⟨a, xs, rfl, .inl ⟨SqL.of (e _ _ h1), fun b hb => ?_⟩⟩
    have g : Gr0 F H (upd F b (.tup xs)) (upd H b (.tup xs)) := Gr.new e hb
    exact q _ _ _ _ p g (.tup upd_same l1 (t1.mono g.ff))))
theorem bls_of {F : Hp} : ∀ {xs : List V} {bs : List Bool}, DnAll F xs (bs.map PyData.bool) → xs = bs.map V.bl
  | _, [], h => by cases h; rfl
  | _, b :: bs, h => by
    cases h with
    | cons a t => rw [inv_bl a, bls_of t]; rfl
theorem W_all (h : W ta ss fun x => ∃ bs : List Bool, x = .list (bs.map PyData.bool) ∧ P (.bool (bs.all id))) : W (tCB (rAll K) (tCons ta tNil)) ss P :=
  W_cb (WA_cons (h.imp fun x ⟨bs, hx, p⟩ => WA_nil fun F H vs e dv Q q => by
    obtain ⟨v, rfl, dx⟩ := all1 dv
    subst hx
    obtain ⟨a, xs, rfl, h1, l1, t1⟩ := inv_lst dx
    have hb := bls_of t1
    subst hb
    exact ⟨a, bs, rfl, SqL.of (e _ _ h1), q _ F H _ p (Gr.refl e) (.bl _)⟩))
def rMax2Q : List V → Hp → VK → Prop := fun xs H Q => ∃ i j, xs = [.int i, .int j] ∧ Q (.int (if j > i then j else i)) H
theorem W_max2 (h : W ta ss fun x => W tb ss fun y => ∃ i j, x = .int i ∧ y = .int j ∧ P (.int (if j > i then j else i))) : W (tCB rMax2Q (tCons ta (tCons tb tNil))) ss P :=
  W_cb (WA_cons (h.imp fun x hx => WA_cons (hx.imp fun y ⟨i, j, ex, ey, p⟩ => WA_nil fun F H vs e dv Q q => by
    obtain ⟨v, w, rfl, dx, dy⟩ := all2 dv
    subst ex ey
    obtain rfl := inv_int dx
    obtain rfl := inv_int dy
    exact ⟨i, j, rfl, q _ F H _ p (Gr.refl e) (.int _)⟩)))
def tyD : PyData → String
  | .none => "NoneType"
  | .bool _ => "bool"
  | .int _ => "int"
  | .str _ => "str"
  | .list _ => "list"
  | .tuple _ => "tuple"
  | .dict _ => "tuple"
theorem W_isi {T : String} (h : W ta ss fun x => ∃ b, kitB (tyD x) T = some b ∧ P (.bool b)) : W (tCB (rIsi K) (tCons ta (tCons (tC (.ty T)) tNil))) ss P := fun F H nw mt σ e S Q q =>
  h F H nw mt σ e S _ fun v F2 H2 x ⟨b, hb, p⟩ g dx => by
    refine ⟨v, .ty T, .type (tyD x), .type T, b, rfl, .ty T, ?_, kit_ty hb, q _ F2 H2 _ p g (.bl _)⟩
    cases dx with
    | non => exact .base .non
    | bl b => exact .base (.bl b)
    | int i => exact .base (.int i)
    | str x => exact .base (.str x)
    | lst h1 _ _ => exact .base (.lst (g.fh _ _ h1))
    | tup h1 _ _ => exact .base (.tup (g.fh _ _ h1))
    | row h1 _ _ _ => exact .fTuple (g.fh _ _ h1)
/-- list(range(n)) -/
abbrev eN (n : Nat) : PyData := .int n
theorem rg_all {F : Hp} (n : Nat) : DnAll F (rgV 0 n) ((List.range n).map eN) := by
  have : ∀ l : List Nat, DnAll F (l.map fun i => V.int (0 + (i : Nat))) (l.map eN) := fun l => by
    induction l with
    | nil => exact .nil
    | cons a l ih =>
      refine .cons ?_ ih
      show Dn F (V.int (0 + (a : Nat))) (.int a)
      rw [Int.zero_add]
      exact .int a
  have e : ((n : Int) - 0).toNat = n := by omega
  unfold rgV
  rw [e]
  exact this _
theorem W_listRg (h : W ta ss fun x => ∃ n : Nat, x = .int n ∧ n ≤ 1000 ∧ P (.list ((List.range n).map eN))) : W (tLstRg (tRg1 ta)) ss P := fun F H nw mt σ e S Q q =>
  h F H nw mt σ e S _ fun v F2 H2 x ⟨n, ex, hn, p⟩ g dx => by
    subst ex
    obtain rfl := inv_int dx
    refine ⟨n, rfl, RgOk.of_le (by omega) (by omega) (by omega) (by omega), fun b hb => ?_⟩
    have g2 : Gr0 F2 H2 (upd F2 b (.lst (rgV 0 n))) (upd H2 b (.lst (rgV 0 n))) := Gr.new g.fh hb
    exact q _ _ _ _ p (g.trans g2) (.lst upd_same (by rw [List.length_map, List.length_range]; omega) (rg_all n))
/-! rows: tuples of ints whose object is known -/
abbrev eTN (l : List Nat) : PyData := .dict (l.map fun n : Nat => (PyData.int (n : Int), PyData.none))
theorem map_int_inj : ∀ {l m : List Nat}, l.map (fun n : Nat => (PyData.int (n : Int), PyData.none)) = m.map (fun n : Nat => (PyData.int (n : Int), PyData.none)) → l = m
  | [], [], _ => rfl
  | [], _ :: _, h => by simp at h
  | _ :: _, [], h => by simp at h
  | a :: l, b :: m, h => by
    simp only [List.map_cons, List.cons.injEq, Prod.mk.injEq, PyData.int.injEq, and_true] at h
    rw [map_int_inj h.2, Int.ofNat.inj h.1]
theorem inv_row {F : Hp} {v : V} {l : List Nat} (h : Dn F v (eTN l)) : ∃ a o, v = .ref a ∧ F a = some (.frz o (.tup (l.map fun n : Nat => V.int (n : Int)))) ∧ o.dict = none ∧ l.length ≤ 100000 := by
  cases h with
  | row h1 h2 h3 h4 =>
    have e := map_int_inj h4
    subst e
    exact ⟨_, _, rfl, h1, h2, h3⟩
theorem row_sq {F H : Hp} {a : Addr} {o : Obj} {l : List Nat} (e : Same F H) (h : F a = some (.frz o (.tup (l.map fun n : Nat => V.int (n : Int))))) : SqT K H a (l.map fun n : Nat => V.int (n : Int)) := .inl (.inr ⟨o, e _ _ h⟩)
theorem W_lenR (h : W ta ss fun x => ∃ l, x = eTN l ∧ P (.int (l.length : Nat))) : W (tCB (rLenQ K) (tCons ta tNil)) ss P :=
  W_cb (WA_cons (h.imp fun x ⟨l, hx, p⟩ => WA_nil fun F H vs e dv Q q => by
    obtain ⟨v, rfl, dx⟩ := all1 dv
    subst hx
    obtain ⟨a, o, rfl, h1, _, _⟩ := inv_row dx
    refine ⟨a, _, rfl, .inr (row_sq e h1), ?_⟩
    rw [List.length_map]
    exact q _ F H _ p (Gr.refl e) (.int _)))
theorem W_ixR (h : W ta ss fun x => W tb ss fun y => ∃ (l : List Nat) (j n : Nat), x = eTN l ∧ y = .int j ∧ l[j]? = some n ∧ P (.int n)) : W (tOp (rIxT K) ta tb) ss P :=
  W_op (h.imp fun x hx => hx.imp fun y ⟨l, j, n, ex, ey, hj, p⟩ F H v w e dx dy Q q => by
    subst ex ey
    obtain ⟨a, o, rfl, h1, _, _⟩ := inv_row dx
    obtain rfl := inv_int dy
    exact ⟨a, _, j, .int n, rfl, rfl, row_sq e h1, atI_nat (by rw [List.getElem?_map, hj]; rfl), q _ F H _ p (Gr.refl e) (.int _)⟩)
/-- tuple(xs) of a list of ints: a row -/
def rTupR (K : PySem.W.Frag) : List V → Hp → VK → Prop := fun xs H Q => ∃ p ys, xs = [.ref p] ∧ SqL K H p ys ∧ ∀ l o, H l = none → o.dict = none → Q (.ref l) (upd H l (.frz o (.tup ys)))
theorem ints_row {F : Hp} : ∀ {xs : List V} {l : List Nat}, DnAll F xs (l.map eN) → xs = l.map fun n : Nat => V.int (n : Int)
  | _, [], h => by cases h; rfl
  | _, n :: l, h => by
    cases h with
    | cons a t => rw [inv_int a, ints_row t]; rfl
theorem W_tupleR (h : W ta ss fun x => ∃ l : List Nat, x = .list (l.map eN) ∧ P (eTN l)) : W (tCB (rTupR K) (tCons ta tNil)) ss P :=
  W_cb (WA_cons (h.imp fun x ⟨l, hx, p⟩ => WA_nil fun F H vs e dv Q q => by
    obtain ⟨v, rfl, dx⟩ := all1 dv
    subst hx
    obtain ⟨a, xs, rfl, h1, l1, t1⟩ := inv_lst dx
    have ex := ints_row t1
    subst ex
    refine ⟨a, _, rfl, SqL.of (e _ _ h1), fun b o hb ho => ?_⟩
    have g : Gr0 F H (upd F b (.frz o (.tup (l.map fun n : Nat => V.int (n : Int))))) (upd H b (.frz o (.tup (l.map fun n : Nat => V.int (n : Int))))) := Gr.new e hb
    exact q _ _ _ _ p g (.row upd_same ho (by rw [List.length_map] at l1; exact l1) rfl)))
/-! slices of lists -/
theorem WO_none {PO' : Option Int → Prop} (h : PO' none) : WO tNoPart ss PO' := fun F H nw mt σ e S Q q => q _ F H h (Gr.refl e)
theorem WO_some {PO' : Option Int → Prop} (h : W te ss fun x => ∃ i, x = .int i ∧ PO' (some i)) : WO (tPart te) ss PO' := fun F H nw mt σ e S Q q =>
  h F H nw mt σ e S _ fun v F2 H2 x ⟨i, ex, p⟩ g dx => by subst ex; exact ⟨i, inv_int dx, q _ F2 H2 p g⟩
def cutD (ds : List PyData) (lo hi : Option Int) : List PyData := (ds.drop (HT.sIx ds.length 0 lo)).take (HT.sIx ds.length ds.length hi - HT.sIx ds.length 0 lo)
theorem W_sl {tl th : TO} (h : W te ss fun x => WO tl ss fun lo => WO th ss fun hi => ∃ ds, x = .list ds ∧ P (.list (cutD ds lo hi))) : W (tSl (rSlL K) te tl th) ss P := fun F H nw mt σ e S Q q =>
  h F H nw mt σ e S _ fun v F2 H2 x h2 g dx => h2 F2 H2 nw mt σ g.fh (S.grow g) _ fun lo F3 H3 h3 g3 => h3 F3 H3 nw mt σ g3.fh ((S.grow g).grow g3) _ fun hi F4 H4 ⟨ds, ex, p⟩ g4 => by
    subst ex
    obtain ⟨a, xs, rfl, h1, l1, t1⟩ := inv_lst (dx.mono (g3.trans g4).ff)
    refine ⟨a, xs, rfl, SqL.of (g4.fh _ _ h1), fun b hb => ?_⟩
    have g5 : Gr0 F4 H4 (upd F4 b (.lst (cutV xs lo hi))) (upd H4 b (.lst (cutV xs lo hi))) := Gr.new g4.fh hb
    refine q _ _ _ _ p (((g.trans g3).trans g4).trans g5) (.lst upd_same ?_ ?_)
    · unfold cutD
      rw [List.length_take, List.length_drop]
      omega
    · unfold cutD cutV
      rw [← t1.length]
      exact (((t1.mono g5.ff).drop _).take _)
theorem cutD_from (ds : List PyData) (k : Nat) (hk : k ≤ ds.length) : cutD ds (some (k : Int)) none = ds.drop k := by
  unfold cutD
  rw [HT.sIx_nat, HT.sIx_none, Nat.min_eq_left hk]
  exact List.take_of_length_le (by rw [List.length_drop]; exact Nat.le_refl _)
theorem cutD_to (ds : List PyData) (k : Nat) (hk : k ≤ ds.length) : cutD ds none (some (k : Int)) = ds.take k := by
  unfold cutD
  rw [HT.sIx_nat, HT.sIx_none, Nat.min_eq_left hk]
  rfl
end
end RO
namespace RO
open PySem PySem.Spec PyProof.Rows L2

/-! ### targets, walks, comprehensions -/
section
variable {K : PySem.W.Frag} {ss : List Sl} {P : PyData → Prop} {PB : Bool → Prop} {PS' : List Sl → Prop} {PL : List PyData → Prop} {ta tb te tc : TE} {t u : TT} {A : TA}
theorem WG_name {i : Nat} {d : PyData} (h : PS' (ss.set i (.dat d))) : WG (gName i) [i] d ss PS' := fun F H nw mt σ v e S dv Q q =>
  q F H _ _ h (Gr.refl e) (S.set i dv) (by rw [List.length_set]) fun k hk => List.getElem?_set_ne (by intro z; subst z; simp at hk)
theorem WG_tup {i j : Nat} {d : PyData} (h : ∃ d1 d2, d = .tuple [d1, d2] ∧ PS' ((ss.set i (.dat d1)).set j (.dat d2))) : WG (gTup K 2 (gCons (gName i) (gCons (gName j) gNil))) [i, j] d ss PS' := fun F H nw mt σ v e S dv Q q => by
  obtain ⟨d1, d2, rfl, p⟩ := h
  obtain ⟨a, xs, rfl, h1, l1, t1⟩ := inv_tup dv
  obtain ⟨x, y, rfl, dx, dy⟩ := all2 t1
  refine ⟨a, [x, y], rfl, SqT.of (e _ _ h1), rfl, x, [y], rfl, y, [], rfl, rfl, q F H _ _ p (Gr.refl e) ((S.set i dx).set j dy) (by rw [List.length_set, List.length_set]) fun k hk => ?_⟩
  simp only [List.mem_cons, List.not_mem_nil, or_false, not_or] at hk
  rw [List.getElem?_set_ne (fun z => hk.2 z.symm), List.getElem?_set_ne (fun z => hk.1 z.symm)]
theorem WI_list (h : W te ss fun x => ∃ ds, x = .list ds ∧ PL ds) : WI (iList K te) ss PL := fun F H nw mt σ e S R r =>
  h F H nw mt σ e S _ fun v F2 H2 x ⟨ds, ex, p⟩ g dx => by
    subst ex
    obtain ⟨a, xs, rfl, h1, l1, t1⟩ := inv_lst dx
    refine ⟨a, rfl, ⟨xs, SqL.of (g.fh _ _ h1)⟩, r _ F2 H2 ds p g ⟨fun i F3 H3 d e1 e2 hd => ?_, fun F3 H3 e1 e2 => ⟨xs, SqL.of (e2 _ _ (e1 _ _ h1)), by rw [t1.length]; exact Nat.le_refl _⟩⟩⟩
    have hq : SqL K H3 a xs := SqL.of (e2 _ _ (e1 _ _ h1))
    obtain ⟨z, hz, dz⟩ := t1.get hd
    refine ⟨⟨xs, z, hq, hz⟩, fun y H' hy => ?_⟩
    obtain ⟨rfl, hy⟩ := hy
    have : z = y := Option.some.inj (hz.symm.trans (hy xs hq))
    subst this
    exact ⟨F3, Gr.refl e2, dz.mono e1⟩
theorem WI_tup (h : W te ss fun x => ∃ ds, x = .tuple ds ∧ PL ds) : WI (iTup K te) ss PL := fun F H nw mt σ e S R r =>
  h F H nw mt σ e S _ fun v F2 H2 x ⟨ds, ex, p⟩ g dx => by
    subst ex
    obtain ⟨a, xs, rfl, h1, l1, t1⟩ := inv_tup dx
    refine ⟨a, rfl, ⟨xs, SqT.of (g.fh _ _ h1)⟩, r _ F2 H2 ds p g ⟨fun i F3 H3 d e1 e2 hd => ?_, fun F3 H3 e1 e2 => ⟨xs, SqT.of (e2 _ _ (e1 _ _ h1)), by rw [t1.length]; exact Nat.le_refl _⟩⟩⟩
    have hq : SqT K H3 a xs := SqT.of (e2 _ _ (e1 _ _ h1))
    obtain ⟨z, hz, dz⟩ := t1.get hd
    refine ⟨⟨xs, z, hq, hz⟩, fun y H' hy => ?_⟩
    obtain ⟨rfl, hy⟩ := hy
    have : z = y := Option.some.inj (hz.symm.trans (hy xs hq))
    subst this
    exact ⟨F3, Gr.refl e2, dz.mono e1⟩
theorem WI_row (h : W te ss fun x => ∃ l : List Nat, x = eTN l ∧ PL (l.map eN)) : WI (iTup K te) ss PL := fun F H nw mt σ e S R r =>
  h F H nw mt σ e S _ fun v F2 H2 x ⟨l, ex, p⟩ g dx => by
    subst ex
    obtain ⟨a, o, rfl, h1, _, _⟩ := inv_row dx
    refine ⟨a, rfl, ⟨_, row_sq g.fh h1⟩, r _ F2 H2 _ p g ⟨fun i F3 H3 d e1 e2 hd => ?_, fun F3 H3 e1 e2 => ⟨_, row_sq (e1.trans e2) h1, by rw [List.length_map, List.length_map]; exact Nat.le_refl _⟩⟩⟩
    have hq : SqT K H3 a (l.map fun n : Nat => V.int (n : Int)) := row_sq (e1.trans e2) h1
    rw [List.getElem?_map] at hd
    cases q : l[i]? with
    | none => rw [q] at hd; cases hd
    | some n =>
      rw [q] at hd
      have hd : eN n = d := Option.some.inj hd
      subst hd
      have hz : (l.map fun n : Nat => V.int (n : Int))[i]? = some (.int n) := by rw [List.getElem?_map, q]; rfl
      refine ⟨⟨_, _, hq, hz⟩, fun y H' hy => ?_⟩
      obtain ⟨rfl, hy⟩ := hy
      have : V.int n = y := Option.some.inj (hz.symm.trans (hy _ hq))
      subst this
      exact ⟨F3, Gr.refl e2, .int _⟩
theorem WI_rng1 (h : W te ss fun x => ∃ n : Nat, x = .int n ∧ n ≤ 100000 ∧ PL ((List.range n).map eN)) : WI (iRng1 (tCons te tNil)) ss PL := fun F H nw mt σ e S R r =>
  h F H nw mt σ e S _ fun v F2 H2 x ⟨n, ex, hn, p⟩ g dx => by
    subst ex
    obtain rfl := inv_int dx
    have en : ((n : Int)).toNat = n := by omega
    refine ⟨n, rfl, by omega, by omega, r _ F2 H2 _ p g ⟨fun i F3 H3 d e1 e2 hd => ?_, fun F3 H3 e1 e2 => ?_⟩⟩
    · rw [List.getElem?_map] at hd
      have hi : i < n := by
        have := (List.getElem?_eq_some_iff.mp (show ((List.range n).map eN)[i]? = some d by rw [List.getElem?_map]; exact hd)).1
        rw [List.length_map, List.length_range] at this
        exact this
      rw [List.getElem?_range hi] at hd
      cases hd
      refine ⟨by show i < ((n : Int)).toNat; omega, fun y H' hy => ?_⟩
      obtain ⟨rfl, rfl⟩ := hy
      refine ⟨F3, Gr.refl e2, ?_⟩
      rw [Int.zero_add]
      exact .int _
    · show ((n : Int)).toNat ≤ ((List.range n).map eN).length
      rw [List.length_map, List.length_range]
      omega
/-- enumerate's pairs -/
def enumD (ds : List PyData) : List PyData := (List.range ds.length).map fun i => .tuple [.int (i : Nat), ds.getD i .none]
theorem enumD_length (ds : List PyData) : (enumD ds).length = ds.length := by unfold enumD; rw [List.length_map, List.length_range]
theorem WI_enum (h : W te ss fun x => ∃ ds, x = .list ds ∧ PL (enumD ds)) : WI (iEnum K (tCons te tNil)) ss PL := fun F H nw mt σ e S R r =>
  h F H nw mt σ e S _ fun v F2 H2 x ⟨ds, ex, p⟩ g dx => by
    subst ex
    obtain ⟨a, xs, rfl, h1, l1, t1⟩ := inv_lst dx
    refine ⟨a, xs, rfl, SqL.of (g.fh _ _ h1), r _ F2 H2 _ p g ⟨fun i F3 H3 d e1 e2 hd => ?_, fun F3 H3 e1 e2 => ⟨xs, SqL.of (e2 _ _ (e1 _ _ h1)), by rw [t1.length, enumD_length]; exact Nat.le_refl _⟩⟩⟩
    have hq : SqL K H3 a xs := SqL.of (e2 _ _ (e1 _ _ h1))
    have hi : i < ds.length := by
      have := (List.getElem?_eq_some_iff.mp hd).1
      rw [enumD_length] at this
      exact this
    unfold enumD at hd
    rw [List.getElem?_map, List.getElem?_range hi] at hd
    have hd : PyData.tuple [.int (i : Nat), ds.getD i .none] = d := Option.some.inj hd
    subst hd
    obtain ⟨z, hz, dz⟩ := t1.get (List.getElem?_eq_getElem hi)
    refine ⟨⟨xs, z, hq, hz⟩, fun y H' hy => ?_⟩
    obtain ⟨T, w, rfl, nT, rfl, hy⟩ := hy
    have : z = w := Option.some.inj (hz.symm.trans (hy xs hq))
    subst this
    have gn : Gr0 F3 H3 (upd F3 T (.tup [.int (i : Nat), z])) (upd H3 T (.tup [.int (i : Nat), z])) := Gr.new e2 nT
    refine ⟨_, gn, .tup upd_same (by show 2 ≤ 100000; omega) (.cons (.int _) (.cons ?_ .nil))⟩
    rw [List.getD_eq_getElem?_getD, List.getElem?_eq_getElem hi]
    exact (dz.mono e1).mono gn.ff
/-- an object that came since H is written; is frozen -/
theorem Gr.wrN {M : Addr → Prop} {F H F2 H2 : Hp} (g : Gr M F H F2 H2) {p : Addr} {o : HO} (h : H p = none) (h2 : F2 p = none) : Gr M F H F2 (upd H2 p o) :=
  ⟨g.ff, fun a u x => by rw [upd_ne (ne_of_none x h2)]; exact g.fh _ _ x, fun a u m x => by rw [upd_ne (ne_of_none x h)]; exact g.hh _ _ m x, g.nw, fun a x => by
    by_cases ha : a = p
    · subst ha; rw [upd_same]; simp
    · rw [upd_ne ha]; exact g.dm a x⟩
theorem Gr.frz {M : Addr → Prop} {F H F2 H2 : Hp} (g : Gr M F H F2 H2) {p : Addr} {o : HO} (h : H p = none) (h2 : F2 p = none) (h3 : H2 p = some o) : Gr M F H (upd F2 p o) H2 :=
  ⟨fun a u x => by
    have x2 := g.ff _ _ x
    rw [upd_ne (ne_of_none x2 h2)]; exact x2, fun a u x => by
    by_cases ha : a = p
    · subst ha; rw [upd_same] at x; rw [h3]; exact x
    · rw [upd_ne ha] at x; exact g.fh _ _ x, g.hh, fun a x y => by
    by_cases ha : a = p
    · subst ha; exact absurd h y.ne
    · rw [upd_ne ha]; exact g.nw a x y, g.dm⟩
theorem wipe_get (σ : L2.St) : ∀ (vs : List Nat) (k : Nat), k ∈ vs → (L2.wipe σ vs)[k]? = if k < σ.length then some none else none
  | [], k, h => by cases h
  | v :: vs, k, h => by
    show ((L2.wipe σ vs).set v none)[k]? = _
    have hl := L2.wipe_length σ vs
    by_cases hv : v = k
    · subst hv
      by_cases hk : v < σ.length
      · rw [List.getElem?_set_self (by omega), if_pos hk]
      · rw [List.getElem?_eq_none (by rw [List.length_set]; omega), if_neg hk]
    · rw [List.getElem?_set_ne hv]
      rcases List.mem_cons.mp h with e | e
      · exact absurd e.symm hv
      · exact wipe_get σ vs k e
theorem wipe_eq {σ σ2 : L2.St} {vs : List Nat} (hl : σ2.length = σ.length) (h : ∀ k, k ∉ vs → σ2[k]? = (L2.wipe σ vs)[k]?) : L2.wipe σ2 vs = L2.wipe σ vs := by
  apply List.ext_getElem?
  intro k
  by_cases hk : k ∈ vs
  · rw [wipe_get _ _ _ hk, wipe_get _ _ _ hk, hl]
  · rw [L2.wipe_out hk, h k hk]
theorem W_lc {α : Type} (enc : α → PyData) (gf : α → Option PyData) {wi : TI} {g : TG} {tt : TT} {vs : List Nat}
    (h : WI wi ss fun ds => ∃ xs : List α, ds = xs.map enc ∧ xs.length ≤ 100000 ∧
      (∀ x ∈ xs, WG g vs (enc x) (wipeS ss vs) fun ss2 => WT tt ss2 fun b => b = (gf x).isSome ∧ ∀ y, gf x = some y → W te ss2 fun y' => y' = y) ∧ P (.list (xs.filterMap gf))) :
    W (tLc wi g tt te vs) ss P := fun F H nw mt σ e S Q q =>
  h F H nw mt σ e S _ fun J F1 H1 ds ⟨xs, eds, hl, turn, p⟩ g1 it D hD => by
    subst eds
    have hFD : F1 D = none := Gr.fresh g1.fh hD
    refine ⟨fun i m H' => m = xs.length - i ∧ i ≤ xs.length ∧ ∃ F' acc, Gr0 F1 H1 F' H' ∧ F' D = none ∧ H' D = some (.lst acc) ∧ DnAll F' acc ((xs.take i).filterMap gf),
      ⟨xs.length, by omega, by omega, F1, [], Gr.new' g1.fh hD, hFD, upd_same, .nil⟩, fun i m H' hW => ?_⟩
    obtain ⟨rfl, hi, F', acc, gg, nD, hDl, ha⟩ := hW
    by_cases hlt : i < xs.length
    · have hx : (xs.map enc)[i]? = some (enc xs[i]) := by rw [List.getElem?_map, List.getElem?_eq_getElem hlt]; rfl
      obtain ⟨hgo, hy⟩ := it.go i F' H' _ gg.ff gg.fh hx
      refine .inr ⟨hgo, fun H'' => ∃ F'' acc, Gr0 F1 H1 F'' H'' ∧ F'' D = none ∧ H'' D = some (.lst acc) ∧ DnAll F'' acc ((xs.take (i + 1)).filterMap gf), fun H'' hN => ⟨xs.length - (i + 1), by omega, rfl, hlt, hN⟩, fun v H2 hv => ?_⟩
      obtain ⟨F2, g2, dv⟩ := hy v H2 hv
      have gg2 := gg.trans g2
      have tk : (xs.take (i + 1)).filterMap gf = (xs.take i).filterMap gf ++ (gf xs[i]).toList := by
        rw [List.take_succ, List.getElem?_eq_getElem hlt, List.filterMap_append]
        cases hz : gf xs[i] with
        | none => simp [hz]
        | some y => simp [hz]
      have S2 : SLs F2 H2 nw mt (L2.wipe σ vs) (wipeS ss vs) := ((S.grow g1).grow gg2).wipe vs
      refine turn xs[i] (List.getElem_mem hlt) F2 H2 nw mt _ v g2.fh S2 dv _ fun F3 H3 σ3 ss3 hs3 g3 S3 hlen hag => ⟨wipe_eq (by rw [hlen, L2.wipe_length]) hag, ?_⟩
      refine hs3 F3 H3 nw mt σ3 g3.fh S3 _ fun b F4 H4 ⟨hb, hy⟩ g4 => ?_
      have g34 := (g2.trans g3).trans g4
      have D4 : H4 D = some (.lst acc) := g34.same _ _ hDl
      have nD4 : F4 D = none := g34.nw D nD ⟨_, hDl, fun _ z => nomatch z⟩
      cases hgf : gf xs[i] with
      | none =>
        rw [hgf] at hb
        subst hb
        refine iteF ⟨F4, acc, gg.trans g34, nD4, D4, ?_⟩
        rw [tk, hgf]
        simpa using ha.mono g34.ff
      | some y =>
        rw [hgf] at hb
        subst hb
        refine iteT (hy y hgf F4 H4 nw mt σ3 g4.fh (S3.grow g4) _ fun z F5 H5 y' ey g5 dz => ?_)
        subst ey
        have g35 := g34.trans g5
        refine ⟨acc, g35.same _ _ hDl, ?_, F5, acc ++ [z], (gg.trans g35).wrN hD (g35.nw D nD ⟨_, hDl, fun _ z => nomatch z⟩), g35.nw D nD ⟨_, hDl, fun _ z => nomatch z⟩, upd_same, ?_⟩
        · rw [ha.length, sizeLine_eq]
          have := List.length_filterMap_le gf (xs.take i)
          rw [List.length_take] at this
          omega
        · rw [tk, hgf]
          exact (ha.mono g35.ff).append (.one dz)
    · have ei : i = xs.length := by omega
      subst ei
      have hs := it.stop F' H' gg.ff gg.fh
      rw [List.length_map] at hs
      rw [List.take_length] at ha
      refine .inl ⟨hs, q _ (upd F' D (.lst acc)) H' _ p (g1.trans (gg.frz hD nD hDl)) (.lst upd_same ?_ (ha.mono ?_))⟩
      · exact Nat.le_trans (List.length_filterMap_le gf xs) hl
      · intro a o x
        rw [upd_ne (ne_of_none x nD)]; exact x
/-- [g x for x in xs] -/
theorem W_lcM {α : Type} (enc : α → PyData) (gg : α → PyData) {wi : TI} {g : TG} {vs : List Nat}
    (h : WI wi ss fun ds => ∃ xs : List α, ds = xs.map enc ∧ xs.length ≤ 100000 ∧ (∀ x ∈ xs, WG g vs (enc x) (wipeS ss vs) fun ss2 => W te ss2 fun y' => y' = gg x) ∧ P (.list (xs.map gg))) :
    W (tLc wi g tYes te vs) ss P := W_lc enc (fun x => some (gg x)) fun F H nw mt σ e S R r => h F H nw mt σ e S R fun J F2 H2 ds ⟨xs, e1, e2, turn, p⟩ => r J F2 H2 ds ⟨xs, e1, e2, fun x hx => by
      intro F H nw mt σ v e S dv Q q
      refine turn x hx F H nw mt σ v e S dv Q fun F2 H2 σ2 ss2 k => q F2 H2 σ2 ss2 (WT_yes ⟨rfl, fun y ey => ?_⟩)
      cases ey
      exact k, by rw [show (fun x => some (gg x)) = some ∘ gg from rfl, List.filterMap_eq_map]; exact p⟩
/-- [g x for x in xs if p x] -/
theorem W_lcF {α : Type} (enc : α → PyData) (pp : α → Bool) (gg : α → PyData) {wi : TI} {g : TG} {tt : TT} {vs : List Nat}
    (h : WI wi ss fun ds => ∃ xs : List α, ds = xs.map enc ∧ xs.length ≤ 100000 ∧ (∀ x ∈ xs, WG g vs (enc x) (wipeS ss vs) fun ss2 => WT tt ss2 fun b => b = pp x ∧ (pp x = true → W te ss2 fun y' => y' = gg x)) ∧ P (.list ((xs.filter pp).map gg))) :
    W (tLc wi g tt te vs) ss P := by
  refine W_lc enc (fun x => if pp x then some (gg x) else none) fun F H nw mt σ e S R r => h F H nw mt σ e S R fun J F2 H2 ds hds => ?_
  obtain ⟨xs, e1, e2, turn, p⟩ := hds
  refine r J F2 H2 ds ⟨xs, e1, e2, fun x hx => ?_, ?_⟩
  · intro F H nw mt σ v e S dv Q q
    refine turn x hx F H nw mt σ v e S dv Q fun F2 H2 σ2 ss2 k => q F2 H2 σ2 ss2 (k.imp fun b hb2 => ?_)
    obtain ⟨hb, k2⟩ := hb2
    refine ⟨?_, fun y ey => ?_⟩
    · rw [hb]; cases pp x <;> rfl
    · cases hp : pp x with
      | true =>
        rw [hp] at ey
        cases ey
        exact k2 hp
      | false => rw [hp] at ey; cases ey
  · have : xs.filterMap (fun x => if pp x then some (gg x) else none) = (xs.filter pp).map gg := by
      clear p turn e1 e2
      induction xs with
      | nil => rfl
      | cons a l ih =>
        rw [List.filterMap_cons, List.filter_cons]
        cases hp : pp a with
        | true => simp only [hp, if_true, List.map_cons, ih]
        | false => exact ih
    rw [this]; exact p
end

/-! ### statements -/
structure Ks where
  nx : List Sl → Prop
  rt : Sl → List Sl → Prop
  bk : List Sl → Prop := fun _ => False
  ct : List Sl → Prop := fun _ => False
structure Cs (nw mt : Addr → Prop) (F H : Hp) (σ : L2.St) (ss : List Sl) : Prop where
  fh : Same F H
  sl : SLs F H nw mt σ ss
  al : ∀ a, ¬ nw a → H a ≠ none
  ov : ∀ a, nw a → ¬ mt a
structure Gs (nw mt : Addr → Prop) (F H F2 H2 : Hp) : Prop where
  ff : Same F F2
  fh : Same F2 H2
  hh : ∀ a o, ¬ nw a → ¬ mt a → H a = some o → H2 a = some o
  nwk : ∀ a, ¬ nw a → F a = none → NT H a → F2 a = none
  nt : ∀ a, NT H a → NT H2 a
  dm : ∀ a, H a ≠ none → H2 a ≠ none
section
variable {nw mt : Addr → Prop} {F H F1 H1 F2 H2 : Hp}
theorem Gs.refl (e : Same F H) : Gs nw mt F H F H := ⟨Same.refl _, e, fun _ _ _ _ h => h, fun _ _ h _ => h, fun _ h => h, fun _ h => h⟩
theorem Gs.trans (a : Gs nw mt F H F1 H1) (b : Gs nw mt F1 H1 F2 H2) : Gs nw mt F H F2 H2 :=
  ⟨a.ff.trans b.ff, b.fh, fun x o n m h => b.hh x o n m (a.hh x o n m h), fun x n h1 h2 => b.nwk x n (a.nwk x n h1 h2) (a.nt x h2), fun x h => b.nt x (a.nt x h), fun x h => b.dm x (a.dm x h)⟩
theorem Gs.of (al : ∀ a, ¬ nw a → H a ≠ none) (g : Gr0 F H F2 H2) : Gs nw mt F H F2 H2 :=
  ⟨g.ff, g.fh, fun a o _ _ h => g.same _ _ h, fun a n h h2 => g.nw a h h2, fun a h => h.gr g, g.dm⟩
end
structure Post (nw mt : Addr → Prop) (F H : Hp) (D : Ends) (k : Ks) : Prop where
  nx : ∀ F2 H2 σ ss, k.nx ss → Gs nw mt F H F2 H2 → Cs nw mt F2 H2 σ ss → D.nx σ H2
  rt : ∀ F2 H2 σ ss v s, k.rt s ss → Gs nw mt F H F2 H2 → Cs nw mt F2 H2 σ ss → (match s with | .dat d => Dn F2 v d | .own c => ∃ p, v = .ref p ∧ F2 p = none ∧ nw p ∧ cOk F2 H2 p c | _ => False) → D.rt v H2
  bk : ∀ F2 H2 σ ss, k.bk ss → Gs nw mt F H F2 H2 → Cs nw mt F2 H2 σ ss → D.bk σ H2
  ct : ∀ F2 H2 σ ss, k.ct ss → Gs nw mt F H F2 H2 → Cs nw mt F2 H2 σ ss → D.ct σ H2
def Tt (t : TS) (ss : List Sl) (k : Ks) : Prop := ∀ (nw mt : Addr → Prop) (F H : Hp) (σ : L2.St) (D : Ends), Cs nw mt F H σ ss → Post nw mt F H D k → t D σ H
section
variable {nw mt : Addr → Prop} {F H F1 H1 F2 H2 : Hp} {σ : L2.St} {D : Ends} {k : Ks} {ss : List Sl}
theorem Post.step (p : Post nw mt F H D k) (g : Gs nw mt F H F2 H2) : Post nw mt F2 H2 D k :=
  ⟨fun F3 H3 σ ss h a b => p.nx F3 H3 σ ss h (g.trans a) b, fun F3 H3 σ ss v s h a b c => p.rt F3 H3 σ ss v s h (g.trans a) b c, fun F3 H3 σ ss h a b => p.bk F3 H3 σ ss h (g.trans a) b, fun F3 H3 σ ss h a b => p.ct F3 H3 σ ss h (g.trans a) b⟩
theorem Cs.grow (C : Cs nw mt F H σ ss) (g : Gr0 F H F2 H2) : Cs nw mt F2 H2 σ ss := ⟨g.fh, C.sl.grow g, fun a n => g.dm a (C.al a n), C.ov⟩
theorem Cs.gs (C : Cs nw mt F H σ ss) (g : Gr0 F H F2 H2) : Gs nw mt F H F2 H2 := Gs.of C.al g
theorem Cs.set (C : Cs nw mt F H σ ss) (i : Nat) {v : V} {d : PyData} (h : Dn F v d) : Cs nw mt F H (σ.set i (some v)) (ss.set i (.dat d)) := ⟨C.fh, C.sl.set i h, C.al, C.ov⟩
end
section
variable {K : PySem.W.Frag} {ss : List Sl} {P : PyData → Prop} {PB : Bool → Prop} {ta tb te tc : TE} {t u : TS} {c : TT} {A : TA} {k : Ks}
theorem T_seq (h : Tt t ss { k with nx := fun s => Tt u s k }) : Tt (tSeq t u) ss k := fun nw mt F H σ D C p =>
  h nw mt F H σ { D with nx := u D } C ⟨fun F2 H2 σ2 ss2 hu g C2 => hu nw mt F2 H2 σ2 D C2 (p.step g), p.rt, p.bk, p.ct⟩
theorem T_next (h : k.nx ss) : Tt tNext ss k := fun nw mt F H σ D C p => p.nx F H σ ss h (Gs.refl C.fh) C
theorem T_asg {i : Nat} (h : W te ss fun d => k.nx (ss.set i (.dat d))) : Tt (tAsg te (gName i)) ss k := fun nw mt F H σ D C p =>
  h F H nw mt σ C.fh C.sl _ fun v F2 H2 d hk g dv => p.nx F2 H2 _ _ hk (C.gs g) ((C.grow g).set i dv)
theorem T_asgG {g : TG} {js : List Nat} (h : W te ss fun d => WG g js d ss k.nx) : Tt (tAsg te g) ss k := fun nw mt F H σ D C p =>
  h F H nw mt σ C.fh C.sl _ fun v F2 H2 d hg g1 dv => hg F2 H2 nw mt σ v g1.fh (C.sl.grow g1) dv _ fun F3 H3 σ3 ss3 hk g2 S3 _ _ =>
    p.nx F3 H3 σ3 ss3 hk (C.gs (g1.trans g2)) ⟨g2.fh, S3, fun a n => g2.dm a (g1.dm a (C.al a n)), C.ov⟩
theorem T_newL {i : Nat} (h : WA A ss fun ds => ds.length ≤ 100000 ∧ k.nx (ss.set i (.own (.lst ds)))) : Tt (tAsg (tLst A) (gName i)) ss k := fun nw mt F H σ D C p =>
  h F H nw mt σ C.fh C.sl _ fun vs F2 H2 ds ⟨hl, hk⟩ g dv => ⟨by rw [dv.length, sizeLine_eq]; omega, fun a ha => by
    have C2 := C.grow g
    have hn : nw a := by
      by_cases z : nw a
      · exact z
      · exact absurd ha (C2.al a z)
    have hF : F2 a = none := Gr.fresh g.fh ha
    refine p.nx F2 (upd H2 a (.lst vs)) _ _ hk ((C.gs g).trans (Gs.of C2.al (Gr.new' g.fh ha))) ⟨(Gr.new' (M := M0) g.fh ha).fh, C2.sl.newO i hF hn ha g.fh ⟨hl, vs, upd_same, dv⟩, fun b n => ?_, C.ov⟩
    exact (Gr.new' (M := M0) (o := .lst vs) g.fh ha).dm b (C2.al b n)⟩
theorem T_newK {i : Nat} (h : k.nx (ss.set i (.own (.dK [])))) : Tt (tAsg tDNewK (gName i)) ss k := fun nw mt F H σ D C p a ha => by
  have hn : nw a := by
    by_cases z : nw a
    · exact z
    · exact absurd ha (C.al a z)
  have hF : F a = none := Gr.fresh C.fh ha
  refine p.nx F (upd H a (.dK [])) _ _ h (Gs.of C.al (Gr.new' C.fh ha)) ⟨(Gr.new' (M := M0) C.fh ha).fh, C.sl.newO i hF hn ha C.fh upd_same, fun b n => ?_, C.ov⟩
  exact (Gr.new' (M := M0) (o := .dK []) C.fh ha).dm b (C.al b n)
/-- an own object of slot i is frozen: data from here on -/
theorem T_frz (i : Nat) {ds : List PyData} (hi : ss[i]? = some (.own (.lst ds))) (h : Tt t (ss.set i (.dat (.list ds))) k) : Tt t ss k := fun nw mt F H σ D C p => by
  obtain ⟨a, e1, hF, hn, hl, xs, hx, hd⟩ := C.sl.ok i _ hi
  have hss : Same F (upd F a (.lst xs)) := fun b o x => by rw [upd_ne (ne_of_none x hF)]; exact x
  have hfh : Same (upd F a (.lst xs)) H := fun b o x => by
    by_cases hb : b = a
    · subst hb; rw [upd_same] at x; rw [hx]; exact x
    · rw [upd_ne hb] at x; exact C.fh _ _ x
  have gs : Gs nw mt F H (upd F a (.lst xs)) H := ⟨hss, hfh, fun _ _ _ _ z => z, fun b n z _ => by
    have : b ≠ a := fun q => n (q ▸ hn)
    rw [upd_ne this]; exact z, fun _ z => z, fun _ z => z⟩
  obtain ⟨hi', _⟩ := List.getElem?_eq_some_iff.mp hi
  refine h nw mt (upd F a (.lst xs)) H σ D ⟨hfh, ⟨by rw [List.length_set]; exact C.sl.len, fun j s ej => ?_, fun j k s s' q hjk e2 e3 o1 o2 h1 => ?_⟩, C.al, C.ov⟩ (p.step gs)
  · by_cases hj : i = j
    · subst hj
      rw [List.getElem?_set_self hi'] at ej
      cases ej
      exact ⟨_, e1, .lst upd_same hl (hd.mono hss)⟩
    · rw [List.getElem?_set_ne hj] at ej
      have q := C.sl.ok j s ej
      have key : isO s = true → ∀ p', σ[j]? = some (some (.ref p')) → p' ≠ a := fun hs p' e' z => by
        subst z
        exact C.sl.dj i j _ s p' hj hi ej rfl hs e1 e'
      cases s with
      | no => trivial
      | dat d =>
        obtain ⟨v, x1, x2⟩ := q
        exact ⟨v, x1, x2.mono hss⟩
      | own c2 =>
        obtain ⟨p', e', f', n', c3⟩ := q
        exact ⟨p', e', by rw [upd_ne (key rfl p' e')]; exact f', n', cOk_grow hss (fun _ z => z) c3⟩
      | par _ c2 =>
        obtain ⟨p', e', f', n', c3⟩ := q
        exact ⟨p', e', by rw [upd_ne (key rfl p' e')]; exact f', n', cOk_grow hss (fun _ z => z) c3⟩
  · have back : ∀ j s, (ss.set i (.dat (.list ds)))[j]? = some s → isO s = true → ss[j]? = some s := fun j s e o => by
      by_cases hj : i = j
      · subst hj
        rw [List.getElem?_set_self hi'] at e; cases e; cases o
      · rw [List.getElem?_set_ne hj] at e; exact e
    exact C.sl.dj j k s s' q hjk (back j s e2 o1) (back k s' e3 o2) o1 o2 h1
theorem T_if (h : WT c ss fun b => if b = true then Tt t ss k else Tt u ss k) : Tt (tIfS c t u) ss k := fun nw mt F H σ D C p =>
  h F H nw mt σ C.fh C.sl _ fun b F2 H2 hb g => by
    cases b with
    | true => exact iteT (hb nw mt F2 H2 σ D (C.grow g) (p.step (C.gs g)))
    | false => exact iteF (hb nw mt F2 H2 σ D (C.grow g) (p.step (C.gs g)))
theorem T_ret (h : W te ss fun d => k.rt (.dat d) ss) : Tt (tRet te) ss k := fun nw mt F H σ D C p =>
  h F H nw mt σ C.fh C.sl _ fun v F2 H2 d hk g dv => p.rt F2 H2 σ ss v (.dat d) hk (C.gs g) (C.grow g) dv
theorem T_retN (h : k.rt (.dat .none) ss) : Tt tRetN ss k := fun nw mt F H σ D C p => p.rt F H σ ss .non (.dat .none) h (Gs.refl C.fh) C .non
theorem T_retO {i : Nat} {o : Ct} (hi : ss[i]? = some (.own o)) (h : k.rt (.own o) ss) : Tt (tRet (tVar i)) ss k := fun nw mt F H σ D C p => by
  obtain ⟨a, e1, hF, hn, hc⟩ := C.sl.ok i _ hi
  exact ⟨.ref a, e1, p.rt F H σ ss (.ref a) (.own o) h (Gs.refl C.fh) C ⟨a, rfl, hF, hn, hc⟩⟩
theorem T_brk (h : k.bk ss) : Tt tBreak ss k := fun nw mt F H σ D C p => p.bk F H σ ss h (Gs.refl C.fh) C
theorem T_cnt (h : k.ct ss) : Tt tCont ss k := fun nw mt F H σ D C p => p.ct F H σ ss h (Gs.refl C.fh) C
theorem T_drop (h : W te ss fun _ => k.nx ss) : Tt (tDrop te) ss k := fun nw mt F H σ D C p =>
  h F H nw mt σ C.fh C.sl _ fun v F2 H2 d hk g dv => p.nx F2 H2 σ ss hk (C.gs g) (C.grow g)
theorem Cs.wrO {nw mt : Addr → Prop} {F H : Hp} {σ : L2.St} (C : Cs nw mt F H σ ss) {i : Nat} {p : Addr} {c c' : Ct} (hi : ss[i]? = some (.own c)) (hp : σ[i]? = some (some (.ref p))) {o : HO} (hc : cOk F (upd H p o) p c') :
    Gs nw mt F H F (upd H p o) ∧ Cs nw mt F (upd H p o) σ (ss.set i (.own c')) := by
  obtain ⟨hF, hn, S⟩ := C.sl.wrO hi hp hc
  have fh : Same F (upd H p o) := fun a u x => by rw [upd_ne (ne_of_none x hF)]; exact C.fh _ _ x
  have dm : ∀ a, H a ≠ none → upd H p o a ≠ none := fun a x => by
    by_cases ha : a = p
    · subst ha; rw [upd_same]; simp
    · rw [upd_ne ha]; exact x
  exact ⟨⟨Same.refl _, fh, fun a u n _ x => by
    have ne : a ≠ p := fun z => n (by rw [z]; exact hn)
    rw [upd_ne ne]; exact x, fun _ _ x _ => x, fun a x => by
    by_cases ha : a = p
    · subst ha; exact cOk_nt hc
    · obtain ⟨u, e, n⟩ := x
      exact ⟨u, by rw [upd_ne ha]; exact e, n⟩, dm⟩, ⟨fh, S, fun a n => dm a (C.al a n), C.ov⟩⟩
theorem T_app {i : Nat} {ds : List PyData} (hi : ss[i]? = some (.own (.lst ds))) (hl : ds.length < 100000) (h : W te ss fun d => k.nx (ss.set i (.own (.lst (ds ++ [d]))))) :
    Tt (tDrop (tBM K "list" rAppend (tVar i) (tCons te tNil))) ss k := fun nw mt F H σ D C p => by
  obtain ⟨a, e1, hF, hn, _, xs, hx, hd⟩ := C.sl.ok i _ hi
  refine ⟨.ref a, e1, .inl ⟨rfl, xs, SqL.of hx⟩, ?_⟩
  refine h F H nw mt σ C.fh C.sl _ fun v F2 H2 d hk g dv => ⟨a, xs, v, rfl, rfl, g.same _ _ hx, ?_, ?_⟩
  · rw [hd.length, sizeLine_eq]; omega
  · obtain ⟨gs, C2⟩ := (C.grow g).wrO (c' := .lst (ds ++ [d])) (o := .lst (xs ++ [v])) hi e1 ⟨by rw [List.length_append]; exact hl, _, upd_same, (hd.mono g.ff).append (.one dv)⟩
    exact p.nx _ _ σ _ hk ((C.gs g).trans gs) C2
theorem T_ext {i : Nat} {ds : List PyData} (hi : ss[i]? = some (.own (.lst ds))) (h : W te ss fun d => ∃ es, d = .list es ∧ ds.length + es.length ≤ 100000 ∧ k.nx (ss.set i (.own (.lst (ds ++ es))))) :
    Tt (tDrop (tBM K "list" rExtend (tVar i) (tCons te tNil))) ss k := fun nw mt F H σ D C p => by
  obtain ⟨a, e1, hF, hn, _, xs, hx, hd⟩ := C.sl.ok i _ hi
  refine ⟨.ref a, e1, .inl ⟨rfl, xs, SqL.of hx⟩, ?_⟩
  refine h F H nw mt σ C.fh C.sl _ fun v F2 H2 d ⟨es, ed, hl, hk⟩ g dv => ?_
  subst ed
  obtain ⟨b, ys, rfl, h1, l1, t1⟩ := inv_lst dv
  refine ⟨a, b, xs, ys, rfl, rfl, g.same _ _ hx, g.fh _ _ h1, ?_, ?_⟩
  · rw [hd.length, t1.length, sizeLine_eq]; omega
  · obtain ⟨gs, C2⟩ := (C.grow g).wrO (c' := .lst (ds ++ es)) (o := .lst (xs ++ ys)) hi e1 ⟨by rw [List.length_append]; exact hl, _, upd_same, (hd.mono g.ff).append t1⟩
    exact p.nx _ _ σ _ hk ((C.gs g).trans gs) C2
theorem T_while (I : Nat → List Sl → Prop) (m0 : Nat) (h0 : I m0 ss) (hs : ∀ m ss', I m ss' → WT c ss' fun b => if b = true then Tt t ss' { nx := fun s => ∃ m', m' < m ∧ I m' s, rt := k.rt, bk := k.nx, ct := fun s => ∃ m', m' < m ∧ I m' s } else k.nx ss') :
    Tt (tWhile c t) ss k := fun nw mt F H σ D C p =>
  ⟨fun m σ' H' => ∃ F' ss', I m ss' ∧ Gs nw mt F H F' H' ∧ Cs nw mt F' H' σ' ss', ⟨m0, F, ss, h0, Gs.refl C.fh, C⟩, fun m σ' H' ⟨F', ss', hI, g, C'⟩ =>
    hs m ss' hI F' H' nw mt σ' C'.fh C'.sl _ fun b F2 H2 hb g2 => by
      have C2 := C'.grow g2
      have gg := g.trans (C'.gs g2)
      cases b with
      | true =>
        refine iteT ⟨fun σ3 H3 => ∃ m', m' < m ∧ ∃ F3 ss3, I m' ss3 ∧ Gs nw mt F H F3 H3 ∧ Cs nw mt F3 H3 σ3 ss3, fun σ3 H3 hN => hN, hb nw mt F2 H2 σ' _ C2 ⟨?_, ?_, ?_, ?_⟩⟩
        · exact fun F3 H3 σ3 ss3 ⟨m', hm, hI3⟩ g3 C3 => ⟨m', hm, F3, ss3, hI3, gg.trans g3, C3⟩
        · exact (p.step gg).rt
        · exact (p.step gg).nx
        · exact fun F3 H3 σ3 ss3 ⟨m', hm, hI3⟩ g3 C3 => ⟨m', hm, F3, ss3, hI3, gg.trans g3, C3⟩
      | false => exact iteF (p.nx F2 H2 σ' ss' hb gg C2)⟩
theorem T_for {wi : TI} {g : TG} (js : List Nat) (h : WI wi ss fun ds => ∃ I : Nat → List Sl → Prop, I 0 ss ∧
      (∀ i d ss', ds[i]? = some d → I i ss' → WG g js d ss' fun ss2 => Tt t ss2 { nx := I (i + 1), rt := k.rt, bk := k.nx, ct := I (i + 1) }) ∧ ∀ ss', I ds.length ss' → k.nx ss') :
    Tt (tFor wi g t) ss k := fun nw mt F H σ D C p =>
  h F H nw mt σ C.fh C.sl _ fun J F1 H1 ds ⟨I, h0, turn, fin⟩ g1 it => by
    have C1 := C.grow g1
    have gs1 := C.gs g1
    refine ⟨fun i m σ' H' => m = ds.length - i ∧ i ≤ ds.length ∧ ∃ F' ss', I i ss' ∧ Gs nw mt F1 H1 F' H' ∧ Cs nw mt F' H' σ' ss', ⟨ds.length, by omega, by omega, F1, ss, h0, Gs.refl C1.fh, C1⟩, fun i m σ' H' hW => ?_⟩
    obtain ⟨rfl, hi, F', ss', hI, gg, C'⟩ := hW
    by_cases hlt : i < ds.length
    · have hx : ds[i]? = some ds[i] := List.getElem?_eq_getElem hlt
      obtain ⟨hgo, hy⟩ := it.go i F' H' _ gg.ff gg.fh hx
      refine .inr ⟨hgo, fun σ3 H3 => ∃ F3 ss3, I (i + 1) ss3 ∧ Gs nw mt F1 H1 F3 H3 ∧ Cs nw mt F3 H3 σ3 ss3, fun σ3 H3 hN => ⟨ds.length - (i + 1), by omega, rfl, hlt, hN⟩, fun v H2 hv => ?_⟩
      obtain ⟨F2, g2, dv⟩ := hy v H2 hv
      have C2 := C'.grow g2
      have gg2 := gg.trans (C'.gs g2)
      refine turn i _ ss' hx hI F2 H2 nw mt σ' v C2.fh C2.sl dv _ fun F3 H3 σ3 ss3 hT g3 S3 _ _ => ?_
      have gg3 := gg2.trans (C2.gs g3)
      refine hT nw mt F3 H3 σ3 _ ⟨g3.fh, S3, fun a n => g3.dm a (C2.al a n), C.ov⟩ ⟨?_, ?_, ?_, ?_⟩
      · exact fun F4 H4 σ4 ss4 hI4 g4 C4 => ⟨F4, ss4, hI4, gg3.trans g4, C4⟩
      · exact (p.step (gs1.trans gg3)).rt
      · exact (p.step (gs1.trans gg3)).nx
      · exact fun F4 H4 σ4 ss4 hI4 g4 C4 => ⟨F4, ss4, hI4, gg3.trans g4, C4⟩
    · have ei : i = ds.length := by omega
      subst ei
      exact .inl ⟨it.stop F' H' gg.ff gg.fh, p.nx F' H' σ' ss' (fin ss' hI) (gs1.trans gg) C'⟩
theorem Tt.imp {k' : Ks} (h : Tt t ss k') (h1 : ∀ s, k'.nx s → k.nx s) (h2 : ∀ s s', k'.rt s s' → k.rt s s') (h3 : ∀ s, k'.bk s → k.bk s) (h4 : ∀ s, k'.ct s → k.ct s) : Tt t ss k := fun nw mt F H σ D C p =>
  h nw mt F H σ D C ⟨fun F2 H2 σ ss a => p.nx F2 H2 σ ss (h1 _ a), fun F2 H2 σ ss v s a => p.rt F2 H2 σ ss v s (h2 _ _ a), fun F2 H2 σ ss a => p.bk F2 H2 σ ss (h3 _ a), fun F2 H2 σ ss a => p.ct F2 H2 σ ss (h4 _ a)⟩
end

/-! ### defs -/
def slots (N : List Str) (ds : List PyData) : List Sl := ds.map Sl.dat ++ List.replicate (N.length - ds.length) .no
theorem start_sls {F H : Hp} {nw mt : Addr → Prop} (N : List Str) : ∀ {vs : List V} {ds : List PyData}, DnAll F vs ds → SLs F H nw mt (L2.start N vs) (slots N ds) := fun {vs ds} h => by
  have hl := h.length
  refine ⟨by unfold L2.start slots; simp [hl], fun i s e => ?_, fun i j s s' p _ e1 _ o1 _ _ => ?_⟩
  · unfold slots at e
    unfold L2.start
    by_cases hi : i < ds.length
    · rw [List.getElem?_append_left (by rw [List.length_map]; exact hi), List.getElem?_map, List.getElem?_eq_getElem hi] at e
      cases e
      obtain ⟨v, hv, dv⟩ := h.get (List.getElem?_eq_getElem hi)
      refine ⟨v, ?_, dv⟩
      rw [List.getElem?_append_left (by rw [List.length_map]; omega), List.getElem?_map, hv]
      rfl
    · rw [List.getElem?_append_right (by rw [List.length_map]; omega)] at e
      have := (List.mem_of_getElem? e)
      rw [List.mem_replicate] at this
      rw [this.2]
      trivial
  · exfalso
    unfold slots at e1
    have := List.mem_of_getElem? e1
    rw [List.mem_append] at this
    rcases this with z | z
    · obtain ⟨d, _, rfl⟩ := List.mem_map.mp z
      cases o1
    · rw [List.mem_replicate] at z
      rw [z.2] at o1
      cases o1
section
variable {P : Program} {w : World} {K : PySem.W.Frag} {mg : Str → Option Value} {base : Heap}
/-- THE RULE for a def by data -/
theorem fnD {x qual : Str} {st : Stmt} {f : Addr} {fd : FuncData} {N ps : List Str} {k : Nat} {Pre : List PyData → (Sl → Prop) → Prop} (Fu : Fun K x qual st f fd) (S : FnScope N ps (defScope st)) (len : ∀ ds R, Pre ds R → ds.length = ps.length)
    (hbody : ∀ (cdv : Value) (A : Around) (outer : List Env) (s : Shared) (H : Hp) (E : XK) (ds : List PyData) (R : Sl → Prop), Room k (A.deeper (envOfC qual (defScope st) s.heap.objs.size f cdv)) → Pre ds R →
      ∃ t, PSs (cxOf CX0 P w K mg base N qual (defScope st) f cdv A outer s H E).nox (defBody st) t ∧ Tt t (slots N ds) { nx := fun _ => R (.dat .none), rt := fun s _ => R s }) :
    FnOk P w K mg base CX0 (k + 1) f fd ps (SpD Pre) := by
  refine Fu.ok S (fun vs H Q E h => ?_) fun cdv A outer s H vs Q E hr h => ?_
  · obtain ⟨F, ds, R, _, dv, pre, _⟩ := h
    rw [dv.length]
    exact len ds R pre
  · obtain ⟨F, ds, R, e, dv, pre, q⟩ := h
    obtain ⟨t, h1, h2⟩ := hbody cdv A outer s H E ds R hr pre
    have gr : ∀ {F2 H2 : Hp}, Gs (fun a => H a = none) M0 F H F2 H2 → Gr0 F H F2 H2 := fun g => ⟨g.ff, g.fh, fun a o _ x => g.hh a o (by rw [x]; simp) (fun z => z) x, fun a x y => g.nwk a y.ne x y, g.dm⟩
    refine ⟨t, h1, h2 (fun a => H a = none) M0 F H (L2.start N vs) _ ⟨e, start_sls N dv, fun a n => n, fun _ _ z => z⟩ ⟨?_, ?_, ?_, ?_⟩⟩
    · exact fun F2 H2 σ ss hR g C => q .non F2 H2 (.dat .none) hR (gr g) .non
    · intro F2 H2 σ ss v s hR g C hv
      refine q v F2 H2 s hR (gr g) ?_
      cases s with
      | no => exact hv
      | dat d => exact hv
      | own c => exact hv
      | par _ c => exact hv
    · exact fun F2 H2 σ ss hb _ _ => hb.elim
    · exact fun F2 H2 σ ss hb _ _ => hb.elim
end
end RO
/-! data of the program: encoders, equality, sorted pairs of a relation -/
namespace RO
open PySem

/-! ### shapes -/
def DL (k : Nat) (d : PyData) : Prop := d.canLay0 = true ∧ d.depth ≤ k
theorem DL.sh {k : Nat} {d : PyData} (h : DL k d) (hk : k ≤ 64 := by decide) : SeqAt.shaped d = true := by
  show (d.canLay0 && decide (d.depth ≤ 64)) = true
  rw [h.1, Bool.true_and]
  exact decide_eq_true (Nat.le_trans h.2 hk)
theorem DL.mono {j k : Nat} {d : PyData} (h : DL j d) (hk : j ≤ k) : DL k d := ⟨h.1, Nat.le_trans h.2 hk⟩
theorem DL_int (i : Int) : DL 0 (.int i) := by constructor <;> simp [PyData.canLay0, PyData.depth]
theorem DL_bool (b : Bool) : DL 0 (.bool b) := by constructor <;> simp [PyData.canLay0, PyData.depth]
theorem DL_none : DL 0 .none := by constructor <;> simp [PyData.canLay0, PyData.depth]
theorem DL_all {k : Nat} : ∀ {ds : List PyData}, (∀ d ∈ ds, DL k d) → PyData.canLayAll0 ds = true ∧ PyData.depthAll ds ≤ k
  | [], _ => by constructor <;> simp [PyData.canLayAll0, PyData.depthAll]
  | d :: ds, h => by
    have h1 := h d List.mem_cons_self
    have h2 := DL_all (ds := ds) fun x hx => h x (List.mem_cons_of_mem _ hx)
    constructor
    · simp [PyData.canLayAll0, h1.1, h2.1]
    · simp only [PyData.depthAll]
      exact Nat.max_le.mpr ⟨h1.2, h2.2⟩
theorem DL_list {k : Nat} {ds : List PyData} (h : ∀ d ∈ ds, DL k d) : DL (k + 1) (.list ds) := by
  have := DL_all h
  constructor
  · simp only [PyData.canLay0]; exact this.1
  · simp only [PyData.depth]; omega
theorem DL_tuple {k : Nat} {ds : List PyData} (h : ∀ d ∈ ds, DL k d) : DL (k + 1) (.tuple ds) := by
  have := DL_all h
  constructor
  · simp only [PyData.canLay0]; exact this.1
  · simp only [PyData.depth]; omega
theorem DL_map {α : Type} {f : α → PyData} {k : Nat} {l : List α} (h : ∀ x, DL k (f x)) : ∀ d ∈ l.map f, DL k d := fun d hd => by
  obtain ⟨x, _, rfl⟩ := List.mem_map.mp hd
  exact h x

/-! ### encoders -/
abbrev Pr := Nat × Nat
abbrev eP (p : Pr) : PyData := .tuple [.int p.1, .int p.2]
abbrev eLP (l : List Pr) : PyData := .list (l.map eP)
abbrev eTP (l : List Pr) : PyData := .tuple (l.map eP)
abbrev eLN (l : List Nat) : PyData := .list (l.map eN)
abbrev eLR (l : List (List Nat)) : PyData := .list (l.map eTN)
abbrev eLLN (l : List (List Nat)) : PyData := .list (l.map eLN)
abbrev eLTP (l : List (List Pr)) : PyData := .list (l.map eTP)
theorem DL_eN (n : Nat) : DL 0 (eN n) := DL_int _
theorem DL_eP (p : Pr) : DL 1 (eP p) := DL_tuple fun d hd => by
  simp only [List.mem_cons, List.not_mem_nil, or_false] at hd
  rcases hd with rfl | rfl <;> exact DL_int _
theorem DL_eLP (l : List Pr) : DL 2 (eLP l) := DL_list (DL_map DL_eP)
theorem DL_eTP (l : List Pr) : DL 2 (eTP l) := DL_tuple (DL_map DL_eP)
theorem DL_eLN (l : List Nat) : DL 1 (eLN l) := DL_list (DL_map DL_eN)
theorem DL_eLLN (l : List (List Nat)) : DL 2 (eLLN l) := DL_list (DL_map DL_eLN)
theorem DL_eLTP (l : List (List Pr)) : DL 3 (eLTP l) := DL_list (DL_map DL_eTP)

/-! ### equality -/
theorem eqv_int (i j : Int) : PyData.eqv (.int i) (.int j) = decide (i = j) := by
  simp only [PyData.eqv]
  by_cases h : i = j <;> simp [h]
theorem eqv_bool (a b : Bool) : PyData.eqv (.bool a) (.bool b) = (a == b) := by simp only [PyData.eqv]
theorem eqv_eN (a b : Nat) : PyData.eqv (eN a) (eN b) = decide (a = b) := by
  unfold eN
  rw [eqv_int]
  exact decide_eq_decide.mpr (by omega)
theorem eqv_nat (a b : Nat) : PyData.eqv (.int (a : Int)) (.int (b : Int)) = decide (a = b) := eqv_eN a b
theorem eqvAll_map {α : Type} [DecidableEq α] {f : α → PyData} (h : ∀ a b, PyData.eqv (f a) (f b) = decide (a = b)) : ∀ l m : List α, PyData.eqvAll (l.map f) (m.map f) = decide (l = m)
  | [], [] => by simp [PyData.eqvAll]
  | [], _ :: _ => by simp [PyData.eqvAll]
  | _ :: _, [] => by simp [PyData.eqvAll]
  | a :: l, b :: m => by
    simp only [List.map_cons, PyData.eqvAll, h, eqvAll_map h l m]
    by_cases h1 : a = b <;> by_cases h2 : l = m <;> simp [h1, h2]
theorem eqv_list {α : Type} [DecidableEq α] {f : α → PyData} (h : ∀ a b, PyData.eqv (f a) (f b) = decide (a = b)) (l m : List α) : PyData.eqv (.list (l.map f)) (.list (m.map f)) = decide (l = m) := by
  simp only [PyData.eqv]; exact eqvAll_map h l m
theorem eqv_tuple {α : Type} [DecidableEq α] {f : α → PyData} (h : ∀ a b, PyData.eqv (f a) (f b) = decide (a = b)) (l m : List α) : PyData.eqv (.tuple (l.map f)) (.tuple (m.map f)) = decide (l = m) := by
  simp only [PyData.eqv]; exact eqvAll_map h l m
theorem eqv_eP (p q : Pr) : PyData.eqv (eP p) (eP q) = decide (p = q) := by
  unfold eP
  simp only [PyData.eqv, PyData.eqvAll, Bool.and_true]
  obtain ⟨a, b⟩ := p
  obtain ⟨c, d⟩ := q
  have e1 : (((a : Nat) : Int) == (c : Int)) = decide (a = c) := by
    have := eqv_nat a c
    simp only [PyData.eqv] at this
    exact this
  have e2 : (((b : Nat) : Int) == (d : Int)) = decide (b = d) := by
    have := eqv_nat b d
    simp only [PyData.eqv] at this
    exact this
  show ((((a : Nat) : Int) == (c : Int)) && (((b : Nat) : Int) == (d : Int))) = _
  rw [e1, e2]
  by_cases h1 : a = c <;> by_cases h2 : b = d <;> simp [h1, h2]
theorem eqv_eLP (l m : List Pr) : PyData.eqv (eLP l) (eLP m) = decide (l = m) := eqv_list eqv_eP l m
theorem eqv_eTP (l m : List Pr) : PyData.eqv (eTP l) (eTP m) = decide (l = m) := eqv_tuple eqv_eP l m
theorem eqv_eLN (l m : List Nat) : PyData.eqv (eLN l) (eLN m) = decide (l = m) := eqv_list eqv_eN l m
theorem any_map {α : Type} [DecidableEq α] {f : α → PyData} (h : ∀ a b, PyData.eqv (f a) (f b) = decide (a = b)) (l : List α) (x : α) : (l.map f).any (fun z => PyData.eqv z (f x)) = decide (x ∈ l) := by
  rw [List.any_map]
  induction l with
  | nil => simp
  | cons a l ih =>
    rw [List.any_cons, ih]
    show (PyData.eqv (f a) (f x) || _) = _
    rw [h]
    by_cases h1 : a = x
    · simp [h1]
    · by_cases h2 : x ∈ l <;> simp [h1, h2, Ne.symm h1]
theorem any_eP (l : List Pr) (x : Pr) : (l.map eP).any (fun z => PyData.eqv z (eP x)) = decide (x ∈ l) := (any_map eqv_eP l x).trans (decide_eq_decide.mpr Iff.rfl)
theorem any_eN (l : List Nat) (x : Nat) : (l.map eN).any (fun z => PyData.eqv z (eN x)) = decide (x ∈ l) := any_map eqv_eN l x

/-! ### the sorted pairs of a relation on n things -/
abbrev Rl := Nat → Nat → Bool
def allP (n : Nat) : List Pr := (List.range n).flatMap fun a => (List.range n).map fun b => (a, b)
def prs (n : Nat) (R : Rl) : List Pr := (allP n).filter fun p => R p.1 p.2
def ltP (p q : Pr) : Prop := p.1 < q.1 ∨ (p.1 = q.1 ∧ p.2 < q.2)
theorem mem_allP {n : Nat} {p : Pr} : p ∈ allP n ↔ p.1 < n ∧ p.2 < n := by
  unfold allP
  rw [List.mem_flatMap]
  constructor
  · rintro ⟨a, ha, hp⟩
    obtain ⟨b, hb, rfl⟩ := List.mem_map.mp hp
    exact ⟨List.mem_range.mp ha, List.mem_range.mp hb⟩
  · rintro ⟨h1, h2⟩
    exact ⟨p.1, List.mem_range.mpr h1, List.mem_map.mpr ⟨p.2, List.mem_range.mpr h2, rfl⟩⟩
theorem mem_prs {n : Nat} {R : Rl} {p : Pr} : p ∈ prs n R ↔ p.1 < n ∧ p.2 < n ∧ R p.1 p.2 = true := by
  unfold prs
  rw [List.mem_filter, mem_allP, and_assoc]
theorem mem_prs2 {n : Nat} {R : Rl} {a b : Nat} : (a, b) ∈ prs n R ↔ a < n ∧ b < n ∧ R a b = true := mem_prs
theorem ltP_irrefl (p : Pr) : ¬ ltP p p := by unfold ltP; omega
theorem allP_sorted (n : Nat) : (allP n).Pairwise ltP := by
  unfold allP
  rw [List.pairwise_flatMap]
  refine ⟨fun a _ => ?_, ?_⟩
  · rw [List.pairwise_map]
    exact List.pairwise_lt_range.imp fun h => .inr ⟨rfl, h⟩
  · refine List.pairwise_lt_range.imp fun {a b} h p hp q hq => ?_
    obtain ⟨_, _, rfl⟩ := List.mem_map.mp hp
    obtain ⟨_, _, rfl⟩ := List.mem_map.mp hq
    exact .inl h
theorem prs_sorted (n : Nat) (R : Rl) : (prs n R).Pairwise ltP := (allP_sorted n).filter _
theorem sorted_nodup {l : List Pr} (h : l.Pairwise ltP) : l.Nodup := h.imp fun {a b} hab e => by
  subst e
  exact ltP_irrefl _ hab
theorem prs_nodup (n : Nat) (R : Rl) : (prs n R).Nodup := sorted_nodup (prs_sorted n R)
theorem sorted_eq : ∀ {l m : List Pr}, l.Pairwise ltP → m.Pairwise ltP → (∀ p, p ∈ l ↔ p ∈ m) → l = m
  | [], [], _, _, _ => rfl
  | [], q :: m, _, _, h => by have := (h q).mpr List.mem_cons_self; cases this
  | p :: l, [], _, _, h => by have := (h p).mp List.mem_cons_self; cases this
  | p :: l, q :: m, h1, h2, h => by
    rw [List.pairwise_cons] at h1 h2
    have e : p = q := by
      have a := (h p).mp List.mem_cons_self
      have b := (h q).mpr List.mem_cons_self
      rcases List.mem_cons.mp a with z | z
      · exact z
      · rcases List.mem_cons.mp b with y | y
        · exact y.symm
        · exfalso
          have u := h2.1 p z
          have v := h1.1 q y
          unfold ltP at u v
          omega
    subst e
    congr 1
    refine sorted_eq h1.2 h2.2 fun r => ⟨fun hr => ?_, fun hr => ?_⟩
    · rcases List.mem_cons.mp ((h r).mp (List.mem_cons_of_mem _ hr)) with z | z
      · subst z; exact absurd (h1.1 r hr) (ltP_irrefl r)
      · exact z
    · rcases List.mem_cons.mp ((h r).mpr (List.mem_cons_of_mem _ hr)) with z | z
      · subst z; exact absurd (h2.1 r hr) (ltP_irrefl r)
      · exact z
/-- a sorted list of pairs below n is the pairs of its membership -/
theorem sorted_prs {n : Nat} {l : List Pr} {R : Rl} (h : l.Pairwise ltP) (hm : ∀ a b, (a, b) ∈ l ↔ a < n ∧ b < n ∧ R a b = true) : l = prs n R :=
  sorted_eq h (prs_sorted n R) fun p => by rw [mem_prs]; exact hm p.1 p.2
theorem prs_congr {n : Nat} {R S : Rl} (h : ∀ a b, a < n → b < n → R a b = S a b) : prs n R = prs n S := by
  unfold prs
  refine List.filter_congr fun p hp => ?_
  have := mem_allP.mp hp
  exact h _ _ this.1 this.2
theorem prs_filter {n : Nat} {R : Rl} (f : Rl) : (prs n R).filter (fun p => f p.1 p.2) = prs n (fun a b => R a b && f a b) := by
  unfold prs
  rw [List.filter_filter]
  refine List.filter_congr fun p _ => ?_
  rw [Bool.and_comm]
theorem allP_length (n : Nat) : (allP n).length = n * n := by
  unfold allP
  rw [List.length_flatMap]
  have : ∀ k : Nat, ((List.range k).map fun _ => ((List.range n).map fun b => b).length).sum = k * n := fun k => by
    induction k with
    | zero => simp
    | succ k ih => rw [List.range_succ, List.map_append, List.sum_append, ih]; simp [Nat.succ_mul]
  have h := this n
  simpa using h
theorem prs_length_le (n : Nat) (R : Rl) : (prs n R).length ≤ n * n := by
  rw [← allP_length]
  exact List.length_filter_le _ _
/-- a valid order on at most 8 things: transitive, irreflexive -/
structure Po (n : Nat) (R : Rl) : Prop where
  irr : ∀ a, a < n → R a a = false
  tr : ∀ a b c, a < n → b < n → c < n → R a b = true → R b c = true → R a c = true
theorem Po.asym {n : Nat} {R : Rl} (h : Po n R) {a b : Nat} (ha : a < n) (hb : b < n) (r : R a b = true) : R b a = false := by
  cases q : R b a with
  | false => rfl
  | true =>
    have := h.tr a b a ha hb ha r q
    rw [h.irr a ha] at this
    cases this
/-- a valid order of one to six things -/
def G6 (n : Nat) (R : Rl) : Prop := 1 ≤ n ∧ n ≤ 6 ∧ Po n R
abbrev eO (n : Nat) (R : Rl) : PyData := .tuple [.int n, eTP (prs n R)]
theorem DL_eO (n : Nat) (R : Rl) : DL 3 (eO n R) := DL_tuple fun d hd => by
  simp only [List.mem_cons, List.not_mem_nil, or_false] at hd
  rcases hd with rfl | rfl
  · exact (DL_int _).mono (by decide)
  · exact DL_eTP _
theorem prs_flat (n : Nat) (R : Rl) : prs n R = (List.range n).flatMap fun a => ((List.range n).filter (R a)).map fun b => (a, b) := by
  unfold prs allP
  rw [List.filter_flatMap]
  congr 1
  funext a
  rw [List.filter_map]
  rfl
theorem prs36 {n : Nat} {R : Rl} (h : n ≤ 6) : (prs n R).length ≤ 36 := by
  have := prs_length_le n R
  have := Nat.mul_le_mul h h
  omega
theorem eqv_nil {α : Type} (f : α → PyData) (l : List α) : PyData.eqv (.list (l.map f)) (.list []) = decide (l = []) := by
  cases l with
  | nil => simp [PyData.eqv, PyData.eqvAll]
  | cons a l => simp [PyData.eqv, PyData.eqvAll]
/-- two things apart -/
def apR (R : Rl) : Rl := fun a b => decide (a ≠ b) && !R a b && !R b a
end RO
namespace RO
open PySem PySem.Spec PyProof.Rows L2
def topS (i : Nat) : Stmt := PySem.Challenge.pw_rowsorder_k47_whole_no_fewer_rows.main.body.getD i (.Pass ⟨0, 0, 0, 0⟩)

/-- a def of the text stands behind its name -/
def Dfn (K : PySem.W.Frag) (mg : Str → Option Value) (x : Str) (st : Stmt) (ps : List Str) : Prop := ∃ f fd, Fun K x x st f fd ∧ Binds K fd ps [] ∧ mg x = some (.ref f)
/-- a def keeps a promise by data, at level k -/
def Ok (P : Program) (w : World) (K : PySem.W.Frag) (mg : Str → Option Value) (base : Heap) (k : Nat) (x : Str) (ps : List Str) (sp : Sp) : Prop :=
  ∃ f fd, mg x = some (.ref f) ∧ PySem.W.keepIn K (.ref f) = true ∧ Binds K fd ps [] ∧ FnOk P w K mg base CX0 k f fd ps sp
theorem Ok.mono {P : Program} {w : World} {K : PySem.W.Frag} {mg : Str → Option Value} {base : Heap} {j k : Nat} {x : Str} {ps : List Str} {sp : Sp} (o : Ok P w K mg base j x ps sp) (h : j ≤ k) : Ok P w K mg base k x ps sp := by
  obtain ⟨f, fd, m, kp, b, F⟩ := o
  exact ⟨f, fd, m, kp, b, F.mono h⟩
section
variable {X : Cx} {k : Nat} {x : Str} {ps : List Str} {sp : Sp} {p pos : Pos} {e : Expr} {es : List Expr} {t : TA}
theorem pe_callN (o : Ok X.prog X.w X.K X.mg X.base k x ps sp) (hr : Room k X.A) (hg : Gl X x) (ha : PA X (e :: es) t) (hdb : (x == ("__debug__" : Str)) = false := by decide)
    (he : starEach (e :: es) X.env = (false, eval e X.env) :: starEach es X.env := by rfl) (hpl : (backTo pos (starEach es X.env)).any (·.1) = false := by rfl) : PE X (.Call (.Name x p) (e :: es) [] pos) (tCall sp [] E0 t) := by
  obtain ⟨f, fd, m, kp, b, F⟩ := o
  exact pe_call F hr hg m kp b .nil pass0 ha hdb he hpl
theorem pe_globI {i : Int} (hg : Gl X x) (h : ∃ t, X.mg x = some (.int i t)) (hd : (x == ("__debug__" : Str)) = false := by decide) : PE X (.Name x pos) (tC (.int i)) := by
  obtain ⟨t, h⟩ := h
  exact pe_glob hg h ⟨t, rfl⟩ hd
theorem o_in {k : Nat} (hr : Room k X.A) : OpR X (compareOp .In) (rInQ X.K false) := by
  intro pins s σ H x y v u Q I rx ry h
  have hu : X.A.units + 65 < cLine := by have := hr.un; omega
  obtain ⟨d, ds, hd, hy, sd, se, q⟩ := h
  obtain ⟨as, r1⟩ := Dp.reads I d x v hd rx
  rcases hy with hy | hy
  · obtain ⟨bs, r2⟩ := Dp.reads I (.list ds) y u hy ry
    exact SeqAt.in_list_reads r2 r1 (SeqAt.canLay_of_shaped se) (SeqAt.canLay_of_shaped sd) (room_in_shaped sd hu) ⟨.bl _, H, I, rfl, q⟩
  · obtain ⟨bs, r2⟩ := Dp.reads I (.tuple ds) y u hy ry
    exact SeqAt.in_tuple_reads r2 r1 (SeqAt.canLay_of_shaped se) (SeqAt.canLay_of_shaped sd) (room_in_shaped sd hu) ⟨.bl _, H, I, rfl, q⟩
theorem o_nin {k : Nat} (hr : Room k X.A) : OpR X (compareOp .NotIn) (rInQ X.K true) := by
  intro pins s σ H x y v u Q I rx ry h
  have hu : X.A.units + 65 < cLine := by have := hr.un; omega
  obtain ⟨d, ds, hd, hy, sd, se, q⟩ := h
  obtain ⟨as, r1⟩ := Dp.reads I d x v hd rx
  rcases hy with hy | hy
  · obtain ⟨bs, r2⟩ := Dp.reads I (.list ds) y u hy ry
    exact SeqAt.notIn_list_reads r2 r1 (SeqAt.canLay_of_shaped se) (SeqAt.canLay_of_shaped sd) (room_in_shaped sd hu) ⟨.bl _, H, I, rfl, q⟩
  · obtain ⟨bs, r2⟩ := Dp.reads I (.tuple ds) y u hy ry
    exact SeqAt.notIn_tuple_reads r2 r1 (SeqAt.canLay_of_shaped se) (SeqAt.canLay_of_shaped sd) (room_in_shaped sd hu) ⟨.bl _, H, I, rfl, q⟩
theorem c_len : CallR X (.builtin "len") (rLenQ X.K) := call_len_seq
theorem c_list : CallR X (.type "list") (rListQ X.K) := call_list_of
theorem c_tuple : CallR X (.type "tuple") (fun xs H Q => rTupQ X.K xs H Q) := by
  intro pins s σ H xs us Q I r h
  obtain ⟨p, ys, e, h | h⟩ := h
  · exact call_tuple_of pins s σ H xs us Q I r ⟨p, ys, e, .inl h⟩
  · exact call_tuple_of pins s σ H xs us Q I r ⟨p, ys, e, .inr h⟩
theorem c_tupleR : CallR X (.type "tuple") (rTupR X.K) := by
  intro pins s σ H xs us Q I r h
  obtain ⟨p, ys, rfl, hq, q⟩ := h
  obtain ⟨u, rfl, rx⟩ := vals1 r
  cases rx
  obtain ⟨its, rv, pl, hz⟩ := I.list hq
  have hlen := rv.length
  refine call_tuple_list pl.isList (fun h' kp => ?_) (by simp only [List.size_toArray] <;> omega)
  have I1 : Inv X pins σ H { s with heap := h' } := I.kept (t' := s.toks) kp
  have hn := I1.hok.fresh (Nat.le_refl h'.objs.size)
  refine ⟨.ref h'.objs.size, upd H h'.objs.size (.frz { cls := .type "tuple", data := .seq its.toArray } (.tup ys)), I1.laid (t' := s.toks) (fun b o e => Heap.get?_push_of_some _ e) (Nat.le_refl _) ?_, rfl, q _ _ hn rfl⟩
  exact ⟨Heap.get?_push_size _ rfl, hz, its, rv, IsTup.new _ _⟩
theorem c_max2 (hc : X.calm = true) : CallR X (.builtin "max") rMax2Q := call_max2 hc
/-- l.index(x), t.index(x) of ints -/
def rLix (K : PySem.W.Frag) : V → List V → Hp → VK → Prop := fun x xs H Q => ∃ (a : Addr) (ns : List Nat) (n j : Nat), x = V.ref a ∧ xs = [.int n] ∧ SqL K H a (ns.map fun n : Nat => V.int (n : Int)) ∧ ns[j]? = some n ∧ (∀ m, m < j → ns[m]? ≠ some n) ∧ Q (.int (j : Nat)) H
theorem mt_lindexQ {k : Nat} (hr : Room k X.A) : MtR X "list.index" (rLix X.K) := by
  intro pins s σ H x xs v us Q I rx rxs h
  obtain ⟨a, ns, n, j, rfl, rfl, hs, hj, hn, q⟩ := h
  refine mt_index pins s σ H _ _ v us Q I rx rxs ⟨a, _, _, j, V.int (n : Int), rfl, rfl, hs, rfl, ?_, ?_, ?_, ?_, q⟩
  · rw [List.all_map, List.all_eq_true]
    intro z _
    rfl
  · rw [List.getElem?_map, hj]; rfl
  · simp [eqV]
  · intro m z hm hz
    rw [List.getElem?_map] at hz
    cases hq : ns[m]? with
    | none => rw [hq] at hz; cases hz
    | some k2 =>
      rw [hq] at hz
      cases hz
      have : k2 ≠ n := fun e => hn m hm (by rw [hq, e])
      simp [eqV]
      omega
end
end RO
/-! printed by gen/derive.py: the defs of the text, their scopes, what stands behind the top -/
namespace RO
open PySem PySem.Spec PyProof.Rows L2
abbrev s_is_whole : Stmt := topS 5
abbrev n_is_whole : List Str := ["thing"]
theorem sc_is_whole : FnScope n_is_whole ["thing"] (defScope s_is_whole) := ⟨rfl, rfl, rfl, by decide +kernel, rfl, by decide +kernel, by decide +kernel⟩
abbrev s_is_many : Stmt := topS 6
abbrev n_is_many : List Str := ["thing"]
theorem sc_is_many : FnScope n_is_many ["thing"] (defScope s_is_many) := ⟨rfl, rfl, rfl, by decide +kernel, rfl, by decide +kernel, by decide +kernel⟩
abbrev s_is_pair : Stmt := topS 7
abbrev n_is_pair : List Str := ["many", "thing", "one"]
theorem sc_is_pair : FnScope n_is_pair ["many", "thing"] (defScope s_is_pair) := ⟨rfl, rfl, rfl, by decide +kernel, rfl, by decide +kernel, by decide +kernel⟩
abbrev s_follows : Stmt := topS 8
abbrev n_follows : List Str := ["pairs", "a", "b", "c", "d"]
theorem sc_follows : FnScope n_follows ["pairs"] (defScope s_follows) := ⟨rfl, rfl, rfl, by decide +kernel, rfl, by decide +kernel, by decide +kernel⟩
abbrev s_is_order : Stmt := topS 9
abbrev n_is_order : List Str := ["thing", "many", "pairs", "pair"]
theorem sc_is_order : FnScope n_is_order ["thing"] (defScope s_is_order) := ⟨rfl, rfl, rfl, by decide +kernel, rfl, by decide +kernel, by decide +kernel⟩
abbrev s_need_order : Stmt := topS 10
abbrev n_need_order : List Str := ["order"]
theorem sc_need_order : FnScope n_need_order ["order"] (defScope s_need_order) := ⟨rfl, rfl, rfl, by decide +kernel, rfl, by decide +kernel, by decide +kernel⟩
abbrev s_closed : Stmt := topS 11
abbrev n_closed : List Str := ["many", "pairs", "found", "middle", "more", "a", "b", "c", "d"]
theorem sc_closed : FnScope n_closed ["many", "pairs"] (defScope s_closed) := ⟨rfl, rfl, rfl, by decide +kernel, rfl, by decide +kernel, by decide +kernel⟩
abbrev s_are_apart : Stmt := topS 12
abbrev n_are_apart : List Str := ["order", "a", "b"]
theorem sc_are_apart : FnScope n_are_apart ["order", "a", "b"] (defScope s_are_apart) := ⟨rfl, rfl, rfl, by decide +kernel, rfl, by decide +kernel, by decide +kernel⟩
abbrev s_turned : Stmt := topS 13
abbrev n_turned : List Str := ["order", "a", "b"]
theorem sc_turned : FnScope n_turned ["order"] (defScope s_turned) := ⟨rfl, rfl, rfl, by decide +kernel, rfl, by decide +kernel, by decide +kernel⟩
abbrev s_is_tuple_of_all : Stmt := topS 15
abbrev n_is_tuple_of_all : List Str := ["many", "thing", "one"]
theorem sc_is_tuple_of_all : FnScope n_is_tuple_of_all ["many", "thing"] (defScope s_is_tuple_of_all) := ⟨rfl, rfl, rfl, by decide +kernel, rfl, by decide +kernel, by decide +kernel⟩
abbrev s_stands_ahead : Stmt := topS 16
abbrev n_stands_ahead : List Str := ["row", "a", "b"]
theorem sc_stands_ahead : FnScope n_stands_ahead ["row", "a", "b"] (defScope s_stands_ahead) := ⟨rfl, rfl, rfl, by decide +kernel, rfl, by decide +kernel, by decide +kernel⟩
abbrev s_is_row_of : Stmt := topS 17
abbrev n_is_row_of : List Str := ["thing", "order", "a", "b"]
theorem sc_is_row_of : FnScope n_is_row_of ["thing", "order"] (defScope s_is_row_of) := ⟨rfl, rfl, rfl, by decide +kernel, rfl, by decide +kernel, by decide +kernel⟩
abbrev s_next_things : Stmt := topS 18
abbrev n_next_things : List Str := ["order", "gone", "free", "thing", "a", "b"]
theorem sc_next_things : FnScope n_next_things ["order", "gone"] (defScope s_next_things) := ⟨rfl, rfl, rfl, by decide +kernel, rfl, by decide +kernel, by decide +kernel⟩
abbrev s_told_pairs : Stmt := topS 19
abbrev n_told_pairs : List Str := ["many", "rows", "found", "a", "b", "row"]
theorem sc_told_pairs : FnScope n_told_pairs ["many", "rows"] (defScope s_told_pairs) := ⟨rfl, rfl, rfl, by decide +kernel, rfl, by decide +kernel, by decide +kernel⟩
abbrev s_are_rows : Stmt := topS 20
abbrev n_are_rows : List Str := ["thing", "order", "row"]
theorem sc_are_rows : FnScope n_are_rows ["thing", "order"] (defScope s_are_rows) := ⟨rfl, rfl, rfl, by decide +kernel, rfl, by decide +kernel, by decide +kernel⟩
abbrev s_tell : Stmt := topS 21
abbrev n_tell : List Str := ["thing", "order"]
theorem sc_tell : FnScope n_tell ["thing", "order"] (defScope s_tell) := ⟨rfl, rfl, rfl, by decide +kernel, rfl, by decide +kernel, by decide +kernel⟩
abbrev s_apart_lists : Stmt := topS 23
abbrev n_apart_lists : List Str := ["order", "found", "row", "more", "some", "thing", "one"]
theorem sc_apart_lists : FnScope n_apart_lists ["order"] (defScope s_apart_lists) := ⟨rfl, rfl, rfl, by decide +kernel, rfl, by decide +kernel, by decide +kernel⟩
abbrev s_most_apart : Stmt := topS 24
abbrev n_most_apart : List Str := ["order", "best", "some"]
theorem sc_most_apart : FnScope n_most_apart ["order"] (defScope s_most_apart) := ⟨rfl, rfl, rfl, by decide +kernel, rfl, by decide +kernel, by decide +kernel⟩
abbrev s_augmented : Stmt := topS 25
abbrev n_augmented : List Str := ["order", "thing", "seen", "matched", "later"]
theorem sc_augmented : FnScope n_augmented ["order", "thing", "seen", "matched"] (defScope s_augmented) := ⟨rfl, rfl, rfl, by decide +kernel, rfl, by decide +kernel, by decide +kernel⟩
abbrev s_chains_of : Stmt := topS 26
abbrev n_chains_of : List Str := ["order", "matched", "thing", "nexts", "later", "found", "chain"]
theorem sc_chains_of : FnScope n_chains_of ["order"] (defScope s_chains_of) := ⟨rfl, rfl, rfl, by decide +kernel, rfl, by decide +kernel, by decide +kernel⟩
abbrev s_first_row_of : Stmt := topS 27
abbrev n_first_row_of : List Str := ["order", "row"]
theorem sc_first_row_of : FnScope n_first_row_of ["order"] (defScope s_first_row_of) := ⟨rfl, rfl, rfl, by decide +kernel, rfl, by decide +kernel, by decide +kernel⟩
abbrev s_row_behind : Stmt := topS 28
abbrev n_row_behind : List Str := ["order", "chain", "pairs", "later", "thing"]
theorem sc_row_behind : FnScope n_row_behind ["order", "chain"] (defScope s_row_behind) := ⟨rfl, rfl, rfl, by decide +kernel, rfl, by decide +kernel, by decide +kernel⟩
abbrev s_chain_rows : Stmt := topS 29
abbrev n_chain_rows : List Str := ["order", "chain"]
theorem sc_chain_rows : FnScope n_chain_rows ["order"] (defScope s_chain_rows) := ⟨rfl, rfl, rfl, by decide +kernel, rfl, by decide +kernel, by decide +kernel⟩
abbrev s_all_turns : Stmt := topS 31
abbrev n_all_turns : List Str := ["order", "found", "a", "b"]
theorem sc_all_turns : FnScope n_all_turns ["order"] (defScope s_all_turns) := ⟨rfl, rfl, rfl, by decide +kernel, rfl, by decide +kernel, by decide +kernel⟩
abbrev s_is_sharp : Stmt := topS 32
abbrev n_is_sharp : List Str := ["order", "a", "b", "c", "d"]
theorem sc_is_sharp : FnScope n_is_sharp ["order", "a", "b"] (defScope s_is_sharp) := ⟨rfl, rfl, rfl, by decide +kernel, rfl, by decide +kernel, by decide +kernel⟩
abbrev s_leads_on : Stmt := topS 33
abbrev n_leads_on : List Str := ["order", "one", "other"]
theorem sc_leads_on : FnScope n_leads_on ["order", "one", "other"] (defScope s_leads_on) := ⟨rfl, rfl, rfl, by decide +kernel, rfl, by decide +kernel, by decide +kernel⟩
abbrev s_rows_by : Stmt := topS 35
abbrev n_rows_by : List Str := ["points", "found", "side", "places", "point", "place"]
theorem sc_rows_by : FnScope n_rows_by ["points"] (defScope s_rows_by) := ⟨rfl, rfl, rfl, by decide +kernel, rfl, by decide +kernel, by decide +kernel⟩
abbrev s_forces : Stmt := topS 36
abbrev n_forces : List Str := ["some", "one", "other"]
theorem sc_forces : FnScope n_forces ["some", "one", "other"] (defScope s_forces) := ⟨rfl, rfl, rfl, by decide +kernel, rfl, by decide +kernel, by decide +kernel⟩
abbrev s_forced_of : Stmt := topS 37
abbrev n_forced_of : List Str := ["some", "turn", "other"]
theorem sc_forced_of : FnScope n_forced_of ["some", "turn"] (defScope s_forced_of) := ⟨rfl, rfl, rfl, by decide +kernel, rfl, by decide +kernel, by decide +kernel⟩
abbrev s_came_from : Stmt := topS 38
abbrev n_came_from : List Str := ["some", "start", "came", "row", "at", "other"]
theorem sc_came_from : FnScope n_came_from ["some", "start"] (defScope s_came_from) := ⟨rfl, rfl, rfl, by decide +kernel, rfl, by decide +kernel, by decide +kernel⟩
abbrev s_knot_of : Stmt := topS 39
abbrev n_knot_of : List Str := ["order", "some", "a", "b", "came", "knot"]
theorem sc_knot_of : FnScope n_knot_of ["order"] (defScope s_knot_of) := ⟨rfl, rfl, rfl, by decide +kernel, rfl, by decide +kernel, by decide +kernel⟩
abbrev s_chosen : Stmt := topS 40
abbrev n_chosen : List Str := ["order", "left", "found", "some", "a", "b"]
theorem sc_chosen : FnScope n_chosen ["order"] (defScope s_chosen) := ⟨rfl, rfl, rfl, by decide +kernel, rfl, by decide +kernel, by decide +kernel⟩
abbrev s_points_by : Stmt := topS 41
abbrev n_points_by : List Str := ["order", "some", "found", "thing", "less", "left", "above", "a", "b"]
theorem sc_points_by : FnScope n_points_by ["order", "some"] (defScope s_points_by) := ⟨rfl, rfl, rfl, by decide +kernel, rfl, by decide +kernel, by decide +kernel⟩
abbrev s_points_or_knot : Stmt := topS 42
abbrev n_points_or_knot : List Str := ["order", "knot"]
theorem sc_points_or_knot : FnScope n_points_or_knot ["order"] (defScope s_points_or_knot) := ⟨rfl, rfl, rfl, by decide +kernel, rfl, by decide +kernel, by decide +kernel⟩
abbrev s_two_rows : Stmt := topS 43
abbrev n_two_rows : List Str := ["order", "word", "found"]
theorem sc_two_rows : FnScope n_two_rows ["order"] (defScope s_two_rows) := ⟨rfl, rfl, rfl, by decide +kernel, rfl, by decide +kernel, by decide +kernel⟩
abbrev s_one_row : Stmt := topS 44
abbrev n_one_row : List Str := ["order"]
theorem sc_one_row : FnScope n_one_row ["order"] (defScope s_one_row) := ⟨rfl, rfl, rfl, by decide +kernel, rfl, by decide +kernel, by decide +kernel⟩
abbrev s_sharp_of : Stmt := topS 46
abbrev n_sharp_of : List Str := ["order", "a", "b"]
theorem sc_sharp_of : FnScope n_sharp_of ["order"] (defScope s_sharp_of) := ⟨rfl, rfl, rfl, by decide +kernel, rfl, by decide +kernel, by decide +kernel⟩
abbrev s_places_for : Stmt := topS 47
abbrev n_places_for : List Str := ["put", "turn", "place"]
theorem sc_places_for : FnScope n_places_for ["put", "turn"] (defScope s_places_for) := ⟨rfl, rfl, rfl, by decide +kernel, rfl, by decide +kernel, by decide +kernel⟩
abbrev s_with_turn : Stmt := topS 48
abbrev n_with_turn : List Str := ["many", "put", "place", "turn", "pairs"]
theorem sc_with_turn : FnScope n_with_turn ["many", "put", "place", "turn"] (defScope s_with_turn) := ⟨rfl, rfl, rfl, by decide +kernel, rfl, by decide +kernel, by decide +kernel⟩
abbrev s_hardest : Stmt := topS 49
abbrev n_hardest : List Str := ["put", "left", "best", "turn"]
theorem sc_hardest : FnScope n_hardest ["put", "left"] (defScope s_hardest) := ⟨rfl, rfl, rfl, by decide +kernel, rfl, by decide +kernel, by decide +kernel⟩
abbrev s_put_all : Stmt := topS 50
abbrev n_put_all : List Str := ["many", "put", "left", "turn", "others", "place", "found", "other"]
theorem sc_put_all : FnScope n_put_all ["many", "put", "left"] (defScope s_put_all) := ⟨rfl, rfl, rfl, by decide +kernel, rfl, by decide +kernel, by decide +kernel⟩
abbrev s_rows_by_search : Stmt := topS 51
abbrev n_rows_by_search : List Str := ["order", "count", "found", "pairs"]
theorem sc_rows_by_search : FnScope n_rows_by_search ["order", "count"] (defScope s_rows_by_search) := ⟨rfl, rfl, rfl, by decide +kernel, rfl, by decide +kernel, by decide +kernel⟩
abbrev s_fewest_rows : Stmt := topS 52
abbrev n_fewest_rows : List Str := ["order", "found", "count"]
theorem sc_fewest_rows : FnScope n_fewest_rows ["order"] (defScope s_fewest_rows) := ⟨rfl, rfl, rfl, by decide +kernel, rfl, by decide +kernel, by decide +kernel⟩
abbrev s_fewest : Stmt := topS 53
abbrev n_fewest : List Str := ["order"]
theorem sc_fewest : FnScope n_fewest ["order"] (defScope s_fewest) := ⟨rfl, rfl, rfl, by decide +kernel, rfl, by decide +kernel, by decide +kernel⟩
abbrev s_are_crossing : Stmt := topS 54
abbrev n_are_crossing : List Str := ["order", "one", "other"]
theorem sc_are_crossing : FnScope n_are_crossing ["order", "one", "other"] (defScope s_are_crossing) := ⟨rfl, rfl, rfl, by decide +kernel, rfl, by decide +kernel, by decide +kernel⟩
abbrev s_most_from : Stmt := topS 55
abbrev n_most_from : List Str := ["order", "found", "left", "best", "at", "turn", "later", "longer", "other"]
theorem sc_most_from : FnScope n_most_from ["order", "found", "left"] (defScope s_most_from) := ⟨rfl, rfl, rfl, by decide +kernel, rfl, by decide +kernel, by decide +kernel⟩
abbrev s_most_cross : Stmt := topS 56
abbrev n_most_cross : List Str := ["order"]
theorem sc_most_cross : FnScope n_most_cross ["order"] (defScope s_most_cross) := ⟨rfl, rfl, rfl, by decide +kernel, rfl, by decide +kernel, by decide +kernel⟩
abbrev s_law_box : Stmt := topS 58
abbrev n_law_box : List Str := ["script", "k", "here", "number", "j", "part"]
theorem sc_law_box : FnScope n_law_box ["script", "k"] (defScope s_law_box) := ⟨rfl, rfl, rfl, by decide +kernel, rfl, by decide +kernel, by decide +kernel⟩
abbrev s_law_take : Stmt := topS 59
abbrev n_law_take : List Str := ["box", "many", "left", "digit"]
theorem sc_law_take : FnScope n_law_take ["box", "many"] (defScope s_law_take) := ⟨rfl, rfl, rfl, by decide +kernel, rfl, by decide +kernel, by decide +kernel⟩
abbrev s_law_shuffled : Stmt := topS 60
abbrev n_law_shuffled : List Str := ["box", "some", "left", "found"]
theorem sc_law_shuffled : FnScope n_law_shuffled ["box", "some"] (defScope s_law_shuffled) := ⟨rfl, rfl, rfl, by decide +kernel, rfl, by decide +kernel, by decide +kernel⟩
abbrev s_law_told : Stmt := topS 61
abbrev n_law_told : List Str := ["many", "rows", "found", "a", "b", "row"]
theorem sc_law_told : FnScope n_law_told ["many", "rows"] (defScope s_law_told) := ⟨rfl, rfl, rfl, by decide +kernel, rfl, by decide +kernel, by decide +kernel⟩
abbrev s_law_order : Stmt := topS 62
abbrev n_law_order : List Str := ["box", "most", "many", "rows", "lows", "pairs", "k", "turn", "j"]
theorem sc_law_order : FnScope n_law_order ["box", "most"] (defScope s_law_order) := ⟨rfl, rfl, rfl, by decide +kernel, rfl, by decide +kernel, by decide +kernel⟩
abbrev s_law_anew : Stmt := topS 63
abbrev n_law_anew : List Str := ["order", "names", "a", "b"]
theorem sc_law_anew : FnScope n_law_anew ["order", "names"] (defScope s_law_anew) := ⟨rfl, rfl, rfl, by decide +kernel, rfl, by decide +kernel, by decide +kernel⟩
abbrev s_law : Stmt := topS 64
abbrev n_law : List Str := ["script", "k", "box", "order", "few", "names", "rows", "many", "drawn", "turn"]
theorem sc_law : FnScope n_law ["script"] (defScope s_law) := ⟨rfl, rfl, rfl, by decide +kernel, rfl, by decide +kernel, by decide +kernel⟩
structure Txt (K : PySem.W.Frag) (mg : Str → Option Value) : Prop where
  d_is_whole : Dfn K mg "is_whole" s_is_whole ["thing"]
  d_is_many : Dfn K mg "is_many" s_is_many ["thing"]
  d_is_pair : Dfn K mg "is_pair" s_is_pair ["many", "thing"]
  d_follows : Dfn K mg "follows" s_follows ["pairs"]
  d_is_order : Dfn K mg "is_order" s_is_order ["thing"]
  d_need_order : Dfn K mg "need_order" s_need_order ["order"]
  d_closed : Dfn K mg "closed" s_closed ["many", "pairs"]
  d_are_apart : Dfn K mg "are_apart" s_are_apart ["order", "a", "b"]
  d_turned : Dfn K mg "turned" s_turned ["order"]
  d_is_tuple_of_all : Dfn K mg "is_tuple_of_all" s_is_tuple_of_all ["many", "thing"]
  d_stands_ahead : Dfn K mg "stands_ahead" s_stands_ahead ["row", "a", "b"]
  d_is_row_of : Dfn K mg "is_row_of" s_is_row_of ["thing", "order"]
  d_next_things : Dfn K mg "next_things" s_next_things ["order", "gone"]
  d_told_pairs : Dfn K mg "told_pairs" s_told_pairs ["many", "rows"]
  d_are_rows : Dfn K mg "are_rows" s_are_rows ["thing", "order"]
  d_tell : Dfn K mg "tell" s_tell ["thing", "order"]
  d_apart_lists : Dfn K mg "apart_lists" s_apart_lists ["order"]
  d_most_apart : Dfn K mg "most_apart" s_most_apart ["order"]
  d_augmented : Dfn K mg "augmented" s_augmented ["order", "thing", "seen", "matched"]
  d_chains_of : Dfn K mg "chains_of" s_chains_of ["order"]
  d_first_row_of : Dfn K mg "first_row_of" s_first_row_of ["order"]
  d_row_behind : Dfn K mg "row_behind" s_row_behind ["order", "chain"]
  d_chain_rows : Dfn K mg "chain_rows" s_chain_rows ["order"]
  d_all_turns : Dfn K mg "all_turns" s_all_turns ["order"]
  d_is_sharp : Dfn K mg "is_sharp" s_is_sharp ["order", "a", "b"]
  d_leads_on : Dfn K mg "leads_on" s_leads_on ["order", "one", "other"]
  d_rows_by : Dfn K mg "rows_by" s_rows_by ["points"]
  d_forces : Dfn K mg "forces" s_forces ["some", "one", "other"]
  d_forced_of : Dfn K mg "forced_of" s_forced_of ["some", "turn"]
  d_came_from : Dfn K mg "came_from" s_came_from ["some", "start"]
  d_knot_of : Dfn K mg "knot_of" s_knot_of ["order"]
  d_chosen : Dfn K mg "chosen" s_chosen ["order"]
  d_points_by : Dfn K mg "points_by" s_points_by ["order", "some"]
  d_points_or_knot : Dfn K mg "points_or_knot" s_points_or_knot ["order"]
  d_two_rows : Dfn K mg "two_rows" s_two_rows ["order"]
  d_one_row : Dfn K mg "one_row" s_one_row ["order"]
  d_sharp_of : Dfn K mg "sharp_of" s_sharp_of ["order"]
  d_places_for : Dfn K mg "places_for" s_places_for ["put", "turn"]
  d_with_turn : Dfn K mg "with_turn" s_with_turn ["many", "put", "place", "turn"]
  d_hardest : Dfn K mg "hardest" s_hardest ["put", "left"]
  d_put_all : Dfn K mg "put_all" s_put_all ["many", "put", "left"]
  d_rows_by_search : Dfn K mg "rows_by_search" s_rows_by_search ["order", "count"]
  d_fewest_rows : Dfn K mg "fewest_rows" s_fewest_rows ["order"]
  d_fewest : Dfn K mg "fewest" s_fewest ["order"]
  d_are_crossing : Dfn K mg "are_crossing" s_are_crossing ["order", "one", "other"]
  d_most_from : Dfn K mg "most_from" s_most_from ["order", "found", "left"]
  d_most_cross : Dfn K mg "most_cross" s_most_cross ["order"]
  d_law_box : Dfn K mg "_law_box" s_law_box ["script", "k"]
  d_law_take : Dfn K mg "_law_take" s_law_take ["box", "many"]
  d_law_shuffled : Dfn K mg "_law_shuffled" s_law_shuffled ["box", "some"]
  d_law_told : Dfn K mg "_law_told" s_law_told ["many", "rows"]
  d_law_order : Dfn K mg "_law_order" s_law_order ["box", "most"]
  d_law_anew : Dfn K mg "_law_anew" s_law_anew ["order", "names"]
  d_law : Dfn K mg "law" s_law ["script"]
  b_len : mg "len" = none
  b_all : mg "all" = none
  b_max : mg "max" = none
  b_isinstance : mg "isinstance" = none
  b_divmod : mg "divmod" = none
  b_tuple : mg "tuple" = none
  b_list : mg "list" = none
  b_set : mg "set" = none
  b_sorted : mg "sorted" = none
  b_range : mg "range" = none
  b_enumerate : mg "enumerate" = none
  b_int : mg "int" = none
  b_bool : mg "bool" = none
  most : ∃ t, mg "MOST_THINGS" = some (.int 8 t)
end RO
/-! expressions whose value is known -/
namespace RO
open PySem PySem.Spec PyProof.Rows L2
abbrev one (d : PyData) : Sl → Prop := fun s => s = .dat d
def Wd (te : TE) (ss : List Sl) (d : PyData) : Prop := W te ss fun x => x = d
def WTd (t : TT) (ss : List Sl) (b : Bool) : Prop := WT t ss fun x => x = b
def WId (wi : TI) (ss : List Sl) (ds : List PyData) : Prop := WI wi ss fun x => x = ds
section
variable {K : PySem.W.Frag} {ss : List Sl} {P : PyData → Prop} {PB : Bool → Prop} {ta tb te tc : TE} {t u : TT} {A : TA} {d : PyData} {i : Nat} {a b c : Nat} {x y z : Bool} {p q : Pr}
theorem Wd.to (h : Wd te ss d) (k : P d) : W te ss P := h.imp fun _ e => by rw [e]; exact k
theorem WTd.to (h : WTd t ss x) (k : PB x) : WT t ss PB := h.imp fun _ e => by rw [e]; exact k
theorem Wd.cast {d' : PyData} (h : Wd te ss d) (e : d = d') : Wd te ss d' := e ▸ h
theorem V_var (h : ss[i]? = some (.dat d)) : Wd (tVar i) ss d := W_var h rfl
theorem V_nat (k : Nat) : Wd (tC (.int (k : Int))) ss (eN k) := W_int rfl
theorem V_int (k : Int) : Wd (tC (.int k)) ss (.int k) := W_int rfl
theorem V_bl : Wd (tC (.bl x)) ss (.bool x) := W_bl rfl
theorem V_non : Wd (tC .non) ss .none := W_non rfl
theorem V_str {s : Str} : Wd (tC (.str s)) ss (.str s) := W_str rfl
/-! comparisons -/
theorem V_eqG {d e : PyData} (ha : Wd ta ss d) (hb : Wd tb ss e) (h1 : SeqAt.shaped d = true) (h2 : SeqAt.shaped e = true) : Wd (tOp (rEqD K) ta tb) ss (.bool (PyData.eqv d e)) := W_eq (ha.to (hb.to ⟨h1, h2, rfl⟩))
theorem V_neG {d e : PyData} (ha : Wd ta ss d) (hb : Wd tb ss e) (h1 : SeqAt.shaped d = true) (h2 : SeqAt.shaped e = true) : Wd (tOp (rNeD K) ta tb) ss (.bool (!PyData.eqv d e)) := W_ne (ha.to (hb.to ⟨h1, h2, rfl⟩))
theorem V_eqN (ha : Wd ta ss (eN a)) (hb : Wd tb ss (eN b)) : Wd (tOp (rEqD K) ta tb) ss (.bool (decide (a = b))) := (V_eqG ha hb (DL_eN a).sh (DL_eN b).sh).cast (by rw [eqv_eN])
theorem V_neN (ha : Wd ta ss (eN a)) (hb : Wd tb ss (eN b)) : Wd (tOp (rNeD K) ta tb) ss (.bool (!decide (a = b))) := (V_neG ha hb (DL_eN a).sh (DL_eN b).sh).cast (by rw [eqv_eN])
theorem V_eqP (ha : Wd ta ss (eP p)) (hb : Wd tb ss (eP q)) : Wd (tOp (rEqD K) ta tb) ss (.bool (decide (p = q))) := (V_eqG ha hb (DL_eP p).sh (DL_eP q).sh).cast (by rw [eqv_eP])
theorem V_neP (ha : Wd ta ss (eP p)) (hb : Wd tb ss (eP q)) : Wd (tOp (rNeD K) ta tb) ss (.bool (!decide (p = q))) := (V_neG ha hb (DL_eP p).sh (DL_eP q).sh).cast (by rw [eqv_eP])
theorem V_eqLP {l m : List Pr} (ha : Wd ta ss (eLP l)) (hb : Wd tb ss (eLP m)) : Wd (tOp (rEqD K) ta tb) ss (.bool (decide (l = m))) := (V_eqG ha hb (DL_eLP l).sh (DL_eLP m).sh).cast (by rw [eqv_eLP])
theorem V_neLP {l m : List Pr} (ha : Wd ta ss (eLP l)) (hb : Wd tb ss (eLP m)) : Wd (tOp (rNeD K) ta tb) ss (.bool (!decide (l = m))) := (V_neG ha hb (DL_eLP l).sh (DL_eLP m).sh).cast (by rw [eqv_eLP])
theorem V_eqTP {l m : List Pr} (ha : Wd ta ss (eTP l)) (hb : Wd tb ss (eTP m)) : Wd (tOp (rEqD K) ta tb) ss (.bool (decide (l = m))) := (V_eqG ha hb (DL_eTP l).sh (DL_eTP m).sh).cast (by rw [eqv_eTP])
theorem V_neTP {l m : List Pr} (ha : Wd ta ss (eTP l)) (hb : Wd tb ss (eTP m)) : Wd (tOp (rNeD K) ta tb) ss (.bool (!decide (l = m))) := (V_neG ha hb (DL_eTP l).sh (DL_eTP m).sh).cast (by rw [eqv_eTP])
theorem V_eqLN {l m : List Nat} (ha : Wd ta ss (eLN l)) (hb : Wd tb ss (eLN m)) : Wd (tOp (rEqD K) ta tb) ss (.bool (decide (l = m))) := (V_eqG ha hb (DL_eLN l).sh (DL_eLN m).sh).cast (by rw [eqv_eLN])
theorem V_eqB (ha : Wd ta ss (.bool x)) (hb : Wd tb ss (.bool y)) : Wd (tOp (rEqD K) ta tb) ss (.bool (x == y)) := (V_eqG ha hb (DL_bool x).sh (DL_bool y).sh).cast (by rw [eqv_bool])
theorem V_neB (ha : Wd ta ss (.bool x)) (hb : Wd tb ss (.bool y)) : Wd (tOp (rNeD K) ta tb) ss (.bool (!(x == y))) := (V_neG ha hb (DL_bool x).sh (DL_bool y).sh).cast (by rw [eqv_bool])
theorem V_ltN (ha : Wd ta ss (eN a)) (hb : Wd tb ss (eN b)) : Wd (tOp (rI0 fun i j => .bl (decide (i < j))) ta tb) ss (.bool (decide (a < b))) := W_ib (ha.to (hb.to ⟨_, _, rfl, rfl, by congr 1; exact decide_eq_decide.mpr (by omega)⟩))
theorem V_leN (ha : Wd ta ss (eN a)) (hb : Wd tb ss (eN b)) : Wd (tOp (rI0 fun i j => .bl (decide (i ≤ j))) ta tb) ss (.bool (decide (a ≤ b))) := W_ib (ha.to (hb.to ⟨_, _, rfl, rfl, by congr 1; exact decide_eq_decide.mpr (by omega)⟩))
theorem V_gtN (ha : Wd ta ss (eN a)) (hb : Wd tb ss (eN b)) : Wd (tOp (rI0 fun i j => .bl (decide (j < i))) ta tb) ss (.bool (decide (b < a))) := W_ib (ha.to (hb.to ⟨_, _, rfl, rfl, by congr 1; exact decide_eq_decide.mpr (by omega)⟩))
theorem V_chain_lele (ha : Wd ta ss (eN a)) (hb : Wd tb ss (eN b)) (hc : Wd tc ss (eN c)) : Wd (tChain (rI0 fun i j => .bl (decide (i ≤ j))) (rI0 fun i j => .bl (decide (i ≤ j))) ta tb tc) ss (.bool (decide (a ≤ b) && decide (b ≤ c))) :=
  W_chain (ha.to (hb.to ⟨_, _, rfl, rfl, by
    by_cases h : a ≤ b
    · rw [if_pos (by simp; omega)]
      refine hc.to ⟨_, rfl, ?_⟩
      congr 1
      rw [decide_eq_true h, Bool.true_and]
      exact decide_eq_decide.mpr (by omega)
    · rw [if_neg (by simp; omega), decide_eq_false h]; rfl⟩))
theorem V_chain_lelt (ha : Wd ta ss (eN a)) (hb : Wd tb ss (eN b)) (hc : Wd tc ss (eN c)) : Wd (tChain (rI0 fun i j => .bl (decide (i ≤ j))) (rI0 fun i j => .bl (decide (i < j))) ta tb tc) ss (.bool (decide (a ≤ b) && decide (b < c))) :=
  W_chain (ha.to (hb.to ⟨_, _, rfl, rfl, by
    by_cases h : a ≤ b
    · rw [if_pos (by simp; omega)]
      refine hc.to ⟨_, rfl, ?_⟩
      congr 1
      rw [decide_eq_true h, Bool.true_and]
      exact decide_eq_decide.mpr (by omega)
    · rw [if_neg (by simp; omega), decide_eq_false h]; rfl⟩))
theorem V_inTP {l : List Pr} (ha : Wd ta ss (eP p)) (hb : Wd tb ss (eTP l)) : Wd (tOp (rInQ K false) ta tb) ss (.bool (decide (p ∈ l))) := W_in (ha.to (hb.to ⟨_, .inr rfl, (DL_eP p).sh, (DL_eLP l).sh, by rw [any_eP]⟩))
theorem V_inLP {l : List Pr} (ha : Wd ta ss (eP p)) (hb : Wd tb ss (eLP l)) : Wd (tOp (rInQ K false) ta tb) ss (.bool (decide (p ∈ l))) := W_in (ha.to (hb.to ⟨_, .inl rfl, (DL_eP p).sh, (DL_eLP l).sh, by rw [any_eP]⟩))
theorem V_inLN {l : List Nat} (ha : Wd ta ss (eN a)) (hb : Wd tb ss (eLN l)) : Wd (tOp (rInQ K false) ta tb) ss (.bool (decide (a ∈ l))) := W_in (ha.to (hb.to ⟨_, .inl rfl, (DL_eN a).sh, (DL_eLN l).sh, by rw [any_eN]⟩))
theorem V_ninTP {l : List Pr} (ha : Wd ta ss (eP p)) (hb : Wd tb ss (eTP l)) : Wd (tOp (rInQ K true) ta tb) ss (.bool (!decide (p ∈ l))) := W_nin (ha.to (hb.to ⟨_, .inr rfl, (DL_eP p).sh, (DL_eLP l).sh, by rw [any_eP]⟩))
theorem V_ninLP {l : List Pr} (ha : Wd ta ss (eP p)) (hb : Wd tb ss (eLP l)) : Wd (tOp (rInQ K true) ta tb) ss (.bool (!decide (p ∈ l))) := W_nin (ha.to (hb.to ⟨_, .inl rfl, (DL_eP p).sh, (DL_eLP l).sh, by rw [any_eP]⟩))
theorem V_ninLN {l : List Nat} (ha : Wd ta ss (eN a)) (hb : Wd tb ss (eLN l)) : Wd (tOp (rInQ K true) ta tb) ss (.bool (!decide (a ∈ l))) := W_nin (ha.to (hb.to ⟨_, .inl rfl, (DL_eN a).sh, (DL_eLN l).sh, by rw [any_eN]⟩))
theorem V_isN (h : Wd te ss d) : Wd (tIsN te) ss (.bool (isND d)) := W_isN (h.to rfl)
theorem V_notN (h : Wd te ss d) : Wd (tNotN te) ss (.bool (!isND d)) := W_notN (h.to rfl)
/-! truth -/
theorem V_and (ha : Wd ta ss (.bool x)) (hb : x = true → Wd tb ss (.bool y)) : Wd (tAndV ta tb) ss (.bool (x && y)) := W_and (ha.to ⟨x, rfl, by
  cases x with
  | true => exact iteT (hb rfl)
  | false => exact iteF rfl⟩)
theorem V_or (ha : Wd ta ss (.bool x)) (hb : x = false → Wd tb ss (.bool y)) : Wd (tOrV ta tb) ss (.bool (x || y)) := W_or (ha.to ⟨x, rfl, by
  cases x with
  | true => exact iteT rfl
  | false => exact iteF (hb rfl)⟩)
theorem V_not (ha : Wd ta ss (.bool x)) : Wd (tNotV ta) ss (.bool (!x)) := W_not (ha.to ⟨x, rfl, rfl⟩)
theorem VT_B (h : Wd te ss (.bool x)) : WTd (tB te) ss x := WT_B (h.to ⟨x, rfl, rfl⟩)
theorem VT_t (h : Wd te ss (.bool x)) : WTd (tTest te) ss x := WT_t (h.to ⟨x, rfl, rfl⟩)
theorem VT_and (ha : WTd t ss x) (hb : x = true → WTd u ss y) : WTd (tAnd t u) ss (x && y) := WT_and (ha.to (by
  cases x with
  | true => exact iteT (hb rfl)
  | false => exact iteF rfl))
theorem VT_or (ha : WTd t ss x) (hb : x = false → WTd u ss y) : WTd (tOr t u) ss (x || y) := WT_or (ha.to (by
  cases x with
  | true => exact iteT rfl
  | false => exact iteF (hb rfl)))
theorem VT_not (ha : WTd t ss x) : WTd (tNot t) ss (!x) := WT_not (ha.to rfl)
theorem VT_fz (h : WTd t (ss.map fz) x) : WTd t ss x := WT_fz h
theorem V_fz (h : Wd te (ss.map fz) d) (hf : flat d = true := by rfl) : Wd te ss d := W_fz (h.to ⟨hf, rfl⟩)
/-! arithmetic, parts, displays -/
theorem V_addN (ha : Wd ta ss (eN a)) (hb : Wd tb ss (eN b)) : Wd (tOp (rI0 fun i j => .int (i + j)) ta tb) ss (eN (a + b)) := W_ii (ha.to (hb.to ⟨_, _, rfl, rfl, by show PyData.int _ = .int _; congr 1⟩))
theorem V_subN (ha : Wd ta ss (eN a)) (hb : Wd tb ss (eN b)) (h : b ≤ a) : Wd (tOp (rI0 fun i j => .int (i - j)) ta tb) ss (eN (a - b)) := W_ii (ha.to (hb.to ⟨_, _, rfl, rfl, by show PyData.int _ = .int _; congr 1; omega⟩))
theorem V_o0 {n : Nat} {R : Rl} (h : Wd te ss (eO n R)) : Wd (tOp (rIxT K) te (tC (.int 0))) ss (eN n) := W_ixT (h.to (W_int ⟨_, 0, _, rfl, rfl, rfl, rfl⟩))
theorem V_o1 {n : Nat} {R : Rl} (h : Wd te ss (eO n R)) : Wd (tOp (rIxT K) te (tC (.int 1))) ss (eTP (prs n R)) := W_ixT (h.to (W_int ⟨_, 1, _, rfl, rfl, rfl, rfl⟩))
theorem V_p0 (h : Wd te ss (eP p)) : Wd (tOp (rIxT K) te (tC (.int 0))) ss (eN p.1) := W_ixT (h.to (W_int ⟨_, 0, _, rfl, rfl, rfl, rfl⟩))
theorem V_p1 (h : Wd te ss (eP p)) : Wd (tOp (rIxT K) te (tC (.int 1))) ss (eN p.2) := W_ixT (h.to (W_int ⟨_, 1, _, rfl, rfl, rfl, rfl⟩))
theorem V_ixL {α : Type} {f : α → PyData} {l : List α} {j : Nat} {v : α} (h : Wd ta ss (.list (l.map f))) (hi : Wd tb ss (eN j)) (hj : l[j]? = some v) : Wd (tOp (rIxL K) ta tb) ss (f v) := W_ixL (h.to (hi.to ⟨_, j, _, rfl, rfl, by rw [List.getElem?_map, hj]; rfl, rfl⟩))
theorem V_ixT {α : Type} {f : α → PyData} {l : List α} {j : Nat} {v : α} (h : Wd ta ss (.tuple (l.map f))) (hi : Wd tb ss (eN j)) (hj : l[j]? = some v) : Wd (tOp (rIxT K) ta tb) ss (f v) := W_ixT (h.to (hi.to ⟨_, j, _, rfl, rfl, by rw [List.getElem?_map, hj]; rfl, rfl⟩))
theorem V_ixLast {α : Type} {f : α → PyData} {l : List α} {v : α} (h : Wd ta ss (.list (l.map f))) (hj : l.getLast? = some v) : Wd (tOp (rIxL K) ta (tUn (rU fun i => .int (-i)) (tC (.int 1)))) ss (f v) := by
  have e : l = l.dropLast ++ [v] := by
    rw [List.getLast?_eq_some_iff] at hj
    obtain ⟨ys, rfl⟩ := hj
    simp
  refine W_ixLast (h.to ?_)
  have : Wd (tUn (rU fun i => .int (-i)) (tC (.int 1))) ss (.int (-1)) := fun F H nw mt σ e S Q q => ⟨1, rfl, q _ F H _ rfl (Gr.refl e) (.int _)⟩
  refine this.to ⟨l.dropLast.map f, f v, ?_, rfl, rfl⟩
  rw [← List.map_singleton, ← List.map_append, ← e]
theorem V_pair (ha : Wd ta ss (eN a)) (hb : Wd tb ss (eN b)) : Wd (tTup (tCons ta (tCons tb tNil))) ss (eP (a, b)) := W_tup (WA_cons (ha.to (WA_cons (hb.to (WA_nil ⟨by show 2 ≤ 100000; omega, rfl⟩)))))
theorem V_tup2 {d e : PyData} (ha : Wd ta ss d) (hb : Wd tb ss e) : Wd (tTup (tCons ta (tCons tb tNil))) ss (.tuple [d, e]) := W_tup (WA_cons (ha.to (WA_cons (hb.to (WA_nil ⟨by show 2 ≤ 100000; omega, rfl⟩)))))
theorem V_order {n : Nat} {R : Rl} (ha : Wd ta ss (eN n)) (hb : Wd tb ss (eTP (prs n R))) : Wd (tTup (tCons ta (tCons tb tNil))) ss (eO n R) := V_tup2 ha hb
theorem V_lst0 {α : Type} {f : α → PyData} : Wd (tLst tNil) ss (.list (([] : List α).map f)) := W_lst (WA_nil ⟨by show 0 ≤ 100000; omega, rfl⟩)
theorem V_lst1 {α : Type} {f : α → PyData} {v : α} (h : Wd ta ss (f v)) : Wd (tLst (tCons ta tNil)) ss (.list ([v].map f)) := W_lst (WA_cons (h.to (WA_nil ⟨by show 1 ≤ 100000; omega, rfl⟩)))
theorem V_cat {α : Type} {f : α → PyData} {l m : List α} (ha : Wd ta ss (.list (l.map f))) (hb : Wd tb ss (.list (m.map f))) (hl : l.length + m.length ≤ 100000) : Wd (tOp rCat ta tb) ss (.list ((l ++ m).map f)) :=
  W_cat (ha.to (hb.to ⟨_, _, rfl, rfl, by rw [List.length_map, List.length_map]; exact hl, by rw [List.map_append]⟩))
theorem V_rep {α : Type} {f : α → PyData} {v : α} {k : Nat} (ha : Wd ta ss (.list ([v].map f))) (hb : Wd tb ss (eN k)) (hk : k ≤ 1000) : Wd (tOp rRep ta tb) ss (.list ((List.replicate k v).map f)) :=
  W_rep (ha.to (hb.to ⟨f v, k, rfl, rfl, hk, by rw [List.map_replicate]⟩))
theorem V_drop {α : Type} {f : α → PyData} {l : List α} {k : Nat} (h : Wd te ss (.list (l.map f))) (hi : Wd ta ss (eN k)) (hk : k ≤ l.length) : Wd (tSl (rSlL K) te (tPart ta) tNoPart) ss (.list ((l.drop k).map f)) :=
  W_sl (h.to (WO_some (hi.to ⟨_, rfl, WO_none ⟨_, rfl, by rw [cutD_from _ _ (by rw [List.length_map]; exact hk), List.map_drop]⟩⟩)))
theorem V_take {α : Type} {f : α → PyData} {l : List α} {k : Nat} (h : Wd te ss (.list (l.map f))) (hi : Wd ta ss (eN k)) (hk : k ≤ l.length) : Wd (tSl (rSlL K) te tNoPart (tPart ta)) ss (.list ((l.take k).map f)) :=
  W_sl (h.to (WO_none (WO_some (hi.to ⟨_, rfl, ⟨_, rfl, by rw [cutD_to _ _ (by rw [List.length_map]; exact hk), List.map_take]⟩⟩))))
/-! built-ins -/
theorem V_lenL {α : Type} {f : α → PyData} {l : List α} (h : Wd te ss (.list (l.map f))) : Wd (tCB (rLenQ K) (tCons te tNil)) ss (eN l.length) := W_len (h.to ⟨_, .inl rfl, by rw [List.length_map]⟩)
theorem V_lenT {α : Type} {f : α → PyData} {l : List α} (h : Wd te ss (.tuple (l.map f))) : Wd (tCB (rLenQ K) (tCons te tNil)) ss (eN l.length) := W_len (h.to ⟨_, .inr rfl, by rw [List.length_map]⟩)
theorem V_listL {α : Type} {f : α → PyData} {l : List α} (h : Wd te ss (.list (l.map f))) : Wd (tCB (rListQ K) (tCons te tNil)) ss (.list (l.map f)) := W_list (h.to ⟨_, .inl rfl, rfl⟩)
theorem V_listT {α : Type} {f : α → PyData} {l : List α} (h : Wd te ss (.tuple (l.map f))) : Wd (tCB (rListQ K) (tCons te tNil)) ss (.list (l.map f)) := W_list (h.to ⟨_, .inr rfl, rfl⟩)
theorem V_tuple {α : Type} {f : α → PyData} {l : List α} (h : Wd te ss (.list (l.map f))) : Wd (tCB (fun xs H Q => rTupQ K xs H Q) (tCons te tNil)) ss (.tuple (l.map f)) := W_tuple (h.to ⟨_, rfl, rfl⟩)
theorem V_all {α : Type} {l : List α} {f : α → Bool} (h : Wd te ss (.list (l.map fun v => .bool (f v)))) : Wd (tCB (rAll K) (tCons te tNil)) ss (.bool (l.all f)) := W_all (h.to ⟨l.map f, by rw [List.map_map]; rfl, by rw [List.all_map]; rfl⟩)
theorem V_max2 (ha : Wd ta ss (eN a)) (hb : Wd tb ss (eN b)) : Wd (tCB rMax2Q (tCons ta (tCons tb tNil))) ss (eN (max a b)) := W_max2 (ha.to (hb.to ⟨_, _, rfl, rfl, by
  show PyData.int _ = .int _
  congr 1
  by_cases h : (b : Int) > a
  · rw [if_pos h]; omega
  · rw [if_neg h]; omega⟩))
theorem V_isi {T : String} (h : Wd te ss d) (hb : kitB (tyD d) T = some x) : Wd (tCB (rIsi K) (tCons te (tCons (tC (.ty T)) tNil))) ss (.bool x) := W_isi (h.to ⟨x, hb, rfl⟩)
theorem V_listRg {n : Nat} (h : Wd te ss (eN n)) (hn : n ≤ 1000) : Wd (tLstRg (tRg1 te)) ss (eLN (List.range n)) := W_listRg (h.to ⟨n, rfl, hn, rfl⟩)
theorem V_lenP {ds : List PyData} (h : Wd te ss (.tuple ds)) : Wd (tCB (rLenQ K) (tCons te tNil)) ss (eN ds.length) := W_len (h.to ⟨_, .inr rfl, rfl⟩)
theorem V_lenR {l : List Nat} (h : Wd te ss (eTN l)) : Wd (tCB (rLenQ K) (tCons te tNil)) ss (eN l.length) := W_lenR (h.to ⟨_, rfl, rfl⟩)
theorem V_ixR {l : List Nat} {j n : Nat} (h : Wd ta ss (eTN l)) (hi : Wd tb ss (eN j)) (hj : l[j]? = some n) : Wd (tOp (rIxT K) ta tb) ss (eN n) := W_ixR (h.to (hi.to ⟨l, j, n, rfl, rfl, hj, rfl⟩))
theorem V_tupleR {l : List Nat} (h : Wd te ss (eLN l)) : Wd (tCB (rTupR K) (tCons te tNil)) ss (eTN l) := W_tupleR (h.to ⟨_, rfl, rfl⟩)
theorem VI_row {l : List Nat} (h : Wd te ss (eTN l)) : WId (iTup K te) ss (l.map eN) := WI_row (h.to ⟨l, rfl, rfl⟩)
/-! walks, comprehensions -/
theorem VI_list {ds : List PyData} (h : Wd te ss (.list ds)) : WId (iList K te) ss ds := WI_list (h.to ⟨ds, rfl, rfl⟩)
theorem VI_tup {ds : List PyData} (h : Wd te ss (.tuple ds)) : WId (iTup K te) ss ds := WI_tup (h.to ⟨ds, rfl, rfl⟩)
theorem VI_rng {n : Nat} (h : Wd te ss (eN n)) (hn : n ≤ 100000) : WId (iRng1 (tCons te tNil)) ss ((List.range n).map eN) := WI_rng1 (h.to ⟨n, rfl, hn, rfl⟩)
theorem VI_enum {ds : List PyData} (h : Wd te ss (.list ds)) : WId (iEnum K (tCons te tNil)) ss (enumD ds) := WI_enum (h.to ⟨ds, rfl, rfl⟩)
theorem WId.to {wi : TI} {ds : List PyData} {PL : List PyData → Prop} (h : WId wi ss ds) (k : PL ds) : WI wi ss PL := fun F H nw mt σ e S R r => h F H nw mt σ e S R fun J F2 H2 ds' e' g it => r J F2 H2 ds' (by rw [e']; exact k) g it
theorem V_lcM1 {α : Type} {enc : α → PyData} {l : List α} {gg : α → PyData} {wi : TI} {j : Nat} (hi : WId wi ss (l.map enc)) (hl : l.length ≤ 100000) (turn : ∀ v ∈ l, Wd te ((wipeS ss [j]).set j (.dat (enc v))) (gg v)) : Wd (tLc wi (gName j) tYes te [j]) ss (.list (l.map gg)) :=
  W_lcM enc gg (hi.to ⟨l, rfl, hl, fun v hv => WG_name (turn v hv), rfl⟩)
theorem V_lcF1 {α : Type} {enc : α → PyData} {l : List α} {pp : α → Bool} {gg : α → PyData} {wi : TI} {j : Nat} {tt : TT} (hi : WId wi ss (l.map enc)) (hl : l.length ≤ 100000) (test : ∀ v ∈ l, WTd tt ((wipeS ss [j]).set j (.dat (enc v))) (pp v))
    (turn : ∀ v ∈ l, pp v = true → Wd te ((wipeS ss [j]).set j (.dat (enc v))) (gg v)) : Wd (tLc wi (gName j) tt te [j]) ss (.list ((l.filter pp).map gg)) :=
  W_lcF enc pp gg (hi.to ⟨l, rfl, hl, fun v hv => WG_name ((test v hv).to ⟨rfl, turn v hv⟩), rfl⟩)
theorem V_lcM2 {l : List Pr} {gg : Pr → PyData} {wi : TI} {i j : Nat} (hi : WId wi ss (l.map eP)) (hl : l.length ≤ 100000) (turn : ∀ v ∈ l, Wd te (((wipeS ss [i, j]).set i (.dat (eN v.1))).set j (.dat (eN v.2))) (gg v)) :
    Wd (tLc wi (gTup K 2 (gCons (gName i) (gCons (gName j) gNil))) tYes te [i, j]) ss (.list (l.map gg)) :=
  W_lcM eP gg (hi.to ⟨l, rfl, hl, fun v hv => WG_tup ⟨_, _, rfl, turn v hv⟩, rfl⟩)
theorem V_lcF2 {l : List Pr} {pp : Pr → Bool} {gg : Pr → PyData} {wi : TI} {i j : Nat} {tt : TT} (hi : WId wi ss (l.map eP)) (hl : l.length ≤ 100000) (test : ∀ v ∈ l, WTd tt (((wipeS ss [i, j]).set i (.dat (eN v.1))).set j (.dat (eN v.2))) (pp v))
    (turn : ∀ v ∈ l, pp v = true → Wd te (((wipeS ss [i, j]).set i (.dat (eN v.1))).set j (.dat (eN v.2))) (gg v)) :
    Wd (tLc wi (gTup K 2 (gCons (gName i) (gCons (gName j) gNil))) tt te [i, j]) ss (.list ((l.filter pp).map gg)) :=
  W_lcF eP pp gg (hi.to ⟨l, rfl, hl, fun v hv => WG_tup ⟨_, _, rfl, (test v hv).to ⟨rfl, turn v hv⟩⟩, rfl⟩)
end
end RO
/-! sets and sorts of pairs, by data -/
namespace RO
open PySem PySem.Spec PyProof.Rows L2
theorem nd_len {α : Type} [DecidableEq α] : ∀ (l k : List α), l.Nodup → (∀ x ∈ l, x ∈ k) → l.length ≤ k.length
  | [], _, _, _ => Nat.zero_le _
  | x :: l, k, nd, h => by
    rw [List.nodup_cons] at nd
    have hx := h x List.mem_cons_self
    have ih := nd_len l (k.erase x) nd.2 fun y hy => by
      have ne : y ≠ x := fun e => nd.1 (e ▸ hy)
      exact (List.mem_erase_of_ne ne).mpr (h y (List.mem_cons_of_mem _ hy))
    rw [List.length_erase_of_mem hx] at ih
    have : 0 < k.length := List.length_pos_of_mem hx
    rw [List.length_cons]
    omega
theorem nd_of {α : Type} [DecidableEq α] : ∀ (m l : List α), l.Nodup → (∀ x ∈ l, x ∈ m) → m.length ≤ l.length → m.Nodup
  | [], _, _, _, _ => List.nodup_nil
  | a :: m, l, nd, h, hl => by
    rw [List.length_cons] at hl
    have na : a ∉ m := fun ha => by
      have := nd_len l m nd fun x hx => by
        rcases List.mem_cons.mp (h x hx) with e | e
        · rw [e]; exact ha
        · exact e
      omega
    rw [List.nodup_cons]
    refine ⟨na, nd_of m (l.erase a) (nd.erase a) (fun x hx => ?_) ?_⟩
    · have hx2 := (List.Nodup.mem_erase_iff nd).mp hx
      rcases List.mem_cons.mp (h x hx2.2) with e | e
      · exact absurd e hx2.1
      · exact e
    · by_cases ha : a ∈ l
      · rw [List.length_erase_of_mem ha]; omega
      · rw [List.erase_of_not_mem ha]; omega
def inL (l : List Pr) : Rl := fun a b => decide ((a, b) ∈ l)
def pI (p : Pr) : List Int := [(p.1 : Int), (p.2 : Int)]
theorem pI_inj {p q : Pr} (h : pI p = pI q) : p = q := by
  unfold pI at h
  simp only [List.cons.injEq, and_true] at h
  exact Prod.ext (by omega) (by omega)
theorem ks_of {F : Hp} : ∀ {xs : List V} {l : List Pr}, DnAll F xs (l.map eP) → ∃ ks : List (Addr × List Int), xs = ks.map (fun p => V.ref p.1) ∧ ks.map (·.2) = l.map pI ∧ ∀ k ∈ ks, F k.1 = some (.tup (k.2.map V.int))
  | _, [], h => by cases h; exact ⟨[], rfl, rfl, fun k hk => by cases hk⟩
  | _, p :: l, h => by
    cases h with
    | cons a t =>
      obtain ⟨ks, e1, e2, e3⟩ := ks_of t
      obtain ⟨b, ys, rfl, h1, _, t1⟩ := inv_tup a
      obtain ⟨y, z, rfl, d1, d2⟩ := all2 t1
      obtain rfl := inv_int d1
      obtain rfl := inv_int d2
      refine ⟨(b, pI p) :: ks, by rw [e1]; rfl, by rw [List.map_cons, e2]; rfl, fun k hk => ?_⟩
      rcases List.mem_cons.mp hk with rfl | hk
      · exact h1
      · exact e3 k hk
theorem ks_back {F : Hp} : ∀ (ks : List (Addr × List Int)), (∀ k ∈ ks, F k.1 = some (.tup (k.2.map V.int)) ∧ ∃ p, k.2 = pI p) → ∃ m : List Pr, ks.map (·.2) = m.map pI ∧ DnAll F (ks.map fun k => V.ref k.1) (m.map eP)
  | [], _ => ⟨[], rfl, .nil⟩
  | k :: ks, h => by
    obtain ⟨m, e, d⟩ := ks_back ks fun x hx => h x (List.mem_cons_of_mem _ hx)
    obtain ⟨h1, p, h2⟩ := h k List.mem_cons_self
    refine ⟨p :: m, by rw [List.map_cons, List.map_cons, e, h2], .cons ?_ d⟩
    refine .tup h1 (by show 2 ≤ 100000; omega) ?_
    rw [h2]
    exact .cons (.int _) (.cons (.int _) .nil)
theorem code_lt {p q : Pr} (h : TS.code 64 (pI p) ≤ TS.code 64 (pI q)) (ne : p ≠ q) (b1 : p.1 < 64 ∧ p.2 < 64) (b2 : q.1 < 64 ∧ q.2 < 64) : ltP p q := by
  have := pair_lt h (fun e => ne (pI_inj e)) (by omega) (by omega) (by omega) (by omega)
  unfold ltP
  omega
theorem code_le {p q : Pr} (h : TS.code 64 (pI p) ≤ TS.code 64 (pI q)) (b1 : p.1 < 64 ∧ p.2 < 64) (b2 : q.1 < 64 ∧ q.2 < 64) : p = q ∨ ltP p q := by
  by_cases e : p = q
  · exact .inl e
  · exact .inr (code_lt h e b1 b2)
theorem bd_pI {p : Pr} (h : p.1 < 64 ∧ p.2 < 64) : (pI p).length = 2 ∧ TS.Bd 64 (pI p) := ⟨rfl, fun x hx => by
  unfold pI at hx
  simp only [List.mem_cons, List.not_mem_nil, or_false] at hx
  rcases hx with rfl | rfl <;> omega⟩
section
variable {K : PySem.W.Frag} {P : Program} {w : World} {ss : List Sl} {te : TE}
/-- what the sort of a set of pairs hands back -/
theorem sortset_end {F H : Hp} {l : List Pr} {n : Nat} (hn : n ≤ 64) (hb : ∀ p ∈ l, p.1 < n ∧ p.2 < n) {ks L : List (Addr × List Int)} (e2 : ks.map (·.2) = l.map pI) (e3 : ∀ k ∈ ks, F k.1 = some (.tup (k.2.map V.int)))
    (hL1 : ∀ p ∈ L, p ∈ ks) (hL2 : ∀ p ∈ ks, p.2 ∈ L.map (·.2)) : (∀ p ∈ L, p.2.length = 2 ∧ TS.Bd 64 p.2) ∧ ∀ L' : List (Addr × List Int), L'.Perm L → (L'.map (·.2)).Nodup → L'.Pairwise (fun q r => TS.code 64 q.2 ≤ TS.code 64 r.2) →
      DnAll F (L'.map fun q => V.ref q.1) ((prs n (inL l)).map eP) := by
  have frm : ∀ k ∈ ks, ∃ p ∈ l, k.2 = pI p := fun k hk => by
    have : k.2 ∈ l.map pI := by rw [← e2]; exact List.mem_map.mpr ⟨k, hk, rfl⟩
    obtain ⟨p, hp, e⟩ := List.mem_map.mp this
    exact ⟨p, hp, e.symm⟩
  refine ⟨fun p hp => ?_, fun L' pm nd pw => ?_⟩
  · obtain ⟨q, hq, e⟩ := frm p (hL1 p hp)
    rw [e]
    have := hb q hq
    exact bd_pI (by omega)
  · obtain ⟨m, em, dm⟩ := ks_back (F := F) L' fun k hk => by
      have hk1 := hL1 k (pm.mem_iff.mp hk)
      obtain ⟨q, _, e⟩ := frm k hk1
      exact ⟨e3 k hk1, q, e⟩
    have mem_m : ∀ p, p ∈ m ↔ p ∈ l := fun p => by
      constructor
      · intro hp
        have : pI p ∈ L'.map (·.2) := by rw [em]; exact List.mem_map.mpr ⟨p, hp, rfl⟩
        obtain ⟨k, hk, e⟩ := List.mem_map.mp this
        obtain ⟨q, hq, e'⟩ := frm k (hL1 k (pm.mem_iff.mp hk))
        rw [← pI_inj (e'.symm.trans e)]
        exact hq
      · intro hp
        have : pI p ∈ ks.map (·.2) := by rw [e2]; exact List.mem_map.mpr ⟨p, hp, rfl⟩
        obtain ⟨k, hk, e⟩ := List.mem_map.mp this
        have h2 := hL2 k hk
        have h3 : k.2 ∈ L'.map (·.2) := (pm.map (·.2)).mem_iff.mpr h2
        rw [em, e] at h3
        obtain ⟨q, hq, e'⟩ := List.mem_map.mp h3
        rw [← pI_inj e']
        exact hq
    have srt : m.Pairwise ltP := by
      have a1 : (m.map pI).Pairwise (fun x y => TS.code 64 x ≤ TS.code 64 y) := by
        rw [← em]
        exact List.pairwise_map.mpr pw
      have a2 : (m.map pI).Nodup := by rw [← em]; exact nd
      rw [List.pairwise_map] at a1
      have a3 : m.Nodup := List.Pairwise.of_map pI (fun _ _ h e => h (congrArg pI e)) a2
      refine List.Pairwise.imp_of_mem (fun {p q} hp hq h => ?_) (a1.and a3)
      have b1 := hb p ((mem_m p).mp hp)
      have b2 := hb q ((mem_m q).mp hq)
      exact code_lt h.1 h.2 (by omega) (by omega)
    have em2 : m = prs n (inL l) := sorted_prs srt fun a b => by
      rw [mem_m]
      unfold inL
      constructor
      · intro h
        have := hb _ h
        exact ⟨this.1, this.2, decide_eq_true h⟩
      · intro h
        exact of_decide_eq_true h.2.2
    rw [← em2]
    exact dm
theorem V_sortsetL {l : List Pr} {n : Nat} (h : Wd te ss (eLP l)) (hs : l.length < 64 ∧ n ≤ 64 ∧ ∀ p ∈ l, p.1 < n ∧ p.2 < n) : Wd (tCB (rSortedT K P w) (tCons (tCB (rSetOfT K P w) (tCons te tNil)) tNil)) ss (eLP (prs n (inL l))) := fun F H nw mt σ e S Q q =>
  h F H nw mt σ e S _ fun v F2 H2 d ed g dv => by
    subst ed
    obtain ⟨a, xs, rfl, h1, l1, t1⟩ := inv_lst dv
    obtain ⟨ks, rfl, e2, e3⟩ := ks_of t1
    have hlen : ks.length = l.length := by
      have := congrArg List.length e2
      simpa using this
    refine ⟨a, ks, rfl, SqL.of (g.fh _ _ h1), fun p hp => SqT.of (g.fh _ _ (e3 p hp)), by omega, fun b L hb hL1 hL2 => ?_⟩
    obtain ⟨b1, b2⟩ := sortset_end (F := F2) (H := H2) hs.2.1 hs.2.2 e2 e3 hL1 hL2
    have g2 : Gr0 F2 H2 F2 (upd H2 b (SetTO P w b L)) := Gr.new' g.fh hb
    refine ⟨b, L, 2, 64, rfl, upd_same, fun p hp => SqT.of (g2.fh _ _ (e3 p (hL1 p hp))), by omega, b1, fun L' p pm nd _ pw hp => ?_⟩
    have g3 : Gr0 F2 (upd H2 b (SetTO P w b L)) (upd F2 p (.lst (L'.map fun q => V.ref q.1))) (upd (upd H2 b (SetTO P w b L)) p (.lst (L'.map fun q => V.ref q.1))) := Gr.new g2.fh hp
    have dd := b2 L' pm nd pw
    refine q _ _ _ _ rfl ((g.trans g2).trans g3) (.lst upd_same ?_ (dd.mono g3.ff))
    rw [List.length_map]
    refine Nat.le_trans (prs_length_le _ _) ?_
    have := Nat.mul_le_mul hs.2.1 hs.2.1
    omega
/-- sorted(list of pairs), no two alike -/
theorem V_sortedP {l : List Pr} {n : Nat} (h : Wd te ss (eLP l)) (hs : l.length < 64 ∧ n ≤ 64 ∧ (∀ p ∈ l, p.1 < n ∧ p.2 < n) ∧ l.Nodup) : Wd (tCB (rSortU K 2 64) (tCons te tNil)) ss (eLP (prs n (inL l))) := fun F H nw mt σ e S Q q =>
  h F H nw mt σ e S _ fun v F2 H2 d ed g dv => by
    subst ed
    obtain ⟨a, xs, rfl, h1, l1, t1⟩ := inv_lst dv
    have tupi : ∀ x p, Dn F2 x (eP p) → TupI K H2 x (pI p) := fun x p dx => by
      obtain ⟨b, ys, rfl, h2, _, t2⟩ := inv_tup dx
      obtain ⟨y, z, rfl, d1, d2⟩ := all2 t2
      obtain rfl := inv_int d1
      obtain rfl := inv_int d2
      exact ⟨b, rfl, SqT.of (g.fh _ _ h2)⟩
    refine ⟨a, xs, rfl, SqL.of (g.fh _ _ h1), by rw [t1.length, List.length_map]; exact hs.1, fun x hx => ?_, fun ys p pm pw hp => ?_⟩
    · obtain ⟨d, hd, dx⟩ := t1.mem hx
      obtain ⟨p, hp, rfl⟩ := List.mem_map.mp hd
      have b := hs.2.2.1 p hp
      have := bd_pI (p := p) (by omega)
      exact ⟨pI p, tupi x p dx, this.1, this.2⟩
    · -- the data of ys
      have back : ∀ ys : List V, (∀ y ∈ ys, y ∈ xs) → ∃ m : List Pr, DnAll F2 ys (m.map eP) ∧ ∀ p ∈ m, p ∈ l := fun ys => by
        induction ys with
        | nil => intro _; exact ⟨[], .nil, fun p hp => by cases hp⟩
        | cons y ys ih =>
          intro hy
          obtain ⟨m, d1, d2⟩ := ih fun z hz => hy z (List.mem_cons_of_mem _ hz)
          obtain ⟨d, hd, dx⟩ := t1.mem (hy y List.mem_cons_self)
          obtain ⟨p, hp, rfl⟩ := List.mem_map.mp hd
          refine ⟨p :: m, .cons dx d1, fun q hq => ?_⟩
          rcases List.mem_cons.mp hq with rfl | hq
          · exact hp
          · exact d2 q hq
      obtain ⟨m, dm, hm⟩ := back ys fun y hy => pm.mem_iff.mp hy
      -- a value tells its pair
      have inj : ∀ x p q, Dn F2 x (eP p) → Dn F2 x (eP q) → p = q := fun x p q d1 d2 => by
        obtain ⟨b, ys, rfl, h2, _, t2⟩ := inv_tup d1
        obtain ⟨b', ys', e', h3, _, t3⟩ := inv_tup d2
        cases e'
        rw [h2] at h3
        cases h3
        obtain ⟨y, z, rfl, x1, x2⟩ := all2 t2
        obtain ⟨y', z', e'', x3, x4⟩ := all2 t3
        cases e''
        obtain rfl := inv_int x1
        obtain rfl := inv_int x2
        have u1 := inv_int x3
        have u2 := inv_int x4
        injection u1 with u1
        injection u2 with u2
        exact Prod.ext (by omega) (by omega)
      have mem_m : ∀ p, p ∈ l → p ∈ m := fun p hp => by
        obtain ⟨i, hi⟩ := List.getElem?_of_mem hp
        obtain ⟨x, hx, dx⟩ := t1.get (i := i) (d := eP p) (by rw [List.getElem?_map, hi]; rfl)
        have hx2 := pm.mem_iff.mpr (List.mem_of_getElem? hx)
        obtain ⟨d, hd, dx2⟩ := dm.mem hx2
        obtain ⟨q, hq, rfl⟩ := List.mem_map.mp hd
        rw [inj x p q dx dx2]
        exact hq
      have srt : m.Pairwise fun p q => TS.code 64 (pI p) ≤ TS.code 64 (pI q) := by
        clear mem_m pm hp
        induction ys generalizing m with
        | nil =>
          cases m with
          | nil => exact .nil
          | cons p m => cases dm
        | cons y ys ih =>
          cases m with
          | nil => cases dm
          | cons p m =>
            cases dm with
            | cons d1 d2 =>
              rw [List.pairwise_cons] at pw ⊢
              refine ⟨fun q hq => ?_, ih pw.2 m d2 fun q hq => hm q (List.mem_cons_of_mem _ hq)⟩
              obtain ⟨i, hi⟩ := List.getElem?_of_mem hq
              obtain ⟨x, hx, dx⟩ := d2.get (i := i) (d := eP q) (by rw [List.getElem?_map, hi]; rfl)
              exact pw.1 x (List.mem_of_getElem? hx) (pI p) (pI q) (tupi _ _ d1) (tupi _ _ dx)
      have hlen : m.length = l.length := by
        have a1 := dm.length
        have a2 := t1.length
        have a3 := pm.length_eq
        rw [List.length_map] at a1 a2
        omega
      have nd : m.Nodup := by
        exact nd_of m l hs.2.2.2 mem_m (by omega)
      have srt2 : m.Pairwise ltP := List.Pairwise.imp_of_mem (fun {p q} hp hq h => by
        have b1 := hs.2.2.1 p (hm p hp)
        have b2 := hs.2.2.1 q (hm q hq)
        exact code_lt h.1 h.2 (by omega) (by omega)) (srt.and nd)
      have em2 : m = prs n (inL l) := sorted_prs srt2 fun a b => by
        unfold inL
        constructor
        · intro h
          have := hs.2.2.1 _ (hm _ h)
          exact ⟨this.1, this.2, decide_eq_true (hm _ h)⟩
        · intro h
          exact mem_m _ (of_decide_eq_true h.2.2)
      have g3 : Gr0 F2 H2 (upd F2 p (.lst ys)) (upd H2 p (.lst ys)) := Gr.new g.fh hp
      refine q _ _ _ _ rfl (g.trans g3) (.lst upd_same ?_ ?_)
      · rw [← em2, List.length_map]; omega
      · rw [← em2]; exact dm.mono g3.ff
/-- ints of a list -/
theorem ints_all {F : Hp} : ∀ {xs : List V} {l : List Nat}, DnAll F xs (l.map eN) → xs = l.map fun n : Nat => V.int (n : Int)
  | _, [], h => by cases h; rfl
  | _, n :: l, h => by
    cases h with
    | cons a t => rw [inv_int a, ints_all t]; rfl
theorem all_ints {F : Hp} (l : List Nat) : DnAll F (l.map fun n : Nat => V.int (n : Int)) (l.map eN) := by
  induction l with
  | nil => exact .nil
  | cons a l ih => exact .cons (.int _) ih
/-- naturals of a permutation of naturals -/
theorem nats_of_perm {l : List Nat} : ∀ {ns : List Int}, (∀ x ∈ ns, ∃ n ∈ l, x = (n : Int)) → ∃ m : List Nat, ns = m.map fun n : Nat => (n : Int)
  | [], _ => ⟨[], rfl⟩
  | x :: ns, h => by
    obtain ⟨m, e⟩ := nats_of_perm (l := l) (ns := ns) fun y hy => h y (List.mem_cons_of_mem _ hy)
    obtain ⟨n, _, e1⟩ := h x List.mem_cons_self
    exact ⟨n :: m, by rw [e, e1]; rfl⟩
theorem W_sortedI {PP : PyData → Prop} {l : List Nat} (h : Wd te ss (eLN l)) (hl : l.length < 64) (k : ∀ m : List Nat, m.Perm l → m.Pairwise (· ≤ ·) → PP (eLN m)) : W (tCB (rSorted K) (tCons te tNil)) ss PP := fun F H nw mt σ e S Q q =>
  h F H nw mt σ e S _ fun v F2 H2 d ed g dv => by
    subst ed
    obtain ⟨a, xs, rfl, h1, l1, t1⟩ := inv_lst dv
    have ex := ints_all t1
    subst ex
    refine ⟨a, l.map fun n : Nat => (n : Int), rfl, ?_, by rw [List.length_map]; exact hl, fun ns' p pm pw hp => ?_⟩
    · rw [List.map_map]
      exact SqL.of (g.fh _ _ h1)
    · obtain ⟨m, rfl⟩ := nats_of_perm (l := l) (ns := ns') fun x hx => by
        have := pm.mem_iff.mp hx
        obtain ⟨n, hn, e⟩ := List.mem_map.mp this
        exact ⟨n, hn, e.symm⟩
      have pm2 : m.Perm l := by
        have := pm.map Int.toNat
        simpa [List.map_map, Function.comp_def] using this
      have pw2 : m.Pairwise (· ≤ ·) := by
        rw [List.pairwise_map] at pw
        exact pw.imp fun h => by omega
      have g3 : Gr0 F2 H2 (upd F2 p (.lst ((m.map fun n : Nat => (n : Int)).map V.int))) (upd H2 p (.lst ((m.map fun n : Nat => (n : Int)).map V.int))) := Gr.new g.fh hp
      refine q _ _ _ _ (k m pm2 pw2) (g.trans g3) (.lst upd_same ?_ ?_)
      · rw [List.length_map, pm2.length_eq]; omega
      · rw [List.map_map]
        exact all_ints m
end
end RO
/-! rules of my own: tuple.index of ints, a display with one tuple for a key, sorted of a tuple, of lists -/
namespace RO
open PySem PySem.Spec PyProof.Rows L2
section
variable {X : Cx}
def rTix (K : PySem.W.Frag) : V → List V → Hp → VK → Prop := fun x xs H Q => ∃ (a : Addr) (ns : List Nat) (n j : Nat), x = V.ref a ∧ xs = [.int n] ∧ SqT K H a (ns.map fun n : Nat => V.int (n : Int)) ∧ ns[j]? = some n ∧ (∀ m, m < j → ns[m]? ≠ some n) ∧ Q (.int (j : Nat)) H
theorem mt_tindexQ {k : Nat} (hr : Room k X.A) : MtR X "tuple.index" (rTix X.K) := by
  intro pins s σ H x xs v us Q I rx rs h
  obtain ⟨p, ys, z, j, rfl, rfl, hq, hy, hno, q⟩ := h
  cases rx
  obtain ⟨u, rfl, t, rfl⟩ := vals1 rs
  obtain ⟨its, r, pl, hz⟩ := I.tuple hq
  obtain ⟨⟨cls, dd, dt, sl⟩, ho, hc, n, hd⟩ := pl
  simp only at hc hd
  subst hc
  subst hd
  have fl : (ys.map fun n : Nat => V.int (n : Int)).all flatV = true := by
    rw [List.all_map]
    exact List.all_eq_true.mpr fun _ _ => rfl
  have hl : its.toArray.size = ys.length := by rw [List.size_toArray, ← r.length, List.length_map]
  have hj : j < its.toArray.size := by rw [hl]; exact (List.getElem?_eq_some_iff.mp hy).1
  have at_ : ∀ (m : Nat) (hm : m < its.toArray.size), ∃ (y : Nat) (t' : Tok), ys[m]? = some y ∧ its.toArray[m] = Value.int (y : Int) t' := fun m hm => by
    have hm' : m < ys.length := by rw [← hl]; exact hm
    obtain ⟨w, hw, t', hw'⟩ := r.get (i := m) (x := .int (ys[m] : Int)) (by rw [List.getElem?_map, List.getElem?_eq_getElem hm']; rfl)
    refine ⟨ys[m], t', List.getElem?_eq_getElem hm', ?_⟩
    have e := (List.getElem?_eq_some_iff.mp hw).2
    rw [← hw', ← e]
    simp
  refine call_meets PySem.F.slot_tuple_index ⟨_, ho, rfl⟩ PySem.F.entry_tuple_index (PySem.F.args_tuple_index_2 _ _) (TI.tuple_indexAt p its.toArray n dd sl (.int (z : Int) t) (eqU (.int (z : Int))) j hj ?_ ?_)
    ⟨ho, fun w hw => mem_eqAt (x := .int (z : Int)) ⟨t, rfl⟩ rfl r fl w (by simpa using hw), ⟨.int (j : Nat), H, I.tok _, ⟨_, rfl⟩, q⟩⟩
  · obtain ⟨y, t', h1, h2⟩ := at_ j hj
    rw [hy] at h1
    cases h1
    rw [h2]
    simp [eqU, eqV]
  · intro m hm hmj
    obtain ⟨y, t', h1, h2⟩ := at_ m hm
    rw [h2]
    have : y ≠ z := fun e => hno m hmj (e ▸ h1)
    simp [eqU, eqV]
    omega
/-- a row: a tuple whose object is known -/
def tyRow (x : V) (H : Hp) : Prop := ∃ (a : Addr) (o : Obj) (xs : List V), x = .ref a ∧ H a = some (.frz o (.tup xs)) ∧ o.dict = none
theorem ty_row : TyOk X "tuple" tyRow := by
  intro pins σ H s x v I r h
  obtain ⟨a, o, xs, rfl, ha, hd⟩ := h
  cases (show v = Value.ref a from r)
  obtain ⟨e, z, its, rv, o2, e2, hc, n, hdat⟩ := I.hok a _ ha
  rw [e] at e2
  cases e2
  exact ⟨⟨o, e, hc⟩, fun b hb => by cases hb; exact ⟨o, e, hd⟩⟩
/-- {k: v}, k a tuple -/
def tDisp1T (tk tv : TE) : TE := fun σ H Q => ∀ p, H p = none → tk σ (upd H p (.dT [])) fun x H1 => tv σ H1 fun y H2 => ∃ (b : Addr) (ks : List Key), x = .ref b ∧ H2 b = some (.tup (ks.map kV)) ∧ H2 p = some (.dT []) ∧ Q (.ref p) (upd H2 p (.dT [(ks, y)]))
theorem pe_disp1T {k v : Expr} {pos : Pos} {tk tv : TE} (hu : X.A.units + 1 < cLine) (hk : PE X k tk) (hv : PE X v tv) : PE X (.Dict [some k] [v] pos) (tDisp1T tk tv) := by
  refine ⟨fun pins s σ H Q I q => ?_⟩
  have hn := I.hok.fresh (Nat.le_refl s.heap.objs.size)
  have I1 := I.laid (a := s.heap.objs.size) (o := .dT []) (h' := s.heap.push { cls := .type "dict", data := .dict #[] }) (t' := s.toks) (fun _ _ q => Heap.get?_push_of_some _ q) (Nat.le_refl _) (dt_empty s.heap I.big)
  have hz := zip_pairTrees [some k] [v] X.env pos rfl rfl
  rw [arm_eval_Dict, hz, dictDisplay_pairs _ (by simp [pairTrees]) (by simp [pairTrees])]
  refine wpAny_bind (wpAny_standAt (wpAny_bind (wpAny_subDictH (knd := tupleKind (mixKind X.prog X.w)) (Nat.lt_of_succ_lt hu) (by simp [pairTrees]) ?_)))
  refine wpAny_mono ((pps_cons hk hv (pps_nil (X := X) (pos := pos))).run pins { s with heap := s.heap.push { cls := .type "dict", data := .dict #[] } } σ (upd H s.heap.objs.size (.dT []))
    (fun ps H2 => match ps with
      | [(x, y)] => ∃ (b : Addr) (ks : List Key), x = .ref b ∧ H2 b = some (.tup (ks.map kV)) ∧ H2 s.heap.objs.size = some (.dT []) ∧ Q (.ref s.heap.objs.size) (upd H2 s.heap.objs.size (.dT [(ks, y)]))
      | _ => False) I1 (q s.heap.objs.size hn)) (fun vs s2 ⟨ps, H2, I2, rel, hq⟩ => ?_) fun _ _ e => e
  match ps, rel, hq with
  | [(x, y)], rel, hq =>
    obtain ⟨b, ks, rfl, hb, hp, q2⟩ := hq
    cases rel with
    | @cons a0 uu as0 us0 r0 rt =>
      cases rt
      obtain ⟨r1, r2⟩ := r0
      obtain ⟨u1, u2⟩ := uu
      cases (show u1 = Value.ref b from r1)
      obtain ⟨z, hd, xs, rel0, dd⟩ := dt_of I2.hok hp
      cases rel0
      refine ⟨[(ks, b, u2)], ⟨rfl, rfl, key_of I2.hok hb, trivial⟩, dd, fun h' tk dd' hs => ?_⟩
      refine wpAny_pure ⟨.ref s.heap.objs.size, upd H2 s.heap.objs.size (.dT [(ks, y)]), ?_, rfl, q2⟩
      obtain ⟨o, es, ep, ho, h2, h3, h4, _, h5⟩ := dd'
      refine d_write I2 (by rw [hp]; exact True.intro) hs ⟨o, ho⟩ ⟨by rw [sizeLine_eq]; simp, hd, [(ks, b, u2)], .cons ⟨rfl, ?_, r2⟩ .nil, o, es, ep, ho, h2, h3, h4, h5⟩
      show upd H2 s.heap.objs.size (.dT [(ks, y)]) b = _
      rw [upd_ne (ne_of hb hp (fun z => nomatch z))]
      exact hb
end
end RO
namespace RO
open PySem PySem.Spec PyProof.Rows L2 PySem.W
/-! ### sorted(xs), xs a list of alike data -/
section
variable {X : Cx}
def rSortedQ (K : PySem.W.Frag) : List V → Hp → VK → Prop := fun vs H Q => ∃ (a : Addr) (xs : List V) (ds : List PyData), vs = [V.ref a] ∧ SqL K H a xs ∧ DpAll K H xs ds ∧ AllAlike ds ∧ Sortable ds ∧ (∀ d ∈ ds, d.depth ≤ 60) ∧
  ∀ (ys : List (V × PyData)) (p : Addr), ys.Perm (xs.zip ds) → H p = none → Q (.ref p) (upd H p (.lst (ys.map (·.1))))
theorem zip_snd {α β : Type} : ∀ {xs : List α} {ds : List β}, xs.length = ds.length → (xs.zip ds).map (·.2) = ds
  | [], [], _ => rfl
  | x :: xs, d :: ds, h => by
    rw [List.zip_cons_cons, List.map_cons, zip_snd (by simpa using h)]
theorem zip_fst {α β : Type} : ∀ {xs : List α} {ds : List β}, xs.length = ds.length → (xs.zip ds).map (·.1) = xs
  | [], [], _ => rfl
  | x :: xs, d :: ds, h => by
    rw [List.zip_cons_cons, List.map_cons, zip_fst (by simpa using h)]
theorem DpAll_len {K : PySem.W.Frag} {H : Hp} : ∀ {xs : List V} {ds : List PyData}, DpAll K H xs ds → xs.length = ds.length
  | _, _, .nil => rfl
  | _, _, .cons _ t => by rw [List.length_cons, List.length_cons, DpAll_len t]
theorem each_zip : ∀ {xs : List V} {ds : List PyData} {us : List Value}, xs.length = ds.length → Vals xs us → EachIs (fun (u : Value) (b : V × PyData) => RelV b.1 u) us (xs.zip ds)
  | [], [], _, _, .nil => .nil
  | x :: xs, d :: ds, _, h, .cons r t => .cons r (each_zip (by simpa using h) t)
theorem vals_each : ∀ {us : List Value} {bs : List (V × PyData)}, EachIs (fun (u : Value) (b : V × PyData) => RelV b.1 u) us bs → Vals (bs.map (·.1)) us
  | _, _, .nil => .nil
  | _, _, .cons h t => .cons h (vals_each t)
theorem each_of_readsAll {h : Heap} : ∀ {us : List Value} {ds : List PyData} {as : List Addr} {xs : List V}, xs.length = ds.length → ReadsAll h us ds as → EachIs (fun (u : Value) (b : V × PyData) => ∃ as, Reads h u b.2 as) us (xs.zip ds)
  | _, [], _, [], _, r => by cases r; exact .nil
  | _, d :: ds, _, x :: xs, hl, r => by
    cases r with
    | cons h1 h2 => exact .cons ⟨_, h1⟩ (each_of_readsAll (by simpa using hl) h2)
theorem c_sortedLL {k : Nat} (hr : Room k X.A) : CallR X (.builtin "sorted") (rSortedQ X.K) := by
  intro pins s σ H vs us Q I r h
  obtain ⟨a, xs, ds, rfl, hs, hd, hal, hk, hdep, q⟩ := h
  obtain ⟨its, rv, hl, hz⟩ := I.list hs
  rw [Vals.ref1 r]
  have hlen := DpAll_len hd
  obtain ⟨as, hrd⟩ := Dp.readsAll I ds xs its hd rv
  have em : (xs.zip ds).map (·.2) = ds := zip_snd hlen
  have zl : (xs.zip ds).length = xs.length := by rw [List.length_zip]; omega
  refine sorted_data (β := V × PyData) (bs := xs.zip ds) (enc := (·.2)) (R := fun u b => RelV b.1 u) hl.isList (each_zip hlen rv) (each_of_readsAll hlen hrd) (by rw [em]; exact hal) (by rw [em]; exact hk) (by rw [zl]; exact hz) (fun b hb => ?_) fun out h1 h2 => ?_
  · have : b.2 ∈ ds := by rw [← em]; exact List.mem_map.mpr ⟨b, hb, rfl⟩
    have := hdep _ this
    have := hr.un
    omega
  · obtain ⟨ep, he⟩ := PyProof.Rows.sortedAll_at s.heap its out.toArray
    have pm : ((xs.zip ds).mergeSort (dataLe false (·.2))).Perm (xs.zip ds) := List.mergeSort_perm _ _
    have hv := vals_each h2
    refine ⟨.ref _, upd H (s.heap.objs.size + 1) (.lst (((xs.zip ds).mergeSort (dataLe false (·.2))).map (·.1))), I.laid (t' := s.toks) (fun _ _ => PyProof.Rows.sortedAll_old) (Nat.le_succ _) ⟨?_, out, ep, hv, he⟩, rfl, q _ _ pm (I.hok.fresh (Nat.le_succ _))⟩
    rw [List.length_map, pm.length_eq, zl]
    exact hz
variable {K : PySem.W.Frag} {ss : List Sl} {te : TE} {PP : PyData → Prop}
theorem eLN_ints (l : List Nat) : eLN l = .list ((l.map fun n : Nat => (n : Int)).map .int) := by unfold eLN; rw [List.map_map]; rfl
theorem alike_eLN (l m : List Nat) : alike (eLN l) (eLN m) = true := by
  rw [eLN_ints, eLN_ints]
  simp only [alike]
  exact alike_ints _ _
theorem dn_back {F : Hp} {enc : List Nat → PyData} : ∀ {ys : List (V × PyData)} {ls : List (List Nat)}, (∀ y ∈ ys, Dn F y.1 y.2 ∧ ∃ l ∈ ls, y.2 = enc l) → ∃ ms : List (List Nat), ys.map (·.2) = ms.map enc ∧ DnAll F (ys.map (·.1)) (ms.map enc)
  | [], _, _ => ⟨[], rfl, .nil⟩
  | y :: ys, ls, h => by
    obtain ⟨ms, e, d⟩ := dn_back (ys := ys) (ls := ls) fun z hz => h z (List.mem_cons_of_mem _ hz)
    obtain ⟨h1, l, _, h2⟩ := h y List.mem_cons_self
    refine ⟨l :: ms, by rw [List.map_cons, List.map_cons, e, h2], .cons ?_ d⟩
    rw [← h2]; exact h1
theorem zip_dn {F : Hp} : ∀ {xs : List V} {ds : List PyData}, DnAll F xs ds → ∀ y ∈ xs.zip ds, Dn F y.1 y.2
  | _, _, .nil, y, hy => by cases hy
  | _, _, .cons a t, y, hy => by
    rw [List.zip_cons_cons] at hy
    rcases List.mem_cons.mp hy with rfl | hy
    · exact a
    · exact zip_dn t y hy
theorem eLN_inj {l m : List Nat} (h : eLN l = eLN m) : l = m := by
  have := eqv_eLN l m
  rw [h, eqv_eLN] at this
  simpa using this.symm
theorem perm_of_map {α β : Type} [DecidableEq α] {f : α → β} (hf : ∀ a b, f a = f b → a = b) : ∀ {l m : List α}, (l.map f).Perm (m.map f) → l.Perm m
  | [], m, h => by
    have := h.length_eq
    cases m with
    | nil => exact .nil
    | cons a m => simp at this
  | a :: l, m, h => by
    have ha : f a ∈ m.map f := h.mem_iff.mp List.mem_cons_self
    obtain ⟨b, hb, e⟩ := List.mem_map.mp ha
    obtain rfl := hf _ _ e
    obtain ⟨s, t, rfl⟩ := List.append_of_mem hb
    have h2 : (f b :: l.map f).Perm (f b :: (s.map f ++ t.map f)) := by
      refine h.trans ?_
      rw [List.map_append, List.map_cons]
      exact List.perm_middle
    have h3 := List.Perm.cons_inv h2
    rw [← List.map_append] at h3
    exact ((perm_of_map hf h3).cons b).trans List.perm_middle.symm
theorem W_sortedLL {ls : List (List Nat)} (h : Wd te ss (eLLN ls)) (k : ∀ ms : List (List Nat), ms.Perm ls → PP (eLLN ms)) : W (tCB (rSortedQ K) (tCons te tNil)) ss PP := fun F H nw mt σ e S Q q =>
  h F H nw mt σ e S _ fun v F2 H2 d ed g dv => by
    subst ed
    obtain ⟨a, xs, rfl, h1, l1, t1⟩ := inv_lst dv
    have hdp := DnAll.dp (K := K) g.fh t1 (DL_all (k := 1) (DL_map DL_eLN)).1
    have hlen := t1.length
    refine ⟨a, xs, _, rfl, SqL.of (g.fh _ _ h1), hdp, AllAlike.of fun l m => alike_eLN l m, Sortable.others fun l => ⟨(by intro z; cases z), (by intro xs z; cases z)⟩, fun d hd => ?_, fun ys p pm hp => ?_⟩
    · obtain ⟨l, _, rfl⟩ := List.mem_map.mp hd
      exact Nat.le_trans (DL_eLN l).2 (by decide)
    · have hy : ∀ y ∈ ys, Dn F2 y.1 y.2 ∧ ∃ l ∈ ls, y.2 = eLN l := fun y hy => by
        have hm := pm.mem_iff.mp hy
        refine ⟨zip_dn t1 y hm, ?_⟩
        have : y.2 ∈ (xs.zip (ls.map eLN)).map (·.2) := List.mem_map.mpr ⟨y, hm, rfl⟩
        rw [zip_snd hlen] at this
        obtain ⟨l, hl, e⟩ := List.mem_map.mp this
        exact ⟨l, hl, e.symm⟩
      obtain ⟨ms, e1, d1⟩ := dn_back hy
      have pm2 : (ms.map eLN).Perm (ls.map eLN) := by
        rw [← e1]
        have := pm.map (·.2)
        rw [zip_snd hlen] at this
        exact this
      have pm3 : ms.Perm ls := perm_of_map (fun _ _ => eLN_inj) pm2
      have g3 : Gr0 F2 H2 (upd F2 p (.lst (ys.map (·.1)))) (upd H2 p (.lst (ys.map (·.1)))) := Gr.new g.fh hp
      refine q _ _ _ _ (k ms pm3) (g.trans g3) (.lst upd_same ?_ (d1.mono g3.ff))
      rw [List.length_map, pm3.length_eq, ← List.length_map (f := eLN)]
      exact l1
end
end RO
namespace RO
open PySem PySem.Spec PyProof.Rows L2
section
variable {prog : Program} {w : World} {A : Around} {E : Value → Shared → Prop} {s : Shared}
/-- a tuple's items gathered, as sorted does -/
theorem gather_tup {t : Addr} {vs : List Value} {Q : List Value → Shared → Prop} (ht : IsTup s.heap t vs.toArray) (hz : vs.length ≤ sizeLine)
    (k : Q vs { s with heap := (s.heap.push (seqObj "list" #[] 0)).update s.heap.objs.size (Obj.mapSeq (· ++ vs.toArray)) }) : wpAny (model prog w) A (collect (.ref t)) Q E s := by
  obtain ⟨ob, hob, hcls, c, hdat⟩ := ht
  have hnew : (s.heap.push (seqObj "list" #[] 0)).get? s.heap.objs.size = some (seqObj "list" #[] 0) := Heap.get?_push_size _ rfl
  have hold : (s.heap.push (seqObj "list" #[] 0)).get? t = some ob := Heap.get?_push_of_some _ hob
  unfold collect
  refine wpAny_bind (wpAny_runValue (codeAny_builtin entry_proto_collect' ?_))
  refine wpAny_bind (wpAny_newList (wpAny_pure ⟨Code.quiet_builtin _ (by decide +kernel), codeAny_builtin entry_list_iadd' ?_⟩))
  show wpAny _ _ (Builtin.List.listExtendWith (.ref s.heap.objs.size) (.ref t) (.ref s.heap.objs.size)) _ _ { s with heap := s.heap.push (seqObj "list" #[] 0) }
  unfold Builtin.List.listExtendWith
  refine wpAny_bind (wpAny_typeOf (T := "tuple") ⟨ob, hold, hcls⟩ ?_)
  have h1 : (Value.type "tuple" == Value.type "tuple") = true := by rfl
  rw [if_pos (by rw [h1]; simp)]
  refine wpAny_bind (listItems_at hold hdat (wpAny_bind (listItems_at (xs := #[]) (n := 0) hnew rfl ?_)))
  rw [if_neg (by simp)]
  have hle : (#[] ++ vs.toArray).size ≤ sizeLine + 1 := by
    simp only [Array.size_append, List.size_toArray, List.length_nil]
    omega
  refine wpAny_bind (listUpdate_at (xs := #[]) (n := 0) hnew rfl ?_ (Nat.zero_le _) hle)
  refine wpAny_pure (wpAny_bind (wpAny_load (get?_update_seq hnew _) ?_))
  have e : ((#[] : Array Value) ++ vs.toArray).toList = vs := by simp
  show wpAny _ _ (pure ((#[] : Array Value) ++ vs.toArray).toList) Q E _
  rw [e]
  exact wpAny_pure k
/-- sorted(t), t a tuple of ints -/
theorem sorted_tupI {t : Addr} {vs : List Value} {ns : List Int} {Q : Value → Shared → Prop} (ht : IsTup s.heap t vs.toArray) (hI : IntsAre vs ns) (h64 : vs.length < 64)
    (k : ∀ (out : Array Value) (ns' : List Int), IntsAre out.toList ns' → ns'.Perm ns → ns'.Pairwise (· ≤ ·) → Q (.ref (s.heap.objs.size + 1)) { s with heap := sortedAll s.heap vs out }) :
    wpAny (model prog w) A (call (.builtin "sorted") [.ref t]) Q E s := by
  have hz : ((s.heap.push (seqObj "list" #[] 0)).update s.heap.objs.size (Obj.mapSeq (· ++ vs.toArray))).objs.size = s.heap.objs.size + 1 := by rw [Heap.size_update, size_push']
  refine Calls.call_function_entry kind_sorted plain_sorted entry_sorted (args_sorted1 _) ?_
  unfold Builtin.«sorted»
  refine wpAny_bind (m := checkCount "sorted" 1 1 _) (wpAny_pure (wpAny_bind (gather_tup ht (by rw [sizeLine_eq]; omega) (wpAny_bind (wpAny_newList ?_)))))
  rw [hz]
  have hL : (((s.heap.push (seqObj "list" #[] 0)).update s.heap.objs.size (Obj.mapSeq (· ++ vs.toArray))).push (seqObj "list" vs.toArray 0)).get? (s.heap.objs.size + 1) = some (seqObj "list" vs.toArray 0) := by
    rw [← hz]
    exact Heap.get?_push_size _ rfl
  exact wpAny_bind (wpAny_holding (wpAny_call_entry slot_list_sort ⟨_, hL, rfl⟩ entry_list_sort (list_sort_tree hL hI h64 fun out ns' a1 a2 a3 => ⟨_, rfl, wpAny_pure ⟨_, rfl, k out ns' a1 a2 a3⟩⟩) (args_list_sort _)))
end
section
variable {X : Cx}
def rSortedTI (K : PySem.W.Frag) : List V → Hp → VK → Prop := fun vs H Q => ∃ (a : Addr) (ns : List Int), vs = [V.ref a] ∧ SqT K H a (ns.map V.int) ∧ ns.length < 64 ∧ ∀ (ns' : List Int) (p : Addr), ns'.Perm ns → ns'.Pairwise (· ≤ ·) → H p = none → Q (.ref p) (upd H p (.lst (ns'.map V.int)))
theorem c_sortedTI : CallR X (.builtin "sorted") (rSortedTI X.K) := by
  intro pins s σ H vs us Q I r h
  obtain ⟨a, ns, rfl, hs, h64, q⟩ := h
  obtain ⟨its, rv, ht, _⟩ := I.tuple hs
  rw [Vals.ref1 r]
  have hi := rv.ints
  refine sorted_tupI ht hi (by rw [hi.length]; exact h64) fun out ns' h1 h2 h3 => ?_
  obtain ⟨ep, he⟩ := PyProof.Rows.sortedAll_at s.heap its out
  refine ⟨.ref _, upd H (s.heap.objs.size + 1) (.lst (ns'.map V.int)), I.laid (t' := s.toks) (fun _ _ => PyProof.Rows.sortedAll_old) (Nat.le_succ _) ⟨?_, out.toList, ep, vals_of_ints h1, he⟩, rfl, q ns' _ h2 h3 (I.hok.fresh (Nat.le_succ _))⟩
  rw [List.length_map, h2.length_eq, sizeLine_eq]
  omega
/-! the same rules, K told (within a comprehension) -/
theorem kx_list (K : PySem.W.Frag) (h : X.K = K := by rfl) : IxR X (rIxL K) := h ▸ ix_list
theorem kx_tup (K : PySem.W.Frag) (h : X.K = K := by rfl) : IxR X (rIxT K) := h ▸ ix_tup
theorem k_eq (K : PySem.W.Frag) {k : Nat} (hr : Room k X.A) (h : X.K = K := by rfl) : OpR X (compareOp .Eq) (rEqD K) := h ▸ op_eqD hr.units
theorem k_ne (K : PySem.W.Frag) {k : Nat} (hr : Room k X.A) (h : X.K = K := by rfl) : OpR X (compareOp .NotEq) (rNeD K) := h ▸ op_neD hr.units
theorem k_in (K : PySem.W.Frag) {k : Nat} (hr : Room k X.A) (h : X.K = K := by rfl) : OpR X (compareOp .In) (rInQ K false) := h ▸ o_in hr
theorem k_nin (K : PySem.W.Frag) {k : Nat} (hr : Room k X.A) (h : X.K = K := by rfl) : OpR X (compareOp .NotIn) (rInQ K true) := h ▸ o_nin hr
theorem k_tindex (K : PySem.W.Frag) {k : Nat} (hr : Room k X.A) (h : X.K = K := by rfl) : MtR X "tuple.index" (rTix K) := h ▸ mt_tindexQ hr
theorem k_lindex (K : PySem.W.Frag) {k : Nat} (hr : Room k X.A) (h : X.K = K := by rfl) : MtR X "list.index" (rLix K) := h ▸ mt_lindexQ hr
theorem pe_bmK (K : PySem.W.Frag) {o e : Expr} {es : List Expr} {to : TE} {t : TA} {name : Str} {apos cpos : Pos} {T id : String} {r : V → List V → Hp → VK → Prop} (pa : PlainAttrs T) (slot : Slot T name id) (hty : typeOf (.builtin id) = pure (.type "method_descriptor")) (hm : MtR X id r) (ho : PE X o to) (ha : PA X (e :: es) t)
    (h : X.K = K := by rfl) (hbase : attributeBase o name X.env (eval o X.env) = eval o X.env := by rfl)
    (hfew : ((backTo cpos (starEach (e :: es) X.env)).all (fun x => !x.1) && (backToKw cpos (keywordEach [] X.env)).all (fun x => x.1.isSome) && decide ((e :: es).length + ([] : List Keyword).length + (if ([] : List Keyword).isEmpty then 0 else 1) < 30)) = true := by rfl)
    (hline : (apos.endLine == cpos.line) = true := by rfl) (hs : starEach (e :: es) X.env = (false, eval e X.env) :: starEach es X.env := by rfl) (hplain : (backTo cpos (starEach es X.env)).any (·.1) = false := by rfl) :
    PE X (.Call (.Attribute o name apos) (e :: es) [] cpos) (tBM K T r to t) := by
  subst h
  exact pe_bm pa slot hty hm ho ha hbase hfew hline hs hplain
variable {K : PySem.W.Frag} {ss : List Sl} {te : TE} {PP : PyData → Prop}
theorem W_sortedT {l : List Nat} (h : Wd te ss (eTN l)) (hl : l.length < 64) (k : ∀ m : List Nat, m.Perm l → m.Pairwise (· ≤ ·) → PP (eLN m)) : W (tCB (rSortedTI K) (tCons te tNil)) ss PP := fun F H nw mt σ e S Q q =>
  h F H nw mt σ e S _ fun v F2 H2 d ed g dv => by
    subst ed
    obtain ⟨a, o, rfl, h1, _, _⟩ := inv_row dv
    refine ⟨a, l.map fun n : Nat => (n : Int), rfl, ?_, by rw [List.length_map]; exact hl, fun ns' p pm pw hp => ?_⟩
    · rw [List.map_map]
      exact row_sq g.fh h1
    · obtain ⟨m, rfl⟩ := nats_of_perm (l := l) (ns := ns') fun x hx => by
        have := pm.mem_iff.mp hx
        obtain ⟨n, hn, e⟩ := List.mem_map.mp this
        exact ⟨n, hn, e.symm⟩
      have pm2 : m.Perm l := by
        have := pm.map Int.toNat
        simpa [List.map_map, Function.comp_def] using this
      have pw2 : m.Pairwise (· ≤ ·) := by
        rw [List.pairwise_map] at pw
        exact pw.imp fun h => by omega
      have g3 : Gr0 F2 H2 (upd F2 p (.lst ((m.map fun n : Nat => (n : Int)).map V.int))) (upd H2 p (.lst ((m.map fun n : Nat => (n : Int)).map V.int))) := Gr.new g.fh hp
      refine q _ _ _ _ (k m pm2 pw2) (g.trans g3) (.lst upd_same ?_ ?_)
      · rw [List.length_map, pm2.length_eq]; omega
      · rw [List.map_map]
        exact all_ints m
theorem sorted_range {n : Nat} {m : List Nat} (pm : m.Perm (List.range n)) (pw : m.Pairwise (· ≤ ·)) : m = List.range n :=
  pm.eq_of_pairwise (fun a b _ _ h1 h2 => Nat.le_antisymm h1 h2) pw (List.pairwise_lt_range.imp fun h => Nat.le_of_lt h)
/-- sorted(t) of a row of all things -/
theorem V_sortedT {l : List Nat} {n : Nat} (h : Wd te ss (eTN l)) (hs : l.Perm (List.range n) ∧ n < 64) : Wd (tCB (rSortedTI K) (tCons te tNil)) ss (eLN (List.range n)) :=
  W_sortedT h (by rw [hs.1.length_eq, List.length_range]; exact hs.2) fun m pm pw => by rw [sorted_range (pm.trans hs.1) pw]
/-! index -/
theorem V_lindex {l : List Nat} {n j : Nat} {ta tb : TE} (ha : Wd ta ss (eLN l)) (hb : Wd tb ss (eN n)) (hj : l[j]? = some n ∧ ∀ m, m < j → l[m]? ≠ some n) : Wd (tBM K "list" (rLix K) ta (tCons tb tNil)) ss (eN j) := fun F H nw mt σ e S Q q =>
  ha F H nw mt σ e S _ fun v F2 H2 d ed g dv => by
    subst ed
    obtain ⟨a, xs, rfl, h1, l1, t1⟩ := inv_lst dv
    refine ⟨.inl ⟨rfl, xs, SqL.of (g.fh _ _ h1)⟩, hb F2 H2 nw mt σ g.fh (S.grow g) _ fun w F3 H3 d2 ed2 g3 dw => ?_⟩
    subst ed2
    obtain rfl := inv_int dw
    have ex := ints_all t1
    subst ex
    exact ⟨a, l, n, j, rfl, rfl, SqL.of (g3.same _ _ (g.fh _ _ h1)), hj.1, hj.2, q _ F3 H3 _ rfl (g.trans g3) (.int _)⟩
theorem V_tindex {l : List Nat} {n j : Nat} {ta tb : TE} (ha : Wd ta ss (eTN l)) (hb : Wd tb ss (eN n)) (hj : l[j]? = some n ∧ ∀ m, m < j → l[m]? ≠ some n) : Wd (tMG tyRow (rTix K) ta (tCons tb tNil)) ss (eN j) := fun F H nw mt σ e S Q q =>
  ha F H nw mt σ e S _ fun v F2 H2 d ed g dv => by
    subst ed
    obtain ⟨a, o, rfl, h1, h2, _⟩ := inv_row dv
    refine ⟨⟨a, o, _, rfl, g.fh _ _ h1, h2⟩, hb F2 H2 nw mt σ g.fh (S.grow g) _ fun w F3 H3 d2 ed2 g3 dw => ?_⟩
    subst ed2
    obtain rfl := inv_int dw
    exact ⟨a, l, n, j, rfl, rfl, row_sq (g.fh.trans g3.same) h1, hj.1, hj.2, q _ F3 H3 _ rfl (g.trans g3) (.int _)⟩
theorem rows_dp {F H : Hp} (e : Same F H) : ∀ {xs : List V} {rs : List (List Nat)}, DnAll F xs (rs.map eTN) → DpAll K H xs (rs.map fun l => PyData.tuple (l.map fun n : Nat => PyData.int (n : Int)))
  | _, [], h => by cases h; exact .nil
  | _, l :: rs, h => by
    cases h with
    | cons a t =>
      obtain ⟨b, o, rfl, h1, _, hl⟩ := inv_row a
      refine .cons (.tup (row_sq e h1) ?_) (rows_dp e t)
      clear h1 a t hl
      induction l with
      | nil => exact .nil
      | cons n l ih => exact .cons (.int _) ih
/-- a list of rows compared with the empty one -/
theorem V_neNilR {rs : List (List Nat)} {ta : TE} (h : Wd ta ss (eLR rs)) : Wd (tOp (rNeD K) ta (tLst tNil)) ss (.bool (!decide (rs = []))) := fun F H nw mt σ e S Q q =>
  h F H nw mt σ e S _ fun v F2 H2 d ed g dv => by
    subst ed
    obtain ⟨a, xs, rfl, h1, l1, t1⟩ := inv_lst dv
    refine ⟨by rw [sizeLine_eq]; simp, fun p hp => ?_⟩
    have g3 : Gr0 F2 H2 (upd F2 p (.lst [])) (upd H2 p (.lst [])) := Gr.new g.fh hp
    refine ⟨.list (rs.map fun l => PyData.tuple (l.map fun n : Nat => PyData.int (n : Int))), .list [], .lst (SqL.of (g3.same _ _ (g.fh _ _ h1))) (rows_dp (g.fh.trans g3.same) t1), .lst (SqL.of upd_same) .nil,
      (DL_list (k := 1) (DL_map fun l => DL_tuple (DL_map DL_eN))).sh, (DL_list (k := 0) (ds := []) (fun d hd => by cases hd)).sh, ?_⟩
    have ev : PyData.eqv (.list (rs.map fun l => PyData.tuple (l.map fun n : Nat => PyData.int (n : Int)))) (.list []) = decide (rs = []) := by
      cases rs with
      | nil => simp [PyData.eqv, PyData.eqvAll]
      | cons r rs => simp [PyData.eqv, PyData.eqvAll]
    rw [ev]
    exact q _ _ _ _ rfl (g.trans g3) (.bl _)
end
end RO
/-! set(t), t a tuple of tuples of ints -/
namespace RO
open PySem PySem.Spec PyProof.Rows L2
section
variable {P : Program} {w : World} {A : Around} {E : Value → Shared → Prop} {s : Shared}
abbrev emptySet (w : World) : Obj := { cls := .type "set", dict := none, data := .set #[] 0 (.fresh 0 0 (!w.params.followText "set-order")) }
theorem none_from {h : Heap} {b : Addr} (hb : h.objs.size ≤ b) : h.get? b = none := by
  cases q : h.get? b with
  | none => rfl
  | some o => exact absurd (Nat.lt_of_lt_of_le (Heap.lt_size q) hb) (Nat.lt_irrefl _)
/-- what the filled set is, behind the heap h0 -/
def Filled (P : Program) (w : World) (ks : List (Addr × List Int)) (s s2 : Shared) : Prop :=
  ∃ h2 tk L es ep tb, s2 = { s with heap := h2, toks := tk } ∧ SetTR P w h2 s.heap.objs.size L es ep tb ∧ Got ks ks.length L ∧ ∀ b o, s.heap.get? b = some o → h2.get? b = some o
/-- the loop of set.update over the tuple's iterator, from an empty new set -/
theorem fill_loop {t : Addr} {vs : Array Value} {B : Around} {R : Result → Shared → Prop} (ks : List (Addr × List Int)) (hB : B.in1.handled = none) (hu : B.in1.units < cLine) (ht : s.heap.IsTuple t vs) (hv : vs.toList = ks.map fun p => Value.ref p.1)
    (hk : ∀ p ∈ ks, IsT P w s.heap p.2 p.1) (few : ks.length < 64) (done : ∀ s2, Filled P w ks s s2 → R (.ok (.ret .none)) s2) :
    codeAny (model P w) B (.builtin "set.update.loop" ⟨[.ref s.heap.objs.size, .ref (s.heap.push (emptySet w)).objs.size], []⟩) R { s with heap := (s.heap.push (emptySet w)).push { cls := .type "tuple_iterator", data := .fields #[.ref t, .int 0 0] } } := by
  have hsz : vs.size = ks.length := by
    have := congrArg List.length hv
    rwa [Array.length_toList, List.length_map] at this
  have hts : t < s.heap.objs.size := by
    obtain ⟨o, ho, _⟩ := ht
    exact Heap.lt_size ho
  have hI : (s.heap.push (emptySet w)).objs.size = s.heap.objs.size + 1 := Heap.size_push ..
  have hneI : t ≠ (s.heap.push (emptySet w)).objs.size := by
    rw [hI]
    exact Nat.ne_of_lt (Nat.lt_succ_of_lt hts)
  have hSf : s.heap.objs.size ∉ [(s.heap.push (emptySet w)).objs.size, t] := by
    rw [hI]
    intro z
    rcases List.mem_cons.mp z with z | z
    · exact absurd z (Nat.ne_of_lt (Nat.lt_succ_self _))
    · exact absurd (List.mem_singleton.mp z) (Nat.ne_of_gt hts)
  have hget : ((s.heap.push (emptySet w)).push { cls := .type "tuple_iterator", data := .fields #[.ref t, .int 0 0] }).get? s.heap.objs.size = some (emptySet w) := Heap.get?_push_of_some _ (Heap.get?_push_size _ rfl)
  refine set_update_tups ((Walks.tuple hB _ t hneI vs).toS) s.heap.objs.size hSf ks hsz few (fun i v hiv => ?_) s.heap hk (none_from (Nat.le_refl _)) (fun b hb => none_from ?_) hu (vs.size - 0) 0 _ (by omega) (Nat.zero_le _)
    ⟨⟨_, Heap.get?_push_size _ rfl, rfl, rfl⟩, (ht.push _).push _⟩ (fun b o e => Heap.get?_push_of_some _ (Heap.get?_push_of_some _ e)) ⟨[], #[], 0, _, setTR_fresh hget, Got.zero ks⟩ fun s2 L es ep tb hm hS g keep => ?_
  · have q : vs.toList[i]? = some v := by rw [Array.getElem?_toList]; exact hiv
    rw [hv, List.getElem?_map] at q
    cases hq : ks[i]? with
    | none => rw [hq] at q; cases q
    | some p =>
      rw [hq] at q
      exact ⟨p, rfl, (Option.some.inj q).symm⟩
  · rw [List.mem_singleton.mp hb, hI]
    exact Nat.le_succ _
  · obtain ⟨h2, g2, d2, tk2, os2⟩ := s2
    obtain rfl : g2 = s.gens := hm.gens
    obtain rfl : d2 = s.drawn := hm.drawn
    obtain rfl : os2 = s.os := hm.os
    rw [hsz] at g
    exact done _ ⟨h2, tk2, L, es, ep, tb, rfl, hS, g, keep⟩
set_option maxRecDepth 100000 in
/-- set(t) -/
theorem set_of_tup {t : Addr} {vs : Array Value} (ks : List (Addr × List Int)) {Q : Value → Shared → Prop} (hh : A.handled = none) (ht : s.heap.IsTuple t vs) (hv : vs.toList = ks.map fun p => Value.ref p.1)
    (hk : ∀ p ∈ ks, IsT P w s.heap p.2 p.1) (few : ks.length < 64) (hu : A.units + 3 < cLine) (done : ∀ s2, Filled P w ks s s2 → Q (.ref s.heap.objs.size) s2) :
    wpAny (model P w) A (call (.type "set") [.ref t]) Q E s := by
  obtain ⟨c, tl, hmro⟩ := F.called_set.mro
  have f1 := F.called_set.made
  have f2 := F.called_set.sub
  have f3 := F.called_set.notType
  have f4 := F.called_set.canCreate
  have f5 := F.typeCall_set_1 (.ref t)
  refine wpAny_call (codeAny_of_tree ?_)
  show wpAny _ _ (callAny (.type "set") _) _ _ _
  refine wpAny_pure ⟨Code.quiet_builtin _ (by decide +kernel), codeAny_builtin F.entry_type_call ?_⟩
  rw [Around.under_plain (weight_type_call_type "set" [.ref t] []) rfl]
  repeat (any_goals (first | assumption | wp_step))
  refine codeAny_mono (code_set_led1 (.ref t) (E := E) (Q₁ := fun v s1 => v = .ref s.heap.objs.size ∧ s1 = { s with heap := s.heap.push (emptySet w) }) ⟨rfl, rfl⟩) fun r s1 hr => ?_
  match r, hr with
  | .error e, hr => exact hr
  | .ok .next, hr => exact hr.elim
  | .ok .brk, hr => exact hr.elim
  | .ok .cont, hr => exact hr.elim
  | .ok (.ret v), hr =>
    obtain ⟨rfl, rfl⟩ := hr
    have hnew : (s.heap.push (emptySet w)).get? s.heap.objs.size = some (emptySet w) := Heap.get?_push_size _ rfl
    have hty : Shared.TypeIs { s with heap := s.heap.push (emptySet w) } (.ref s.heap.objs.size) "set" := ⟨_, hnew, rfl⟩
    have g1 := F.called_set.init.lookup
    have g2 := F.called_set.init.bind (.ref s.heap.objs.size)
    repeat (any_goals (first | assumption | wp_step))
    refine codeAny_mono (codeAny_call_builtin (R := wants (fun v s2 => v = .none ∧ Filled P w ks s s2) E) F.called_set.init.plain F.entry_set_init (check_set_init_1 hty ?_)) fun r2 s2 hr2 => ?_
    · obtain ⟨⟨oc, od, odt, osl⟩, ho, hc, n, hd⟩ := id ht
      simp only at hc hd
      subst hc hd
      have ho2 : (s.heap.push (emptySet w)).get? t = some { cls := .type "tuple", dict := od, data := .seq vs n, slots := osl } := Heap.get?_push_of_some _ ho
      have e1 := F.sub_tuple_set
      have e2 := F.sub_tuple_frozenset
      have e3 : (Value.type "tuple" == Value.type "dict") = false := by decide
      have ht1 : (s.heap.push (emptySet w)).IsTuple t vs := ⟨_, ho2, rfl, n, rfl⟩
      unfold Builtin.«set.__init__» noKeywords Builtin.Frozenset.updateFrom
      generalize hI : pyIter = I
      wp_walk
      subst hI
      refine wpAny_pyIter_tuple ht1 (wpAny_bind (wpAny_runValue (fill_loop ks (by simp [hh]) hu ht hv hk few fun s3 hs3 => ?_)))
      exact wpAny_pure (wpAny_pure ⟨rfl, hs3⟩)
    · match r2, hr2 with
      | .error e, hr2 => exact hr2
      | .ok .next, hr2 => exact hr2.elim
      | .ok .brk, hr2 => exact hr2.elim
      | .ok .cont, hr2 => exact hr2.elim
      | .ok (.ret v2), hr2 =>
        obtain ⟨rfl, hs3⟩ := hr2
        have k := done _ hs3
        obtain ⟨h2, tk, L, es, ep, tb, rfl, hS, g, keep⟩ := hs3
        repeat (any_goals (first | assumption | wp_step))
end
section
variable {X : Cx}
def rSetOfTT (K : PySem.W.Frag) (P : Program) (w : World) : List V → Hp → VK → Prop := fun xs H Q => ∃ (l : Addr) (ks : List (Addr × List Int)), xs = [V.ref l] ∧ SqT K H l (ks.map fun p => V.ref p.1) ∧ (∀ p ∈ ks, SqT K H p.1 (p.2.map V.int)) ∧ ks.length < 64 ∧
  ∀ a L, H a = none → (∀ p ∈ L, p ∈ ks) → (∀ p ∈ ks, p.2 ∈ L.map (·.2)) → Q (.ref a) (upd H a (SetTO P w a L))
theorem c_setT (hc : X.calm = true) (hu : X.A.units + 64 < cLine) : CallR X (.type "set") (rSetOfTT X.K X.prog X.w) := by
  intro pins s σ H xs us Q I r h
  obtain ⟨l, ks, rfl, hl, hk, hf, q⟩ := h
  rw [Vals.ref1 r]
  obtain ⟨its, rv, pl, hz⟩ := I.tuple hl
  have hn : H s.heap.objs.size = none := I.hok.fresh (Nat.le_refl _)
  refine set_of_tup (P := X.prog) (w := X.w) ks (I.ok.hd hc) (vs := its.toArray) pl (by simpa using refs_of_vals rv) (fun p hp => I.isT (hk p hp)) hf (by omega) fun s2 hs2 => ?_
  obtain ⟨h2, tk, L, es, ep, t, rfl, R, g, k⟩ := hs2
  refine ⟨.ref s.heap.objs.size, upd H s.heap.objs.size (SetTO X.prog X.w s.heap.objs.size L), I.laid (t' := tk) k (Nat.le_refl _) (setTO_new R.t0), rfl, q _ L hn (fun p hp => ?_) fun p hp => ?_⟩
  · exact List.mem_of_mem_take (g.sub p hp)
  · exact g.all p (by rw [List.take_length]; exact hp)
end
section
variable {K : PySem.W.Frag} {P : Program} {w : World} {ss : List Sl} {te : TE}
theorem V_sortsetT {l : List Pr} {n : Nat} (h : Wd te ss (eTP l)) (hs : l.length < 64 ∧ n ≤ 64 ∧ ∀ p ∈ l, p.1 < n ∧ p.2 < n) : Wd (tCB (rSortedT K P w) (tCons (tCB (rSetOfTT K P w) (tCons te tNil)) tNil)) ss (eLP (prs n (inL l))) := fun F H nw mt σ e S Q q =>
  h F H nw mt σ e S _ fun v F2 H2 d ed g dv => by
    subst ed
    obtain ⟨a, xs, rfl, h1, l1, t1⟩ := inv_tup dv
    obtain ⟨ks, rfl, e2, e3⟩ := ks_of t1
    have hlen : ks.length = l.length := by
      have := congrArg List.length e2
      simpa using this
    refine ⟨a, ks, rfl, SqT.of (g.fh _ _ h1), fun p hp => SqT.of (g.fh _ _ (e3 p hp)), by omega, fun b L hb hL1 hL2 => ?_⟩
    obtain ⟨b1, b2⟩ := sortset_end (F := F2) (H := H2) hs.2.1 hs.2.2 e2 e3 hL1 hL2
    have g2 : Gr0 F2 H2 F2 (upd H2 b (SetTO P w b L)) := Gr.new' g.fh hb
    refine ⟨b, L, 2, 64, rfl, upd_same, fun p hp => SqT.of (g2.fh _ _ (e3 p (hL1 p hp))), by omega, b1, fun L' p pm nd _ pw hp => ?_⟩
    have g3 : Gr0 F2 (upd H2 b (SetTO P w b L)) (upd F2 p (.lst (L'.map fun q => V.ref q.1))) (upd (upd H2 b (SetTO P w b L)) p (.lst (L'.map fun q => V.ref q.1))) := Gr.new g2.fh hp
    have dd := b2 L' pm nd pw
    refine q _ _ _ _ rfl ((g.trans g2).trans g3) (.lst upd_same ?_ (dd.mono g3.ff))
    rw [List.length_map]
    refine Nat.le_trans (prs_length_le _ _) ?_
    have := Nat.mul_le_mul hs.2.1 hs.2.1
    omega
end
end RO
/-! own dicts: reads and writes -/
namespace RO
open PySem PySem.Spec PyProof.Rows L2
section
variable {κ β : Type} [DecidableEq κ]
def vl (kvs : List (κ × β)) (k : κ) : Option β := (kvs.find? fun kv => decide (kv.1 = k)).map (·.2)
def pu (kvs : List (κ × β)) (k : κ) (v : β) : List (κ × β) := if (kvs.any fun kv => decide (kv.1 = k)) = true then kvs.map (fun kv => if kv.1 = k then (kv.1, v) else kv) else kvs ++ [(k, v)]
theorem vl_cons (q : κ × β) (kvs : List (κ × β)) (k : κ) : vl (q :: kvs) k = if q.1 = k then some q.2 else vl kvs k := by
  unfold vl
  rw [List.find?_cons]
  by_cases e : q.1 = k <;> simp [e]
theorem vl_isSome (kvs : List (κ × β)) (k : κ) : (vl kvs k).isSome = kvs.any fun kv => decide (kv.1 = k) := by
  induction kvs with
  | nil => rfl
  | cons q kvs ih =>
    rw [vl_cons, List.any_cons, ← ih]
    by_cases e : q.1 = k <;> simp [e]
theorem vl_some_iff (kvs : List (κ × β)) (k : κ) : (vl kvs k).isSome = decide (k ∈ kvs.map (·.1)) := by
  rw [vl_isSome, Bool.eq_iff_iff, List.any_eq_true, decide_eq_true_iff, List.mem_map]
  constructor
  · rintro ⟨q, h1, h2⟩; exact ⟨q, h1, by simpa using h2⟩
  · rintro ⟨q, h1, h2⟩; exact ⟨q, h1, by simpa using h2⟩
theorem vl_new {kvs : List (κ × β)} {k : κ} (h : k ∉ kvs.map (·.1)) (v : β) : pu kvs k v = kvs ++ [(k, v)] := by
  unfold pu
  have := vl_some_iff kvs k
  rw [vl_isSome, decide_eq_false h] at this
  rw [if_neg (by rw [this]; decide)]
end
theorem kP_inj {a b : Nat × Nat} (h : kP a = kP b) : a = b := by
  simp only [kP, List.cons.injEq, Sum.inl.injEq, and_true] at h
  obtain ⟨a1, a2⟩ := a
  obtain ⟨b1, b2⟩ := b
  simp only [Prod.mk.injEq]
  simp only at h
  omega
theorem vl_eK (kvs : List (Nat × Nat)) (n : Nat) : valV (eK kvs) (Sum.inl (n : Int) : Key) = (vl kvs n).map fun m => V.int (m : Int) := by
  induction kvs with
  | nil => rfl
  | cons q kvs ih =>
    rw [vl_cons]
    by_cases e : q.1 = n
    · rw [if_pos e]
      exact valV_pos (p := ((Sum.inl (q.1 : Int) : Key), V.int (q.2 : Int))) (by rw [e])
    · rw [if_neg e, ← ih]
      refine valV_neg (p := ((Sum.inl (q.1 : Int) : Key), V.int (q.2 : Int))) fun z => e ?_
      have := Sum.inl.inj z
      omega
theorem any_eK (kvs : List (Nat × Nat)) (n : Nat) : ((eK kvs).any fun kv => decide (kv.1 = (Sum.inl (n : Int) : Key))) = kvs.any fun kv => decide (kv.1 = n) := by
  rw [valV_any, vl_eK, ← vl_isSome]
  cases vl kvs n <;> rfl
theorem pu_eK (kvs : List (Nat × Nat)) (n m : Nat) : putK (eK kvs) (Sum.inl (n : Int) : Key) (V.int (m : Int)) = eK (pu kvs n m) := by
  unfold putK pu
  rw [any_eK]
  by_cases e : (kvs.any fun kv => decide (kv.1 = n)) = true
  · rw [if_pos e, if_pos e]
    unfold eK
    rw [List.map_map, List.map_map]
    refine List.map_congr_left fun q _ => ?_
    show (if (Sum.inl (q.1 : Int) : Key) = Sum.inl (n : Int) then _ else _) = _
    by_cases z : q.1 = n
    · rw [if_pos (by rw [z])]
      show _ = (fun q : Nat × Nat => ((Sum.inl (q.1 : Int) : Key), V.int (q.2 : Int))) (if q.1 = n then (q.1, m) else q)
      rw [if_pos z]
    · rw [if_neg (fun y => z (by have := Sum.inl.inj y; omega))]
      show _ = (fun q : Nat × Nat => ((Sum.inl (q.1 : Int) : Key), V.int (q.2 : Int))) (if q.1 = n then (q.1, m) else q)
      rw [if_neg z]
  · rw [if_neg e, if_neg e]
    unfold eK
    rw [List.map_append]
    rfl
theorem DT_vl {F : Hp} {k : Nat × Nat} : ∀ {ws : List (List Key × V)} {kvs : List ((Nat × Nat) × PyData)}, DT F ws kvs → (vl kvs k = none ∧ valV ws (kP k) = none) ∨ ∃ d v, vl kvs k = some d ∧ valV ws (kP k) = some v ∧ Dn F v d
  | _, _, .nil => .inl ⟨rfl, rfl⟩
  | _, _, @DT.cons _ k' v d ws kvs hv t => by
    rw [vl_cons]
    by_cases e : k' = k
    · subst e
      exact .inr ⟨d, v, if_pos rfl, valV_pos rfl, hv⟩
    · rw [if_neg e, valV_neg (fun z => e (kP_inj z))]
      exact DT_vl t
theorem DT_any {F : Hp} {k : Nat × Nat} {ws : List (List Key × V)} {kvs : List ((Nat × Nat) × PyData)} (h : DT F ws kvs) : (ws.any fun kv => decide (kv.1 = kP k)) = kvs.any fun kv => decide (kv.1 = k) := by
  rw [valV_any, ← vl_isSome]
  rcases DT_vl (k := k) h with ⟨a, b⟩ | ⟨d, v, a, b, _⟩ <;> rw [a, b] <;> rfl
theorem DT_len {F : Hp} : ∀ {ws : List (List Key × V)} {kvs : List ((Nat × Nat) × PyData)}, DT F ws kvs → ws.length = kvs.length
  | _, _, .nil => rfl
  | _, _, .cons _ t => by rw [List.length_cons, List.length_cons, DT_len t]
theorem DT_app {F : Hp} {k : Nat × Nat} {v : V} {d : PyData} (hd : Dn F v d) : ∀ {ws : List (List Key × V)} {kvs : List ((Nat × Nat) × PyData)}, DT F ws kvs → DT F (ws ++ [(kP k, v)]) (kvs ++ [(k, d)])
  | _, _, .nil => .cons hd .nil
  | _, _, .cons h t => .cons h (DT_app hd t)
theorem DT_map {F : Hp} {k : Nat × Nat} {v : V} {d : PyData} (hd : Dn F v d) : ∀ {ws : List (List Key × V)} {kvs : List ((Nat × Nat) × PyData)}, DT F ws kvs → DT F (ws.map fun kv => if kv.1 = kP k then (kv.1, v) else kv) (kvs.map fun kv => if kv.1 = k then (kv.1, d) else kv)
  | _, _, .nil => .nil
  | _, _, @DT.cons _ k' v' d' ws kvs hv t => by
    rw [List.map_cons, List.map_cons]
    by_cases e : k' = k
    · rw [if_pos e, if_pos (by rw [e])]
      exact .cons hd (DT_map hd t)
    · rw [if_neg e, if_neg (fun z => e (kP_inj z))]
      exact .cons hv (DT_map hd t)
theorem DT_pu {F : Hp} {k : Nat × Nat} {v : V} {d : PyData} {ws : List (List Key × V)} {kvs : List ((Nat × Nat) × PyData)} (h : DT F ws kvs) (hd : Dn F v d) : DT F (putK ws (kP k) v) (pu kvs k d) := by
  unfold putK pu
  rw [DT_any h]
  by_cases e : (kvs.any fun kv => decide (kv.1 = k)) = true
  · rw [if_pos e, if_pos e]; exact DT_map hd h
  · rw [if_neg e, if_neg e]; exact DT_app hd h
/-! ### reads -/
def isCt (s : Sl) (c : Ct) : Prop := s = .own c ∨ ∃ a, s = .par a c
theorem SLs.ct {F H : Hp} {nw mt : Addr → Prop} {σ : L2.St} {ss : List Sl} (S : SLs F H nw mt σ ss) {i : Nat} {s : Sl} {c : Ct} (h : ss[i]? = some s) (hs : isCt s c) : ∃ p, σ[i]? = some (some (.ref p)) ∧ F p = none ∧ cOk F H p c := by
  have q := S.ok i s h
  rcases hs with rfl | ⟨a, rfl⟩
  · obtain ⟨p, e, f, _, c⟩ := q
    exact ⟨p, e, f, c⟩
  · obtain ⟨p, e, f, _, c⟩ := q
    exact ⟨p, e, f, c⟩
theorem key_at {F H : Hp} {y : V} {p : Nat × Nat} (e : Same F H) (h : Dn F y (eP p)) : ∃ b, y = .ref b ∧ H b = some (.tup ((kP p).map kV)) := by
  obtain ⟨a, xs, rfl, h1, _, h2⟩ := inv_tup h
  obtain ⟨v, w, rfl, h3, h4⟩ := all2 h2
  cases inv_int h3
  cases inv_int h4
  exact ⟨a, rfl, e _ _ h1⟩
section
variable {K : PySem.W.Frag} {ss : List Sl} {P : PyData → Prop} {ta tb te ty tv : TE} {k : Ks} {i : Nat} {s : Sl}
theorem get_k {F H F2 H2 : Hp} {σ : L2.St} {nw mt : Addr → Prop} {kvs : List (Nat × Nat)} (S : SLs F H nw mt σ ss) (hi : ss[i]? = some s) (hs : isCt s (.dK kvs)) (g : Gr0 F H F2 H2) {y : V} {n : Nat} (dy : Dn F2 y (eN n)) :
    ∃ a, σ[i]? = some (some (.ref a)) ∧ DGet H2 a y ((vl kvs n).map fun m => V.int (m : Int)) := by
  obtain ⟨a, e, f, c⟩ := S.ct hi hs
  cases inv_int dy
  refine ⟨a, e, ?_⟩
  rw [← vl_eK]
  exact DGet.k (k := (Sum.inl (n : Int) : Key)) (g.same _ _ c)
theorem get_t {F H F2 H2 : Hp} {σ : L2.St} {nw mt : Addr → Prop} {kvs : List ((Nat × Nat) × PyData)} (S : SLs F H nw mt σ ss) (hi : ss[i]? = some s) (hs : isCt s (.dT kvs)) (g : Gr0 F H F2 H2) {y : V} {n : Nat × Nat} (dy : Dn F2 y (eP n)) :
    ∃ a ws, σ[i]? = some (some (.ref a)) ∧ DT F2 ws kvs ∧ DGet H2 a y (valV ws (kP n)) := by
  obtain ⟨a, e, f, ws, h1, h2⟩ := S.ct hi hs
  obtain ⟨b, rfl, hb⟩ := key_at g.fh dy
  exact ⟨a, ws, e, h2.mono g.ff, DGet.t (g.same _ _ h1) hb⟩
theorem W_dinK {kvs : List (Nat × Nat)} (hi : ss[i]? = some s) (hs : isCt s (.dK kvs)) (h : W ty ss fun x => ∃ n : Nat, x = eN n ∧ P (.bool (decide (n ∈ kvs.map (·.1))))) : W (tDIn ty (tVar i)) ss P := fun F H nw mt σ e S Q q =>
  h F H nw mt σ e S _ fun y F2 H2 d ⟨n, ed, p⟩ g dy => by
    subst ed
    obtain ⟨a, ea, hg⟩ := get_k S hi hs g dy
    refine ⟨.ref a, ea, a, _, rfl, hg, q _ F2 H2 _ p g ?_⟩
    rw [← vl_some_iff]
    cases vl kvs n <;> exact .bl _
theorem W_dninK {kvs : List (Nat × Nat)} (hi : ss[i]? = some s) (hs : isCt s (.dK kvs)) (h : W ty ss fun x => ∃ n : Nat, x = eN n ∧ P (.bool (!decide (n ∈ kvs.map (·.1))))) : W (tDNotIn ty (tVar i)) ss P := fun F H nw mt σ e S Q q =>
  h F H nw mt σ e S _ fun y F2 H2 d ⟨n, ed, p⟩ g dy => by
    subst ed
    obtain ⟨a, ea, hg⟩ := get_k S hi hs g dy
    refine ⟨.ref a, ea, a, _, rfl, hg, q _ F2 H2 _ p g ?_⟩
    rw [← vl_some_iff]
    cases vl kvs n <;> exact .bl _
theorem W_dgetK {kvs : List (Nat × Nat)} (hi : ss[i]? = some s) (hs : isCt s (.dK kvs)) (h : W ty ss fun x => ∃ (n m : Nat), x = eN n ∧ vl kvs n = some m ∧ P (eN m)) : W (tDGet (tVar i) ty) ss P := fun F H nw mt σ e S Q q => by
  obtain ⟨a0, ea0, _, _⟩ := S.ct hi hs
  refine ⟨.ref a0, ea0, h F H nw mt σ e S _ fun y F2 H2 d ⟨n, m, ed, hv, p⟩ g dy => ?_⟩
  subst ed
  obtain ⟨a, ea, hg⟩ := get_k S hi hs g dy
  rw [hv] at hg
  rw [ea0] at ea
  cases ea
  exact ⟨a0, _, rfl, hg, q _ F2 H2 _ p g (.int _)⟩
theorem W_dinT {kvs : List ((Nat × Nat) × PyData)} (hi : ss[i]? = some s) (hs : isCt s (.dT kvs)) (h : W ty ss fun x => ∃ n : Nat × Nat, x = eP n ∧ P (.bool (decide (n ∈ kvs.map (·.1))))) : W (tDIn ty (tVar i)) ss P := fun F H nw mt σ e S Q q =>
  h F H nw mt σ e S _ fun y F2 H2 d ⟨n, ed, p⟩ g dy => by
    subst ed
    obtain ⟨a, ws, ea, dt, hg⟩ := get_t S hi hs g dy
    refine ⟨.ref a, ea, a, _, rfl, hg, q _ F2 H2 _ p g ?_⟩
    rw [show decide (n ∈ kvs.map (·.1)) = (vl kvs n).isSome from (decide_eq_decide.mpr Iff.rfl).trans (vl_some_iff kvs n).symm]
    rcases DT_vl (k := n) dt with ⟨x1, x2⟩ | ⟨d, v, x1, x2, _⟩ <;> rw [x1, x2] <;> exact .bl _
theorem W_dninT {kvs : List ((Nat × Nat) × PyData)} (hi : ss[i]? = some s) (hs : isCt s (.dT kvs)) (h : W ty ss fun x => ∃ n : Nat × Nat, x = eP n ∧ P (.bool (!decide (n ∈ kvs.map (·.1))))) : W (tDNotIn ty (tVar i)) ss P := fun F H nw mt σ e S Q q =>
  h F H nw mt σ e S _ fun y F2 H2 d ⟨n, ed, p⟩ g dy => by
    subst ed
    obtain ⟨a, ws, ea, dt, hg⟩ := get_t S hi hs g dy
    refine ⟨.ref a, ea, a, _, rfl, hg, q _ F2 H2 _ p g ?_⟩
    rw [show decide (n ∈ kvs.map (·.1)) = (vl kvs n).isSome from (decide_eq_decide.mpr Iff.rfl).trans (vl_some_iff kvs n).symm]
    rcases DT_vl (k := n) dt with ⟨x1, x2⟩ | ⟨d, v, x1, x2, _⟩ <;> rw [x1, x2] <;> exact .bl _
theorem W_dgetT {kvs : List ((Nat × Nat) × PyData)} (hi : ss[i]? = some s) (hs : isCt s (.dT kvs)) (h : W ty ss fun x => ∃ (n : Nat × Nat) (d : PyData), x = eP n ∧ vl kvs n = some d ∧ P d) : W (tDGet (tVar i) ty) ss P := fun F H nw mt σ e S Q q => by
  obtain ⟨a0, ea0, _, _⟩ := S.ct hi hs
  refine ⟨.ref a0, ea0, h F H nw mt σ e S _ fun y F2 H2 d ⟨n, m, ed, hv, p⟩ g dy => ?_⟩
  subst ed
  obtain ⟨a, ws, ea, dt, hg⟩ := get_t S hi hs g dy
  rw [ea0] at ea
  cases ea
  rcases DT_vl (k := n) dt with ⟨x1, x2⟩ | ⟨d, v, x1, x2, dv⟩
  · rw [x1] at hv; cases hv
  · rw [x1] at hv
    cases hv
    rw [x2] at hg
    exact ⟨a0, _, rfl, hg, q _ F2 H2 _ p g dv⟩
/-! ### writes -/
theorem T_dputK {kvs : List (Nat × Nat)} (hi : ss[i]? = some (.own (.dK kvs))) (hl : kvs.length ≤ 1000) (h : W tv ss fun x => W ty ss fun y => ∃ n m : Nat, y = eN n ∧ x = eN m ∧ k.nx (ss.set i (.own (.dK (pu kvs n m))))) : Tt (sDPut (tVar i) ty tv) ss k := fun nw mt F H σ D C p => by
  obtain ⟨a, e1, hF, hn, hx⟩ := C.sl.ok i _ hi
  refine h F H nw mt σ C.fh C.sl _ fun v F2 H2 d hk g dv => ⟨.ref a, e1, ?_⟩
  have C2 := C.grow g
  refine hk F2 H2 nw mt σ C2.fh C2.sl _ fun y F3 H3 d2 ⟨n, m, en, em, kn⟩ g3 dy => ?_
  subst en em
  cases inv_int (dv.mono g3.ff)
  cases inv_int dy
  have C3 := C2.grow g3
  have hx3 : H3 a = some (.dK (eK kvs)) := g3.same _ _ (g.same _ _ hx)
  refine ⟨a, _, rfl, DPut.k (k := (Sum.inl (n : Int) : Key)) hx3 (by rw [sizeLine_eq]; simp [eK]; omega), ?_⟩
  rw [pu_eK]
  obtain ⟨gs, C4⟩ := C3.wrO (c' := .dK (pu kvs n m)) (o := .dK (eK (pu kvs n m))) hi e1 upd_same
  exact p.nx F3 _ σ _ kn (((C.gs g).trans (C2.gs g3)).trans gs) C4
theorem T_dputT {kvs : List ((Nat × Nat) × PyData)} (hi : ss[i]? = some (.own (.dT kvs))) (hl : kvs.length ≤ 1000) (h : W tv ss fun x => W ty ss fun y => ∃ n : Nat × Nat, y = eP n ∧ k.nx (ss.set i (.own (.dT (pu kvs n x))))) : Tt (sDPut (tVar i) ty tv) ss k := fun nw mt F H σ D C p => by
  obtain ⟨a, e1, hF, hn, ws, hx, dt⟩ := C.sl.ok i _ hi
  refine h F H nw mt σ C.fh C.sl _ fun v F2 H2 d hk g dv => ⟨.ref a, e1, ?_⟩
  have C2 := C.grow g
  refine hk F2 H2 nw mt σ C2.fh C2.sl _ fun y F3 H3 d2 ⟨n, en, kn⟩ g3 dy => ?_
  subst en
  have C3 := C2.grow g3
  obtain ⟨b, rfl, hb⟩ := key_at C3.fh dy
  have hx3 : H3 a = some (.dT ws) := g3.same _ _ (g.same _ _ hx)
  refine ⟨a, _, rfl, DPut.t hx3 hb (by rw [sizeLine_eq, DT_len dt]; omega), ?_⟩
  obtain ⟨gs, C4⟩ := C3.wrO (c' := .dT (pu kvs n d)) (o := .dT (putK ws (kP n) v)) hi e1 ⟨_, upd_same, DT_pu ((dt.mono g.ff).mono g3.ff) (dv.mono g3.ff)⟩
  exact p.nx F3 _ σ _ kn (((C.gs g).trans (C2.gs g3)).trans gs) C4
/-- x = {k: v}, k a pair -/
theorem T_dispT (h : W ty ss fun x => W tv ss fun y => ∃ n : Nat × Nat, x = eP n ∧ k.nx (ss.set i (.own (.dT [(n, y)])))) : Tt (tAsg (tDisp1T ty tv) (gName i)) ss k := fun nw mt F H σ D C p a ha => by
  have hn : nw a := by
    by_cases z : nw a
    · exact z
    · exact absurd ha (C.al a z)
  have hF : F a = none := Gr.fresh C.fh ha
  have gn : Gr0 F H F (upd H a (.dT [])) := Gr.new' C.fh ha
  have C1 := C.grow gn
  refine h F _ nw mt σ C1.fh C1.sl _ fun v F2 H2 d hk g dv => ?_
  have C2 := C1.grow g
  refine hk F2 H2 nw mt σ C2.fh C2.sl _ fun y F3 H3 d2 ⟨n, en, kn⟩ g3 dy => ?_
  subst en
  have C3 := C2.grow g3
  obtain ⟨b, rfl, hb⟩ := key_at C3.fh (dv.mono g3.ff)
  have hx1 : (upd H a (.dT [])) a = some (.dT []) := upd_same
  have hx3 : H3 a = some (.dT []) := g3.same _ _ (g.same _ _ hx1)
  have hF2 : F2 a = none := g.nw a hF ⟨_, hx1, fun _ z => nomatch z⟩
  have hF3 : F3 a = none := g3.nw a hF2 ⟨_, g.same _ _ hx1, fun _ z => nomatch z⟩
  refine ⟨b, _, rfl, hb, hx3, ?_⟩
  have hall := ((gn.trans g).trans g3)
  have c3 : cOk F3 (upd H3 a (.dT [(kP n, y)])) a (.dT [(n, d2)]) := ⟨_, upd_same, .cons dy .nil⟩
  have gw : Gr0 F H F3 (upd H3 a (.dT [(kP n, y)])) := hall.wrN ha hF3
  refine p.nx F3 _ _ _ kn (C.gs gw) ⟨gw.fh, (C.sl.grow gw).setO i hF3 hn c3 fun j s' _ hj ho hz => ?_, fun b' n' => gw.dm b' (C.al b' n'), C.ov⟩
  have q := C.sl.ok j s' hj
  cases s' with
  | no => cases ho
  | dat d => cases ho
  | own c' =>
    obtain ⟨p', e', _, _, c2⟩ := q
    rw [hz] at e'; cases e'
    exact cOk_ne c2 ha
  | par _ c' =>
    obtain ⟨p', e', _, _, c2⟩ := q
    rw [hz] at e'; cases e'
    exact cOk_ne c2 ha
/-- x = f(..), where f hands back an object of its own making -/
theorem T_callO {Pre : List PyData → (Sl → Prop) → Prop} {E : XK} {A : TA} (h : WA A ss fun ds => ∃ R, Pre ds R ∧ ∀ s, R s → ∃ c, s = .own c ∧ k.nx (ss.set i (.own c))) : Tt (tAsg (tCall (SpD Pre) [] E A) (gName i)) ss k := fun nw mt F H σ D C p =>
  h F H nw mt σ C.fh C.sl _ fun vs F2 H2 ds ⟨R, pre, kk⟩ g dv => ⟨F2, ds, R, g.fh, by rw [List.append_nil]; exact dv, pre, fun v F3 H3 s hs g3 hv => by
    obtain ⟨c, rfl, kn⟩ := kk s hs
    obtain ⟨a, rfl, hF3, h0, hc⟩ := hv
    have C2 := C.grow g
    have C3 := C2.grow g3
    have hn : nw a := by
      by_cases z : nw a
      · exact z
      · exact absurd h0 (C2.al a z)
    refine p.nx F3 H3 _ _ kn ((C.gs g).trans (C2.gs g3)) ⟨C3.fh, C3.sl.setO i hF3 hn hc fun j s' _ hj ho hz => ?_, C3.al, C.ov⟩
    have q := C2.sl.ok j s' hj
    cases s' with
    | no => cases ho
    | dat d => cases ho
    | own c' =>
      obtain ⟨p', e', _, _, c2⟩ := q
      rw [hz] at e'; cases e'
      exact cOk_ne c2 h0
    | par _ c' =>
      obtain ⟨p', e', _, _, c2⟩ := q
      rw [hz] at e'; cases e'
      exact cOk_ne c2 h0⟩
def rListDT : List V → Hp → VK → Prop := fun xs H Q => ∃ d kvs, xs = [V.ref d] ∧ Rd H d (.dT kvs) ∧ ∀ p bs, H p = none → IsKeys H kvs bs → Q (.ref p) (upd H p (.lst (bs.map V.ref)))
/-- F and the tuples of some addresses -/
theorem frz_keys {F H : Hp} (e : Same F H) {ws : List (List Key × V)} {kvs : List ((Nat × Nat) × PyData)} {bs : List Addr} (dt : DT F ws kvs) (hk : IsKeys H ws bs) : ∃ F2, Gr0 F H F2 H ∧ DnAll F2 (bs.map V.ref) (kvs.map fun q => eP q.1) := by
  classical
  have tup : ∀ b ∈ bs, ∃ xs, H b = some (.tup xs) := by
    clear dt
    unfold IsKeys at hk
    induction hk with
    | nil => intro b hb; cases hb
    | cons h t ih =>
      intro b hb
      rcases List.mem_cons.mp hb with z | z
      · rw [z]; exact ⟨_, h⟩
      · exact ih b z
  refine ⟨fun a => if a ∈ bs then H a else F a, ⟨fun a o h => ?_, fun a o h => ?_, fun _ _ _ h => h, fun a h1 h2 => ?_, fun _ h => h⟩, ?_⟩
  · show (if a ∈ bs then H a else F a) = some o
    by_cases z : a ∈ bs
    · rw [if_pos z]; exact e _ _ h
    · rw [if_neg z]; exact h
  · have h : (if a ∈ bs then H a else F a) = some o := h
    by_cases z : a ∈ bs
    · rw [if_pos z] at h; exact h
    · rw [if_neg z] at h; exact e _ _ h
  · show (if a ∈ bs then H a else F a) = none
    by_cases z : a ∈ bs
    · obtain ⟨xs, hx⟩ := tup a z
      obtain ⟨o, ho, n⟩ := h2
      rw [hx] at ho; cases ho
      exact absurd rfl (n xs)
    · rw [if_neg z]; exact h1
  · have gen : ∀ {ws : List (List Key × V)} {kvs : List ((Nat × Nat) × PyData)} {cs : List Addr}, DT F ws kvs → IsKeys H ws cs → (∀ c ∈ cs, c ∈ bs) → DnAll (fun a => if a ∈ bs then H a else F a) (cs.map V.ref) (kvs.map fun q => eP q.1) := by
      intro ws kvs cs dt hk
      induction dt generalizing cs with
      | nil =>
        unfold IsKeys at hk
        cases hk
        intro _; exact .nil
      | cons h t ih =>
        unfold IsKeys at hk
        cases hk with
        | cons h' t' =>
          intro hc
          refine .cons (.tup (xs := [V.int _, V.int _]) ?_ (by show 2 ≤ 100000; omega) (.cons (.int _) (.cons (.int _) .nil))) (ih t' fun c hc' => hc c (List.mem_cons_of_mem _ hc'))
          show (if _ ∈ bs then _ else _) = _
          rw [if_pos (hc _ List.mem_cons_self)]
          exact h'
    exact gen dt hk fun c h => h
/-- list(f(..)), f hands back a dict of pairs: its keys -/
theorem W_listDT {Pre : List PyData → (Sl → Prop) → Prop} {E : XK} {A : TA} (h : WA A ss fun ds => ∃ R, Pre ds R ∧ ∀ s, R s → ∃ kvs, s = .own (.dT kvs) ∧ kvs.length ≤ 1000 ∧ P (.list (kvs.map fun q => eP q.1))) : W (tCB rListDT (tCons (tCall (SpD Pre) [] E A) tNil)) ss P := fun F H nw mt σ e S Q q =>
  h F H nw mt σ e S _ fun vs F2 H2 ds ⟨R, pre, kk⟩ g dv => ⟨F2, ds, R, g.fh, by rw [List.append_nil]; exact dv, pre, fun v F3 H3 s hs g3 hv => by
    obtain ⟨kvs, rfl, hl, p⟩ := kk s hs
    obtain ⟨a, rfl, hF3, h0, ws, hc, dt⟩ := hv
    refine ⟨a, ws, rfl, .of hc, fun b bs hb hk => ?_⟩
    obtain ⟨F4, g4, da⟩ := frz_keys g3.fh dt hk
    have g5 : Gr0 F4 H3 (upd F4 b (.lst (bs.map V.ref))) (upd H3 b (.lst (bs.map V.ref))) := Gr.new g4.fh hb
    refine q _ _ _ _ p (((g.trans g3).trans g4).trans g5) (.lst upd_same (by rw [List.length_map]; omega) (da.mono g5.ff))⟩
end
end RO
/-! own lists: reads of one place; insert; pop -/
namespace RO
open PySem PySem.Spec PyProof.Rows L2
def rIns : V → List V → Hp → VK → Prop := fun x vs H Q => ∃ (l : Addr) (xs : List V) (i : Int) (y : V), x = .ref l ∧ vs = [.int i, y] ∧ H l = some (.lst xs) ∧ xs.length < sizeLine ∧ 0 ≤ i ∧ i < 2 ^ 63 ∧
    Q .non (upd H l (.lst (xs.take i.toNat ++ [y] ++ xs.drop i.toNat)))
section
variable {K : PySem.W.Frag} {ss : List Sl} {P : PyData → Prop} {ta tb te ty tv : TE} {k : Ks} {i : Nat} {s : Sl}
theorem W_ixO {ds : List PyData} (hi : ss[i]? = some s) (hs : isCt s (.lst ds)) (h : W tb ss fun y => ∃ (j : Nat) (d : PyData), y = .int j ∧ ds[j]? = some d ∧ P d) : W (tOp (rIxL K) (tVar i) tb) ss P := fun F H nw mt σ e S Q q => by
  obtain ⟨a, ea, _, _, xs, hx, hd⟩ := S.ct hi hs
  refine ⟨.ref a, ea, h F H nw mt σ e S _ fun y F2 H2 d' ⟨j, d, ej, hj, p⟩ g dy => ?_⟩
  subst ej
  cases inv_int dy
  obtain ⟨z, hz, dz⟩ := hd.get hj
  exact ⟨a, xs, j, z, rfl, rfl, SqL.of (g.same _ _ hx), atI_nat hz, q z F2 H2 d p g (dz.mono g.ff)⟩
theorem W_ixLO {ds : List PyData} {d : PyData} (hi : ss[i]? = some s) (hs : isCt s (.lst (ds ++ [d]))) (p : P d) : W (tOp (rIxL K) (tVar i) (tUn (rU fun i => .int (-i)) (tC (.int 1)))) ss P := fun F H nw mt σ e S Q q => by
  obtain ⟨a, ea, _, _, xs, hx, hd⟩ := S.ct hi hs
  refine ⟨.ref a, ea, 1, rfl, a, xs, -1, ?_⟩
  obtain ⟨z, hz, dz⟩ := hd.get (i := ds.length) (d := d) (by simp)
  have hl := hd.length
  rw [List.length_append, List.length_singleton] at hl
  refine ⟨z, rfl, rfl, SqL.of hx, ?_, q z F H d p (Gr.refl e) dz⟩
  unfold atI
  have e1 : ixN xs.length (-1) = some ds.length := by
    unfold ixN
    rw [if_neg (by decide), if_pos (by omega)]
    congr 1
    omega
  rw [e1]; exact hz
theorem T_ins0 {ds : List PyData} (hi : ss[i]? = some (.own (.lst ds))) (hl : ds.length < 100000) (h : W te ss fun d => k.nx (ss.set i (.own (.lst (d :: ds))))) :
    Tt (tDrop (tBM K "list" rIns (tVar i) (tCons (tC (.int 0)) (tCons te tNil)))) ss k := fun nw mt F H σ D C p => by
  obtain ⟨a, e1, hF, hn, _, xs, hx, hd⟩ := C.sl.ok i _ hi
  refine ⟨.ref a, e1, .inl ⟨rfl, xs, SqL.of hx⟩, ?_⟩
  refine h F H nw mt σ C.fh C.sl _ fun v F2 H2 d hk g dv => ⟨a, xs, 0, v, rfl, rfl, g.same _ _ hx, ?_, by decide, by decide, ?_⟩
  · rw [hd.length, sizeLine_eq]; omega
  · obtain ⟨gs, C2⟩ := (C.grow g).wrO (c' := .lst (d :: ds)) (o := .lst (v :: xs)) hi e1 ⟨by rw [List.length_cons]; exact hl, _, upd_same, .cons dv (hd.mono g.ff)⟩
    exact p.nx _ _ σ _ hk ((C.gs g).trans gs) C2
end
end RO
/-! things of the caller that a def changes -/
namespace RO
open PySem PySem.Spec PyProof.Rows L2
section
variable {K : PySem.W.Frag} {ss : List Sl} {P : PyData → Prop} {ta tb te ty tv : TE} {k : Ks} {i : Nat} {s : Sl}
variable {nw mt : Addr → Prop} {F H F1 H1 F2 H2 : Hp} {σ : L2.St} {D : Ends}
theorem Cs.wrP (C : Cs nw mt F H σ ss) {p : Addr} {c c' : Ct} (hi : ss[i]? = some (.par p c)) {o : HO} (hc : cOk F (upd H p o) p c') :
    Gs nw mt F H F (upd H p o) ∧ Cs nw mt F (upd H p o) σ (ss.set i (.par p c')) := by
  obtain ⟨p', e', _, ⟨_, ep⟩, _⟩ := C.sl.ok i _ hi
  subst ep
  obtain ⟨hF, hn, S⟩ := C.sl.wrP hi e' hc
  have fh : Same F (upd H p' o) := fun a u x => by rw [upd_ne (ne_of_none x hF)]; exact C.fh _ _ x
  have dm : ∀ a, H a ≠ none → upd H p' o a ≠ none := fun a x => by
    by_cases ha : a = p'
    · subst ha; rw [upd_same]; simp
    · rw [upd_ne ha]; exact x
  exact ⟨⟨Same.refl _, fh, fun a u _ n x => by
    have ne : a ≠ p' := fun z => n (by rw [z]; exact hn)
    rw [upd_ne ne]; exact x, fun _ _ x _ => x, fun a x => by
    by_cases ha : a = p'
    · subst ha; exact cOk_nt hc
    · obtain ⟨u, e, n⟩ := x
      exact ⟨u, by rw [upd_ne ha]; exact e, n⟩, dm⟩, ⟨fh, S, fun a n => dm a (C.al a n), C.ov⟩⟩
theorem T_appP {p : Addr} {ds : List PyData} (hi : ss[i]? = some (.par p (.lst ds))) (hl : ds.length < 100000) (h : W te ss fun d => k.nx (ss.set i (.par p (.lst (ds ++ [d]))))) :
    Tt (tDrop (tBM K "list" rAppend (tVar i) (tCons te tNil))) ss k := fun nw mt F H σ D C q => by
  obtain ⟨a, e1, hF, ⟨hn, ea⟩, _, xs, hx, hd⟩ := C.sl.ok i _ hi
  subst ea
  refine ⟨.ref a, e1, .inl ⟨rfl, xs, SqL.of hx⟩, ?_⟩
  refine h F H nw mt σ C.fh C.sl _ fun v F2 H2 d hk g dv => ⟨a, xs, v, rfl, rfl, g.same _ _ hx, ?_, ?_⟩
  · rw [hd.length, sizeLine_eq]; omega
  · obtain ⟨gs, C2⟩ := (C.grow g).wrP (c' := .lst (ds ++ [d])) (o := .lst (xs ++ [v])) hi ⟨by rw [List.length_append]; exact hl, _, upd_same, (hd.mono g.ff).append (.one dv)⟩
    exact q.nx _ _ σ _ hk ((C.gs g).trans gs) C2
theorem T_dputKP {p : Addr} {kvs : List (Nat × Nat)} (hi : ss[i]? = some (.par p (.dK kvs))) (hl : kvs.length ≤ 1000) (h : W tv ss fun x => W ty ss fun y => ∃ n m : Nat, y = eN n ∧ x = eN m ∧ k.nx (ss.set i (.par p (.dK (pu kvs n m))))) : Tt (sDPut (tVar i) ty tv) ss k := fun nw mt F H σ D C q => by
  obtain ⟨a, e1, hF, ⟨hn, ea⟩, hx⟩ := C.sl.ok i _ hi
  subst ea
  refine h F H nw mt σ C.fh C.sl _ fun v F2 H2 d hk g dv => ⟨.ref a, e1, ?_⟩
  have C2 := C.grow g
  refine hk F2 H2 nw mt σ C2.fh C2.sl _ fun y F3 H3 d2 ⟨n, m, en, em, kn⟩ g3 dy => ?_
  subst en em
  cases inv_int (dv.mono g3.ff)
  cases inv_int dy
  have C3 := C2.grow g3
  have hx3 : H3 a = some (.dK (eK kvs)) := g3.same _ _ (g.same _ _ hx)
  refine ⟨a, _, rfl, DPut.k (k := (Sum.inl (n : Int) : Key)) hx3 (by rw [sizeLine_eq]; simp [eK]; omega), ?_⟩
  rw [pu_eK]
  obtain ⟨gs, C4⟩ := C3.wrP (c' := .dK (pu kvs n m)) (o := .dK (eK (pu kvs n m))) hi upd_same
  exact q.nx F3 _ σ _ kn (((C.gs g).trans (C2.gs g3)).trans gs) C4
/-- one slot with other contents -/
def wCt : Sl → Ct → Sl
  | .own _, c => .own c
  | .par a _, c => .par a c
  | s, _ => s
/-- what a call has changed -/
theorem Cs.callM {M : Addr → Prop} (C : Cs nw mt F H σ ss) (g : Gr M F H F2 H2) (hM : ∀ a, M a → nw a ∨ mt a) (hnt : ∀ a, M a → NT H2 a) {ss2 : List Sl} (hl : ss2.length = ss.length)
    (hss : ∀ (j : Nat) s, ss[j]? = some s → (ss2[j]? = some s ∧ ∀ p, σ[j]? = some (some (.ref p)) → isO s = true → ¬ M p) ∨ ∃ p c', isO s = true ∧ σ[j]? = some (some (.ref p)) ∧ cOk F2 H2 p c' ∧ ss2[j]? = some (wCt s c')) :
    Gs nw mt F H F2 H2 ∧ Cs nw mt F2 H2 σ ss2 := by
  have nt : ∀ a, NT H a → NT H2 a := fun a h => by
    by_cases m : M a
    · exact hnt a m
    · obtain ⟨o, e, n⟩ := h
      exact ⟨o, g.hh a o m e, n⟩
  have get1 : ∀ (j : Nat) s2, ss2[j]? = some s2 → ∃ s, ss[j]? = some s := fun j s2 e => by
    have := (List.getElem?_eq_some_iff.mp e).1
    exact ⟨_, List.getElem?_eq_getElem (by omega)⟩
  refine ⟨⟨g.ff, g.fh, fun a o n m e => g.hh a o (fun z => (hM a z).elim n m) e, fun a _ h1 h2 => g.nw a h1 h2, nt, g.dm⟩, ⟨g.fh, ⟨by rw [hl]; exact C.sl.len, fun j s2 e => ?_, fun j k s s' p hjk e1 e2 o1 o2 h1 => ?_⟩, fun a n => g.dm a (C.al a n), C.ov⟩⟩
  · obtain ⟨s, hs⟩ := get1 j s2 e
    have q := C.sl.ok j s hs
    rcases hss j s hs with ⟨a1, a2⟩ | ⟨p, c', a1, a2, a3, a4⟩
    · rw [a1] at e; cases e
      cases s2 with
      | no => trivial
      | dat d =>
        obtain ⟨v, x1, x2⟩ := q
        exact ⟨v, x1, x2.mono g.ff⟩
      | own c =>
        obtain ⟨p, x1, x2, x3, x4⟩ := q
        exact ⟨p, x1, g.nw p x2 (cOk_nt x4), x3, cOk_grow g.ff (fun o h => g.hh p o (a2 p x1 rfl) h) x4⟩
      | par a c =>
        obtain ⟨p, x1, x2, x3, x4⟩ := q
        exact ⟨p, x1, g.nw p x2 (cOk_nt x4), x3, cOk_grow g.ff (fun o h => g.hh p o (a2 p x1 rfl) h) x4⟩
    · rw [a4] at e
      cases e
      cases s with
      | no => cases a1
      | dat d => cases a1
      | own c =>
        obtain ⟨p', x1, x2, x3, x4⟩ := q
        rw [a2] at x1; cases x1
        exact ⟨p, a2, g.nw p x2 (cOk_nt x4), x3, a3⟩
      | par a c =>
        obtain ⟨p', x1, x2, x3, x4⟩ := q
        rw [a2] at x1; cases x1
        exact ⟨p, a2, g.nw p x2 (cOk_nt x4), x3, a3⟩
  · have back : ∀ (j : Nat) s, ss2[j]? = some s → isO s = true → ∃ s0, ss[j]? = some s0 ∧ isO s0 = true := fun j s e o => by
      obtain ⟨s0, h0⟩ := get1 j s e
      refine ⟨s0, h0, ?_⟩
      rcases hss j s0 h0 with ⟨a1, _⟩ | ⟨_, _, a1, _⟩
      · rw [a1] at e; cases e; exact o
      · exact a1
    obtain ⟨s0, b1, b2⟩ := back j s e1 o1
    obtain ⟨s1, c1, c2⟩ := back k s' e2 o2
    exact C.sl.dj j k s0 s1 p hjk b1 c1 b2 c2 h1
end
section
variable {P : Program} {w : World} {K : PySem.W.Frag} {mg : Str → Option Value} {base : Heap}
/-- THE RULE for a def that changes things of its caller -/
theorem fnM {x qual : Str} {st : Stmt} {f : Addr} {fd : FuncData} {N ps : List Str} {k : Nat} {sp : Sp} (Fu : Fun K x qual st f fd) (S : FnScope N ps (defScope st)) (len : ∀ vs H Q E, sp vs H Q E → vs.length = ps.length)
    (hbody : ∀ (cdv : Value) (A : Around) (outer : List Env) (s : Shared) (H : Hp) (E : XK) (vs : List V) (Q : VK), Room k (A.deeper (envOfC qual (defScope st) s.heap.objs.size f cdv)) → sp vs H Q E →
      ∃ (t : TS) (F : Hp) (mt : Addr → Prop) (ss0 : List Sl) (kk : Ks), PSs (cxOf CX0 P w K mg base N qual (defScope st) f cdv A outer s H E).nox (defBody st) t ∧ Same F H ∧ SLs F H (fun a => H a = none) mt (L2.start N vs) ss0 ∧ (∀ a, mt a → H a ≠ none) ∧ Tt t ss0 kk ∧
        (∀ F2 H2 σ ss, kk.nx ss → Gr mt F H F2 H2 → SLs F2 H2 (fun a => H a = none) mt σ ss → Q .non H2) ∧ (∀ F2 H2 σ ss v s, kk.rt s ss → Gr mt F H F2 H2 → SLs F2 H2 (fun a => H a = none) mt σ ss → RvOk F2 H2 H v s → Q v H2) ∧ (∀ ss, ¬ kk.bk ss) ∧ ∀ ss, ¬ kk.ct ss) :
    FnOk P w K mg base CX0 (k + 1) f fd ps sp := by
  refine Fu.ok S (fun vs H Q E h => len vs H Q E h) fun cdv A outer s H vs Q E hr h => ?_
  obtain ⟨t, F, mt, ss0, kk, h1, e, hs, hm, h2, q1, q2, q3, q4⟩ := hbody cdv A outer s H E vs Q hr h
  have gr : ∀ {F2 H2 : Hp}, Gs (fun a => H a = none) mt F H F2 H2 → Gr mt F H F2 H2 := fun g => ⟨g.ff, g.fh, fun a o n x => g.hh a o (by rw [x]; simp) n x, fun a x y => g.nwk a y.ne x y, g.dm⟩
  refine ⟨t, h1, h2 (fun a => H a = none) mt F H (L2.start N vs) _ ⟨e, hs, fun a n => n, fun a n z => hm a z n⟩ ⟨?_, ?_, ?_, ?_⟩⟩
  · exact fun F2 H2 σ ss hR g C => q1 F2 H2 σ ss hR (gr g) C.sl
  · intro F2 H2 σ ss v s hR g C hv
    refine q2 F2 H2 σ ss v s hR (gr g) C.sl ?_
    cases s with
    | no => exact hv
    | dat d => exact hv
    | own c => exact hv
    | par _ c => exact hv
  · exact fun F2 H2 σ ss hb _ _ => (q3 ss hb).elim
  · exact fun F2 H2 σ ss hb _ _ => (q4 ss hb).elim
end
/-! ### expressions that change slots -/
def WM (te : TE) (ss : List Sl) (P : PyData → List Sl → Prop) : Prop := ∀ (nw mt : Addr → Prop) (F H : Hp) (σ : L2.St), Cs nw mt F H σ ss → ∀ Q : VK, (∀ v F2 H2 d ss2, P d ss2 → Gs nw mt F H F2 H2 → Cs nw mt F2 H2 σ ss2 → Dn F2 v d → Q v H2) → te σ H Q
section
variable {K : PySem.W.Frag} {ss : List Sl} {P : PyData → List Sl → Prop} {ta tb te ty tv : TE} {k : Ks} {i : Nat} {s : Sl}
theorem W.m (h : W te ss fun d => P d ss) : WM te ss P := fun nw mt F H σ C Q q => h F H nw mt σ C.fh C.sl Q fun v F2 H2 d p g dv => q v F2 H2 d ss p (C.gs g) (C.grow g) dv
theorem T_asgM {i : Nat} (h : WM te ss fun d ss2 => k.nx (ss2.set i (.dat d))) : Tt (tAsg te (gName i)) ss k := fun nw mt F H σ D C p =>
  h nw mt F H σ C _ fun v F2 H2 d ss2 hk g C2 dv => p.nx F2 H2 _ _ hk g (C2.set i dv)
theorem T_dropM (h : WM te ss fun _ ss2 => k.nx ss2) : Tt (tDrop te) ss k := fun nw mt F H σ D C p =>
  h nw mt F H σ C _ fun v F2 H2 d ss2 hk g C2 dv => p.nx F2 H2 σ ss2 hk g C2
theorem T_retM (h : WM te ss fun d ss2 => k.rt (.dat d) ss2) : Tt (tRet te) ss k := fun nw mt F H σ D C p =>
  h nw mt F H σ C _ fun v F2 H2 d ss2 hk g C2 dv => p.rt F2 H2 σ ss2 v (.dat d) hk g C2 dv
theorem WM_op {r : R2} (h : WM ta ss fun x ss2 => WM tb ss2 fun y ss3 => RD r x y fun d => P d ss3) : WM (tOp r ta tb) ss P := fun nw mt F H σ C Q q =>
  h nw mt F H σ C _ fun v F2 H2 x ss2 hx g2 C2 dx => hx nw mt F2 H2 σ C2 _ fun y F3 H3 d ss3 hr g3 C3 dy =>
    hr F3 H3 v y C3.fh (dx.mono g3.ff) dy Q fun z F4 H4 d4 p g4 dz => q z F4 H4 d4 ss3 p ((g2.trans g3).trans (C3.gs g4)) (C3.grow g4) dz
end
end RO
/-! the box: a list of one number that defs change -/
namespace RO
open PySem PySem.Spec PyProof.Rows L2
section
variable {K : PySem.W.Frag} {ss : List Sl} {ta tb te ty tv : TE} {k : Ks} {i : Nat} {s : Sl} {P : PyData → Prop} {PM : PyData → List Sl → Prop}
theorem T_retNew {A : TA} (h : WA A ss fun ds => ds.length ≤ 100000 ∧ k.rt (.own (.lst ds)) ss) : Tt (tRet (tLst A)) ss k := fun nw mt F H σ D C p =>
  h F H nw mt σ C.fh C.sl _ fun vs F2 H2 ds ⟨hl, hk⟩ g dv => ⟨by rw [dv.length, sizeLine_eq]; omega, fun a ha => by
    have C2 := C.grow g
    have hn : nw a := by
      by_cases z : nw a
      · exact z
      · exact absurd ha (C2.al a z)
    have hF : F2 a = none := Gr.fresh g.fh ha
    have gn : Gr0 F2 H2 F2 (upd H2 a (.lst vs)) := Gr.new' g.fh ha
    exact p.rt F2 (upd H2 a (.lst vs)) σ ss (.ref a) (.own (.lst ds)) hk ((C.gs g).trans (Gs.of C2.al gn)) (C2.grow gn) ⟨a, rfl, hF, hn, hl, vs, upd_same, dv⟩⟩
/-! whole numbers -/
theorem V_mulI {x y : Int} (ha : Wd ta ss (.int x)) (hb : Wd tb ss (.int y)) (c : CMul x y) : Wd (tOp (rI CMul fun i j => .int (i * j)) ta tb) ss (.int (x * y)) := W_ci (ha.to (hb.to ⟨_, _, rfl, rfl, c, rfl⟩))
theorem V_addI {x y : Int} (ha : Wd ta ss (.int x)) (hb : Wd tb ss (.int y)) : Wd (tOp (rI0 fun i j => .int (i + j)) ta tb) ss (.int (x + y)) := W_ii (ha.to (hb.to ⟨_, _, rfl, rfl, rfl⟩))
theorem V_modI {x y : Int} (ha : Wd ta ss (.int x)) (hb : Wd tb ss (.int y)) (c : 0 < y) : Wd (tOp (rI (fun _ j => 0 < j) fun i j => .int (i % j)) ta tb) ss (.int (x % y)) := W_ci (ha.to (hb.to ⟨_, _, rfl, rfl, c, rfl⟩))
theorem V_fdivI {x y : Int} (ha : Wd ta ss (.int x)) (hb : Wd tb ss (.int y)) (c : CDiv x y) : Wd (tOp (rI CDiv fun i j => .int (i / j)) ta tb) ss (.int (x / y)) := W_ci (ha.to (hb.to ⟨_, _, rfl, rfl, c, rfl⟩))
theorem V_eqI {x y : Int} (ha : Wd ta ss (.int x)) (hb : Wd tb ss (.int y)) : Wd (tOp (rEqD K) ta tb) ss (.bool (PyData.eqv (.int x) (.int y))) := V_eqG ha hb (DL_int x).sh (DL_int y).sh
def rDm : List V → Hp → VK → Prop := fun xs H Q => ∃ i j, xs = [.int i, .int j] ∧ CDiv i j ∧ ∀ p, H p = none → Q (.ref p) (upd H p (.tup [.int (i / j), .int (i % j)]))
theorem W_divmod (h : W ta ss fun x => W tb ss fun y => ∃ i j, x = .int i ∧ y = .int j ∧ CDiv i j ∧ P (.tuple [.int (i / j), .int (i % j)])) : W (tCB rDm (tCons ta (tCons tb tNil))) ss P :=
  W_cb (WA_cons (h.imp fun x hx => WA_cons (hx.imp fun y ⟨i, j, ex, ey, c, p⟩ => WA_nil fun F H vs e dv Q q => by
    subst ex ey
    obtain ⟨v, w, rfl, d1, d2⟩ := all2 dv
    cases inv_int d1
    cases inv_int d2
    refine ⟨i, j, rfl, c, fun b hb => ?_⟩
    have g : Gr0 F H (upd F b (.tup [.int (i / j), .int (i % j)])) (upd H b (.tup [.int (i / j), .int (i % j)])) := Gr.new e hb
    exact q _ _ _ _ p g (.tup upd_same (by show 2 ≤ 100000; omega) (.cons (.int _) (.cons (.int _) .nil))))))
/-- x[0] = v, of the caller's list -/
theorem T_set0P {p : Addr} {d0 : PyData} (hi : ss[i]? = some (.par p (.lst [d0]))) (h : W te ss fun d => k.nx (ss.set i (.par p (.lst [d])))) : Tt (tAsg te (gSub (tVar i) (tC (.int 0)) rSetL)) ss k := fun nw mt F H σ D C q => by
  obtain ⟨a, e1, hF, ⟨hn, ea⟩, _, xs, hx, hd⟩ := C.sl.ok i _ hi
  subst ea
  refine h F H nw mt σ C.fh C.sl _ fun v F2 H2 d hk g dv => ⟨.ref a, e1, ?_⟩
  obtain ⟨z, rfl, _⟩ := all1 hd
  refine ⟨a, [z], 0, 0, rfl, rfl, g.same _ _ hx, rfl, ?_⟩
  obtain ⟨gs, C2⟩ := (C.grow g).wrP (c' := .lst [d]) (o := .lst [v]) hi ⟨by show 1 ≤ 100000; omega, _, upd_same, .one dv⟩
  exact q.nx _ _ σ _ hk ((C.gs g).trans gs) C2
end
theorem erase_map {α β : Type} (f : α → β) : ∀ (l : List α) (j : Nat), (l.map f).eraseIdx j = (l.eraseIdx j).map f
  | [], _ => rfl
  | _ :: _, 0 => rfl
  | a :: l, j + 1 => by
    show f a :: (l.map f).eraseIdx j = f a :: (l.eraseIdx j).map f
    rw [erase_map f l j]
/-! ### defs that take the box -/
def SpB (Pre : PyData → (PyData → Prop) → Prop) : Sp := fun vs H Q _ => ∃ (F : Hp) (p : Addr) (z : Int) (v : V) (d : PyData) (R : PyData → Prop), Same F H ∧ vs = [.ref p, v] ∧ F p = none ∧ cOk F H p (.lst [.int z]) ∧ Dn F v d ∧ Pre d R ∧
  ∀ v' F2 H2 d' z', R d' → Gr (fun a => a = p) F H F2 H2 → Dn F2 v' d' → cOk F2 H2 p (.lst [.int z']) → Q v' H2
section
variable {P : Program} {w : World} {K : PySem.W.Frag} {mg : Str → Option Value} {base : Heap}
theorem fnB {x qual : Str} {st : Stmt} {f : Addr} {fd : FuncData} {N : List Str} {n1 n2 : Str} {k : Nat} {Pre : PyData → (PyData → Prop) → Prop} (Fu : Fun K x qual st f fd) (S : FnScope N [n1, n2] (defScope st)) (hN : 2 ≤ N.length)
    (hbody : ∀ (cdv : Value) (A : Around) (outer : List Env) (s : Shared) (H : Hp) (E : XK) (p : Addr) (z : Int) (d : PyData) (R : PyData → Prop), Room k (A.deeper (envOfC qual (defScope st) s.heap.objs.size f cdv)) → Pre d R →
      ∃ t, PSs (cxOf CX0 P w K mg base N qual (defScope st) f cdv A outer s H E).nox (defBody st) t ∧ Tt t (.par p (.lst [.int z]) :: .dat d :: List.replicate (N.length - 2) .no) { nx := fun _ => False, rt := fun s ss => ∃ d' z', s = .dat d' ∧ R d' ∧ ss[0]? = some (.par p (.lst [.int z'])) }) :
    FnOk P w K mg base CX0 (k + 1) f fd [n1, n2] (SpB Pre) := by
  refine fnM Fu S (fun vs H Q E h => by obtain ⟨_, _, _, _, _, _, _, rfl, _⟩ := h; rfl) fun cdv A outer s H E vs Q hr h => ?_
  obtain ⟨F, p, z, v, d, R, e, rfl, hF, hc, dv, pre, q⟩ := h
  obtain ⟨t, h1, h2⟩ := hbody cdv A outer s H E p z d R hr pre
  refine ⟨t, F, fun a => a = p, _, _, h1, e, ?_, fun a z => by rw [z]; exact cOk_ne hc, h2, fun _ _ _ _ z => z.elim, ?_, fun _ z => z, fun _ z => z⟩
  · refine ⟨by unfold L2.start; simp, fun i s hi => ?_, fun i j s s' q' hij e1 e2 o1 o2 h1 h2 => ?_⟩
    · match i, hi with
      | 0, hi => cases hi; exact ⟨p, rfl, hF, ⟨rfl, rfl⟩, hc⟩
      | 1, hi => cases hi; exact ⟨v, rfl, dv⟩
      | i + 2, hi =>
        have hi : (List.replicate (N.length - 2) Sl.no)[i]? = some s := hi
        have := (List.mem_replicate.mp (List.mem_of_getElem? hi)).2
        rw [this]; trivial
    · have one : ∀ (i : Nat) (s : Sl), (Sl.par p (.lst [.int z]) :: .dat d :: List.replicate (N.length - 2) .no)[i]? = some s → isO s = true → i = 0 := fun i s hi ho => by
        match i, hi with
        | 0, hi => rfl
        | 1, hi => cases hi; cases ho
        | i + 2, hi =>
          have hi : (List.replicate (N.length - 2) Sl.no)[i]? = some s := hi
          rw [(List.mem_replicate.mp (List.mem_of_getElem? hi)).2] at ho
          cases ho
      exact hij ((one i s e1 o1).trans (one j s' e2 o2).symm)
  · rintro F2 H2 σ ss v' s ⟨d', z', rfl, hR, h0⟩ g S hv
    obtain ⟨p', _, _, ⟨_, rfl⟩, c⟩ := S.ok 0 _ h0
    exact q v' F2 H2 d' z' hR g hv c
end
section
variable {K : PySem.W.Frag} {ss : List Sl} {ta tb te ty tv : TE} {k : Ks} {i : Nat} {s : Sl} {PM : PyData → List Sl → Prop}
theorem WM_callB {Pre : PyData → (PyData → Prop) → Prop} {E : XK} {z : Int} (hi : ss[i]? = some s) (hs : isCt s (.lst [.int z])) (h : W te ss fun d => ∃ R, Pre d R ∧ ∀ d' z', R d' → PM d' (ss.set i (wCt s (.lst [.int z'])))) :
    WM (tCall (SpB Pre) [] E (tCons (tVar i) (tCons te tNil))) ss PM := fun nw mt F H σ C Q q => by
  obtain ⟨p, e1, _, _⟩ := C.sl.ct hi hs
  have ho : isO s = true := by rcases hs with rfl | ⟨a, rfl⟩ <;> rfl
  refine ⟨.ref p, e1, h F H nw mt σ C.fh C.sl _ fun v F2 H2 d ⟨R, pre, hk⟩ g dv => ?_⟩
  have C2 := C.grow g
  obtain ⟨p', e1', hF2, hc2⟩ := C2.sl.ct hi hs
  rw [e1] at e1'; cases e1'
  have hm : nw p ∨ mt p := by
    have := C2.sl.ok i s hi
    rcases hs with rfl | ⟨a, rfl⟩
    · obtain ⟨p', e', _, n, _⟩ := this
      rw [e1] at e'; cases e'; exact .inl n
    · obtain ⟨p', e', _, n, _⟩ := this
      rw [e1] at e'; cases e'; exact .inr n.1
  refine ⟨F2, p, z, v, d, R, C2.fh, rfl, hF2, hc2, dv, pre, fun v' F3 H3 d' z' hR g3 dv' c3 => ?_⟩
  obtain ⟨gs, C3⟩ := C2.callM (ss2 := ss.set i (wCt s (.lst [.int z']))) g3 (fun a e => by rw [e]; exact hm) (fun a e => by rw [e]; exact cOk_nt c3) (by rw [List.length_set]) (fun j s' hj => by
    have jl := (List.getElem?_eq_some_iff.mp hj).1
    by_cases hij : i = j
    · subst hij
      rw [hi] at hj; cases hj
      exact .inr ⟨p, .lst [.int z'], ho, e1, c3, by rw [List.getElem?_set_self jl]⟩
    · refine .inl ⟨by rw [List.getElem?_set_ne hij]; exact hj, fun p' hp' ho' e => ?_⟩
      subst e
      exact C.sl.dj i j s s' p' hij hi hj ho ho' e1 hp')
  exact q v' F3 H3 d' _ (hk d' z' hR) ((C.gs g).trans gs) C3 dv'
/-- found.append(left.pop(f(box, ..))) -/
theorem T_appPop {ls : List Nat} {ds : List PyData} {i2 i3 : Nat} (hne : i2 ≠ i3) (h2 : ss[i2]? = some (.own (.lst (ls.map eN)))) (h3 : ss[i3]? = some (.own (.lst ds))) (hl : ds.length < 100000)
    (h : WM te ss fun d ss' => ∃ (j : Nat) (a : Nat), d = .int j ∧ ls[j]? = some a ∧ j < 1000 ∧ ss'[i2]? = some (.own (.lst (ls.map eN))) ∧ ss'[i3]? = some (.own (.lst ds)) ∧ k.nx ((ss'.set i2 (.own (.lst ((ls.eraseIdx j).map eN)))).set i3 (.own (.lst (ds ++ [eN a]))))) :
    Tt (tDrop (tBM K "list" rAppend (tVar i3) (tCons (tBM K "list" rPopAt (tVar i2) (tCons te tNil)) tNil))) ss k := fun nw mt F H σ D C q => by
  obtain ⟨a3, e3, _, _, _, xs3, hx3, _⟩ := C.sl.ok i3 _ h3
  obtain ⟨a2, e2, _, _, _, xs2, hx2, _⟩ := C.sl.ok i2 _ h2
  refine ⟨.ref a3, e3, .inl ⟨rfl, xs3, SqL.of hx3⟩, .ref a2, e2, .inl ⟨rfl, xs2, SqL.of hx2⟩, ?_⟩
  refine h nw mt F H σ C _ fun v F2 H2 d ss' ⟨j, b, ed, hj, jl, g2, g3, kn⟩ gs C2 dv => ?_
  subst ed
  cases inv_int dv
  obtain ⟨a2', e2', hF2, hn2, hl2, ys2, hy2, hd2⟩ := C2.sl.ok i2 _ g2
  rw [e2] at e2'; cases e2'
  obtain ⟨a3', e3', hF3, hn3, hl3, ys3, hy3, hd3⟩ := C2.sl.ok i3 _ g3
  rw [e3] at e3'; cases e3'
  obtain ⟨y, hy, dy⟩ := hd2.get (i := j) (d := eN b) (by rw [List.getElem?_map, hj]; rfl)
  cases inv_int dy
  have jlt : j < ys2.length := (List.getElem?_eq_some_iff.mp hy).1
  have hne' : a2 ≠ a3 := fun z => C2.sl.dj i2 i3 _ _ a2 hne g2 g3 rfl rfl e2 (by rw [e3, z])
  refine ⟨a2, ys2, j, j, .int (b : Nat), rfl, rfl, hy2, by omega, by omega, ?_, hy, ?_⟩
  · unfold seqIndex?
    simp; omega
  · have er : ys2 = ls.map fun n : Nat => V.int (n : Int) := ints_row hd2
    obtain ⟨gs2, C3⟩ := C2.wrO (c' := .lst ((ls.eraseIdx j).map eN)) (o := .lst (ys2.eraseIdx j)) g2 e2 ⟨by rw [List.length_map] at *; exact Nat.le_trans (List.length_eraseIdx_le _ _) hl2, _, upd_same, by rw [er, erase_map]; exact all_ints _⟩
    have g3' : (ss'.set i2 (.own (.lst ((ls.eraseIdx j).map eN))))[i3]? = some (.own (.lst ds)) := by rw [List.getElem?_set_ne hne]; exact g3
    obtain ⟨gs3, C4⟩ := C3.wrO (c' := .lst (ds ++ [eN b])) (o := .lst (ys3 ++ [.int (b : Nat)])) g3' e3 ⟨by rw [List.length_append]; exact hl, _, upd_same, hd3.append (.one (.int _))⟩
    refine ⟨a3, ys3, .int (b : Nat), rfl, rfl, by rw [upd_ne (Ne.symm hne')]; exact hy3, ?_, ?_⟩
    · rw [hd3.length, sizeLine_eq]; omega
    · exact q.nx _ _ σ _ kn ((gs.trans gs2).trans gs3) C4
/-! ### tests -/
def WTM (t : TT) (ss : List Sl) (PB : Bool → List Sl → Prop) : Prop := ∀ (nw mt : Addr → Prop) (F H : Hp) (σ : L2.St), Cs nw mt F H σ ss → ∀ Q : Bool → Hp → Prop, (∀ b F2 H2 ss2, PB b ss2 → Gs nw mt F H F2 H2 → Cs nw mt F2 H2 σ ss2 → Q b H2) → t σ H Q
theorem WT.m {t : TT} {PB : Bool → List Sl → Prop} (h : WT t ss fun b => PB b ss) : WTM t ss PB := fun nw mt F H σ C Q q => h F H nw mt σ C.fh C.sl Q fun b F2 H2 p g => q b F2 H2 ss p (C.gs g) (C.grow g)
theorem WTM_t {PB : Bool → List Sl → Prop} (h : WM te ss fun d ss2 => ∃ b, d = .bool b ∧ PB b ss2) : WTM (tTest te) ss PB := fun nw mt F H σ C Q q =>
  h nw mt F H σ C _ fun v F2 H2 d ss2 ⟨b, ed, p⟩ g C2 dv => by
    subst ed
    cases inv_bl dv
    exact ⟨b, rfl, q b F2 H2 ss2 p g C2⟩
theorem WTM_and {t u : TT} {PB : Bool → List Sl → Prop} (h : WTM t ss fun b ss2 => if b = true then WTM u ss2 PB else PB false ss2) : WTM (tAnd t u) ss PB := fun nw mt F H σ C Q q =>
  h nw mt F H σ C _ fun b F2 H2 ss2 hb g C2 => by
    cases b with
    | true => exact iteT (hb nw mt F2 H2 σ C2 Q fun b' F3 H3 ss3 p g3 C3 => q b' F3 H3 ss3 p (g.trans g3) C3)
    | false => exact iteF (q false F2 H2 ss2 hb g C2)
theorem T_ifM {c : TT} {t u : TS} (h : WTM c ss fun b ss2 => if b = true then Tt t ss2 k else Tt u ss2 k) : Tt (tIfS c t u) ss k := fun nw mt F H σ D C p =>
  h nw mt F H σ C _ fun b F2 H2 ss2 hb g C2 => by
    cases b with
    | true => exact iteT (hb nw mt F2 H2 σ D C2 (p.step g))
    | false => exact iteF (hb nw mt F2 H2 σ D C2 (p.step g))
theorem WM_eq (h : WM ta ss fun x ss2 => WM tb ss2 fun y ss3 => SeqAt.shaped x = true ∧ SeqAt.shaped y = true ∧ PM (.bool (PyData.eqv x y)) ss3) : WM (tOp (rEqD K) ta tb) ss PM :=
  WM_op fun nw mt F H σ C Q q => h nw mt F H σ C Q fun v F2 H2 x ss2 hx g C2 dv => q v F2 H2 x ss2 (fun nw mt F H σ C Q q => hx nw mt F H σ C Q fun v F2 H2 y ss3 ⟨sx, sy, p⟩ g C2 dv => q v F2 H2 y ss3 (fun F H v w e dx dy Q q => ⟨x, y, dx.dp e (SeqAt.canLay_of_shaped sx), dy.dp e (SeqAt.canLay_of_shaped sy), sx, sy, q _ F H _ p (Gr.refl e) (.bl _)⟩) g C2 dv) g C2 dv
theorem WM.imp {PM' : PyData → List Sl → Prop} (h : WM te ss PM') (k : ∀ d s, PM' d s → PM d s) : WM te ss PM := fun nw mt F H σ C Q q => h nw mt F H σ C Q fun v F2 H2 d ss2 p g C2 dv => q v F2 H2 d ss2 (k d ss2 p) g C2 dv
/-- k + f(box, ..) -/
theorem WM_addN {c : Nat} (h : WM te ss fun d ss2 => ∃ m : Nat, d = eN m ∧ PM (eN (c + m)) ss2) : WM (tOp (rI0 fun i j => .int (i + j)) (tC (.int (c : Int))) te) ss PM := fun nw mt F H σ C Q q =>
  h nw mt F H σ C _ fun v F2 H2 d ss2 ⟨m, ed, p⟩ g C2 dv => by
    subst ed
    cases inv_int dv
    refine ⟨_, _, rfl, rfl, q _ F2 H2 _ ss2 p g C2 ?_⟩
    show Dn F2 (.int ((c : Int) + (m : Nat))) (.int ((c + m : Nat) : Int))
    rw [show ((c : Int) + (m : Nat)) = ((c + m : Nat) : Int) by omega]
    exact .int _
/-- back from the comprehension's own name -/
theorem SLs.unname {F H : Hp} {nw mt : Addr → Prop} {σ σ2 : L2.St} {ss2 : List Sl} {j : Nat} (S : SLs F H nw mt σ2 ss2) (hl : σ.length = σ2.length) (hk : ∀ i, i ≠ j → σ2[i]? = σ[i]?) : SLs F H nw mt σ (ss2.set j .no) := by
  refine ⟨by rw [List.length_set, hl]; exact S.len, fun i s e => ?_, fun i k s s' p hik e1 e2 o1 o2 h1 => ?_⟩
  · by_cases hj : j = i
    · subst hj
      have := (List.getElem?_eq_some_iff.mp e).1
      rw [List.length_set] at this
      rw [List.getElem?_set_self this] at e
      cases e; trivial
    · rw [List.getElem?_set_ne hj] at e
      rw [← hk i (Ne.symm hj)]
      exact S.ok i s e
  · have nj : ∀ (i : Nat) s, (ss2.set j .no)[i]? = some s → isO s = true → i ≠ j ∧ ss2[i]? = some s := fun i s e o => by
      by_cases hj : j = i
      · subst hj
        have := (List.getElem?_eq_some_iff.mp e).1
        rw [List.length_set] at this
        rw [List.getElem?_set_self this] at e
        cases e; cases o
      · rw [List.getElem?_set_ne hj] at e
        exact ⟨Ne.symm hj, e⟩
    obtain ⟨n1, f1⟩ := nj i s e1 o1
    obtain ⟨n2, f2⟩ := nj k s' e2 o2
    rw [← hk i n1] at h1
    rw [← hk k n2]
    exact S.dj i k s s' p hik f1 f2 o1 o2 h1
theorem SlOk.nw' {F H : Hp} {nw nw2 mt : Addr → Prop} (h : ∀ a, nw a → H a ≠ none → nw2 a) {o : Option (Option V)} : ∀ {s : Sl}, SlOk F H nw mt o s → SlOk F H nw2 mt o s
  | .no, _ => trivial
  | .dat _, q => q
  | .own _, ⟨p, e, f, n, c⟩ => ⟨p, e, f, h p n (cOk_ne c), c⟩
  | .par _ _, q => q
theorem SLs.nw' {F H : Hp} {nw nw2 mt : Addr → Prop} {σ : L2.St} {ss : List Sl} (h : ∀ a, nw a → H a ≠ none → nw2 a) (S : SLs F H nw mt σ ss) : SLs F H nw2 mt σ ss := ⟨S.len, fun i s e => (S.ok i s e).nw' h, S.dj⟩
/-- [f(..) for x in range(..)], where both change slots -/
theorem WM_lcR {j : Nat} {te2 : TE} (h : WM te ss fun d ss1 => ∃ m : Nat, d = .int m ∧ m ≤ 100000 ∧ ∃ I : Nat → List PyData → List Sl → Prop, I 0 [] ss1 ∧
      (∀ i acc ss', i < m → I i acc ss' → ss'[j]? = some .no ∧ acc.length ≤ 50000 ∧ WM te2 (ss'.set j (.dat (eN i))) fun d ss2 => I (i + 1) (acc ++ [d]) (ss2.set j .no)) ∧ ∀ acc ss', I m acc ss' → acc.length ≤ 100000 ∧ PM (.list acc) ss') :
    WM (tLc (iRng1 (tCons te tNil)) (gName j) tYes te2 [j]) ss PM := fun nw mt F H σ C Q q =>
  h nw mt F H σ C _ fun v F1 H1 d ss1 ⟨m, ed, hm, I, i0, turn, fin⟩ g1 C1 dv => by
    subst ed
    cases inv_int dv
    have em : ((m : Int)).toNat = m := by omega
    refine ⟨m, rfl, by omega, by omega, fun D hD => ?_⟩
    have hFD : F1 D = none := Gr.fresh C1.fh hD
    have hnD : nw D := by
      by_cases z : nw D
      · exact z
      · exact absurd hD (C1.al D z)
    have gn : Gr0 F1 H1 F1 (upd H1 D (.lst [])) := Gr.new' C1.fh hD
    have hnt : ∀ {F' H' : Hp} {acc : List V}, H' D = some (.lst acc) → NT H' D := fun h => ⟨_, h, fun _ z => nomatch z⟩
    refine ⟨fun i n H' => n = m - i ∧ i ≤ m ∧ ∃ F' acc vs ss', I i acc ss' ∧ Gs nw mt F1 H1 F' H' ∧ Cs (fun a => nw a ∧ a ≠ D) mt F' H' σ ss' ∧ F' D = none ∧ H' D = some (.lst vs) ∧ DnAll F' vs acc, ⟨m, by omega, by omega, F1, [], [], ss1, i0, C1.gs gn, ?_, hFD, upd_same, .nil⟩, fun i n H' hW => ?_⟩
    · have C2 := C1.grow gn
      refine ⟨C2.fh, ?_, fun a n z => ?_, fun a n => C1.ov a n.1⟩
      · refine (C1.sl.nw' fun a n e => ⟨n, fun z => e (by rw [z]; exact hD)⟩).grow gn
      · by_cases e : a = D
        · rw [e, upd_same] at z; cases z
        · exact C2.al a (fun y => n ⟨y, e⟩) z
    · obtain ⟨rfl, hi, F', acc, vs, ss', hI, gg, C', nD, hDl, ha⟩ := hW
      by_cases hlt : i < m
      · obtain ⟨hjno, hal, hturn⟩ := turn i acc ss' hlt hI
        refine .inr ⟨by show i < ((m : Int)).toNat; omega, fun H'' => ∃ F'' acc2 vs2 ss2, I (i + 1) acc2 ss2 ∧ Gs nw mt F1 H1 F'' H'' ∧ Cs (fun a => nw a ∧ a ≠ D) mt F'' H'' σ ss2 ∧ F'' D = none ∧ H'' D = some (.lst vs2) ∧ DnAll F'' vs2 acc2, fun H'' hN => ⟨m - (i + 1), by omega, rfl, hlt, hN⟩, fun x H2 hx => ?_⟩
        obtain ⟨rfl, rfl⟩ := hx
        have hjl : j < ss'.length := (List.getElem?_eq_some_iff.mp hjno).1
        have hjs : j < σ.length := by rw [C'.sl.len]; exact hjl
        refine ⟨?_, ?_⟩
        · show ((σ.set j none).set j _).set j none = σ.set j none
          rw [List.set_set, List.set_set]
        · unfold tYes
          refine iteT ?_
          have Cw : Cs (fun a => nw a ∧ a ≠ D) mt F' H2 ((L2.wipe σ [j]).set j (some (.int (0 + (i : Int))))) (ss'.set j (.dat (eN i))) := by
            have S2 := (C'.sl.wipe [j]).set j (v := .int (0 + (i : Int))) (d := eN i) (by rw [Int.zero_add]; exact .int _)
            have e1 : (wipeS ss' [j]).set j (.dat (eN i)) = ss'.set j (.dat (eN i)) := by
              show (ss'.set j .no).set j _ = _
              rw [List.set_set]
            rw [e1] at S2
            exact ⟨C'.fh, S2, C'.al, C'.ov⟩
          refine hturn _ mt F' H2 _ Cw _ fun y F3 H3 d ss3 hI3 g3 C3 dy => ?_
          have nDnw : ¬ (nw D ∧ D ≠ D) := fun z => z.2 rfl
          have D3 : H3 D = some (.lst vs) := g3.hh D _ nDnw (fun z => C1.ov D hnD z) hDl
          have nD3 : F3 D = none := g3.nwk D nDnw nD ⟨_, hDl, fun _ z => nomatch z⟩
          refine ⟨vs, D3, by rw [ha.length, sizeLine_eq]; omega, F3, acc ++ [d], vs ++ [y], ss3.set j .no, hI3, ?_, ?_, nD3, upd_same, (ha.mono g3.ff).append (.one dy)⟩
          · have g3' : Gs nw mt F' H2 F3 H3 := ⟨g3.ff, g3.fh, fun a o n1 n2 e => g3.hh a o (fun z => n1 z.1) n2 e, fun a n1 f1 f2 => g3.nwk a (fun z => n1 z.1) f1 f2, g3.nt, g3.dm⟩
            have g4 : Gs nw mt F3 H3 F3 (upd H3 D (.lst (vs ++ [y]))) := ⟨Same.refl _, fun a o x => by rw [upd_ne (ne_of_none x nD3)]; exact g3.fh _ _ x, fun a o n1 _ e => by
              have : a ≠ D := fun z => n1 (by rw [z]; exact hnD)
              rw [upd_ne this]; exact e, fun _ _ x _ => x, fun a x => by
              by_cases e : a = D
              · rw [e]; exact ⟨_, upd_same, fun _ z => nomatch z⟩
              · obtain ⟨o, e1, e2⟩ := x
                exact ⟨o, by rw [upd_ne e]; exact e1, e2⟩, fun a x => by
              by_cases e : a = D
              · rw [e, upd_same]; simp
              · rw [upd_ne e]; exact x⟩
            exact (gg.trans g3').trans g4
          · have hσ : ∀ i', i' ≠ j → ((L2.wipe σ [j]).set j (some (V.int (0 + (i : Int)))))[i']? = σ[i']? := fun i' hi' => by
              show ((σ.set j none).set j _)[i']? = _
              rw [List.set_set, List.getElem?_set_ne (Ne.symm hi')]
            have S4 := C3.sl.unname (σ := σ) (j := j) (by show _ = ((σ.set j none).set j _).length; rw [List.length_set, List.length_set]) hσ
            refine ⟨fun a o x => by rw [upd_ne (ne_of_none x nD3)]; exact C3.fh _ _ x, ⟨S4.len, fun i' s' e' => ?_, S4.dj⟩, fun a n x => ?_, C3.ov⟩
            · have k := S4.ok i' s' e'
              cases s' with
              | no => trivial
              | dat d => exact k
              | own c =>
                obtain ⟨p, x1, x2, x3, x4⟩ := k
                exact ⟨p, x1, x2, x3, cOk_grow (Same.refl _) (fun o h => by rw [upd_ne x3.2]; exact h) x4⟩
              | par a c =>
                obtain ⟨p, x1, x2, x3, x4⟩ := k
                have pD : p ≠ D := fun z => C1.ov D hnD (by rw [← z]; exact x3.1)
                exact ⟨p, x1, x2, x3, cOk_grow (Same.refl _) (fun o h => by rw [upd_ne pD]; exact h) x4⟩
            · by_cases e : a = D
              · rw [e, upd_same] at x; cases x
              · rw [upd_ne e] at x
                exact C3.al a n x
      · have ei : i = m := by omega
        subst ei
        obtain ⟨fl, fp⟩ := fin acc ss' hI
        refine .inl ⟨by show ((i : Int)).toNat ≤ i; omega, ?_⟩
        have gz : Gs nw mt F' H' (upd F' D (.lst vs)) H' := ⟨fun a o x => by rw [upd_ne (ne_of_none x nD)]; exact x, fun a o x => by
          by_cases e : a = D
          · subst e; rw [upd_same] at x; rw [hDl]; exact x
          · rw [upd_ne e] at x; exact C'.fh _ _ x, fun _ _ _ _ e => e, fun a n x _ => by
          have : a ≠ D := fun z => n (by rw [z]; exact hnD)
          rw [upd_ne this]; exact x, fun _ x => x, fun _ x => x⟩
        refine q (.ref D) (upd F' D (.lst vs)) H' (.list acc) ss' fp ((g1.trans gg).trans gz) ⟨gz.fh, ⟨C'.sl.len, fun i' s' e' => ?_, C'.sl.dj⟩, fun a n x => C'.al a (fun z => n z.1) x, C1.ov⟩ (.lst upd_same fl (ha.mono gz.ff))
        have k := C'.sl.ok i' s' e'
        cases s' with
        | no => trivial
        | dat d =>
          obtain ⟨v, x1, x2⟩ := k
          exact ⟨v, x1, x2.mono gz.ff⟩
        | own c =>
          obtain ⟨p, x1, x2, x3, x4⟩ := k
          exact ⟨p, x1, by rw [upd_ne x3.2]; exact x2, x3.1, cOk_grow gz.ff (fun _ h => h) x4⟩
        | par a c =>
          obtain ⟨p, x1, x2, x3, x4⟩ := k
          have pD : p ≠ D := fun z => C1.ov D hnD (by rw [← z]; exact x3.1)
          exact ⟨p, x1, by rw [upd_ne pD]; exact x2, x3, cOk_grow gz.ff (fun _ h => h) x4⟩
end
end RO
/-! the script: a list that may be the top's own -/
namespace RO
open PySem PySem.Spec PyProof.Rows L2
def TtS (K : PySem.W.Frag) (a : Addr) (xs : List V) (t : TS) (ss : List Sl) (k : Ks) : Prop := ∀ (nw mt : Addr → Prop) (F H : Hp) (σ : L2.St) (D : Ends), Cs nw mt F H σ ss → σ[0]? = some (some (.ref a)) → SqL K H a xs → Post nw mt F H D k → t D σ H
theorem SqL_gr {K : PySem.W.Frag} {F H F2 H2 : Hp} {a : Addr} {xs : List V} (g : Gr0 F H F2 H2) (h : SqL K H a xs) : SqL K H2 a xs := by
  rcases h with (h | ⟨o, h⟩) | h
  · exact .inl (.inl (g.same _ _ h))
  · exact .inl (.inr ⟨o, g.same _ _ h⟩)
  · exact .inr h
section
variable {K : PySem.W.Frag} {a : Addr} {xs : List V} {ss : List Sl} {k : Ks} {te : TE} {t u : TS}
theorem TtS_asg {i : Nat} (hi : i ≠ 0) (h : W te ss fun d => TtS K a xs u (ss.set i (.dat d)) k) : TtS K a xs (tSeq (tAsg te (gName i)) u) ss k := fun nw mt F H σ D C e0 hS p =>
  h F H nw mt σ C.fh C.sl _ fun v F2 H2 d hk g dv => hk nw mt F2 H2 _ D ((C.grow g).set i dv) (by rw [List.getElem?_set_ne hi]; exact e0) (SqL_gr g hS) (p.step (C.gs g))
/-- if 0 < len(script): x = script[0] -/
theorem TtS_if {zs : List Int} {i j : Nat} (hj : ss[j]? = some (.dat (eN 0))) (hs : Tt u ss k) (h : ∀ z : Int, Tt u (ss.set i (.dat (.int z))) k) :
    TtS K a (zs.map V.int) (tSeq (tIfS (tTest (tOp (rI0 fun i j => .bl (decide (i < j))) (tVar j) (tCB (rLenQ K) (tCons (tVar 0) tNil)))) (tAsg (tOp (rIxL K) (tVar 0) (tVar j)) (gName i)) tNext) u) ss k := fun nw mt F H σ D C e0 hS p => by
  obtain ⟨v, e1, d1⟩ := C.sl.ok j _ hj
  cases inv_int d1
  refine ⟨_, e1, .ref a, e0, a, zs.map V.int, rfl, .inl hS, _, _, rfl, rfl, _, rfl, ?_⟩
  cases zs with
  | nil => exact iteF (hs nw mt F H σ D C p)
  | cons z r =>
    rw [decide_eq_true (show (((0 : Nat) : Int)) < (((z :: r).map V.int).length : Nat) by simp)]
    refine iteT ⟨.ref a, e0, _, e1, a, _, _, .int z, rfl, rfl, hS, atI_nat (j := 0) rfl, ?_⟩
    exact h z nw mt F H _ D (C.set i (.int z)) p
end
def SpBox (K : PySem.W.Frag) : Sp := fun vs H Q _ => ∃ (F : Hp) (a : Addr) (zs : List Int), Same F H ∧ vs = [.ref a, .int ((0 : Nat) : Int)] ∧ SqL K H a (zs.map V.int) ∧ ∀ v F2 H2 z, Gr0 F H F2 H2 → RvOk F2 H2 H v (.own (.lst [.int z])) → Q v H2
def SpLaw (K : PySem.W.Frag) : Sp := fun vs H Q _ => ∃ (a : Addr) (zs : List Int), vs = [.ref a] ∧ SqL K H a (zs.map V.int) ∧ ∀ H2, Q (.bl true) H2
section
variable {P : Program} {w : World} {K : PySem.W.Frag} {mg : Str → Option Value} {base : Heap}
theorem fnS {x qual : Str} {st : Stmt} {f : Addr} {fd : FuncData} {N ps : List Str} {k : Nat} {sp : Sp} (Fu : Fun K x qual st f fd) (S : FnScope N ps (defScope st)) (len : ∀ vs H Q E, sp vs H Q E → vs.length = ps.length)
    (hbody : ∀ (cdv : Value) (A : Around) (outer : List Env) (s : Shared) (H : Hp) (E : XK) (vs : List V) (Q : VK), Room k (A.deeper (envOfC qual (defScope st) s.heap.objs.size f cdv)) → sp vs H Q E →
      ∃ (t : TS) (F : Hp) (ss0 : List Sl) (kk : Ks) (a : Addr) (xs : List V), PSs (cxOf CX0 P w K mg base N qual (defScope st) f cdv A outer s H E).nox (defBody st) t ∧ Same F H ∧ SLs F H (fun a => H a = none) M0 (L2.start N vs) ss0 ∧ (L2.start N vs)[0]? = some (some (.ref a)) ∧ SqL K H a xs ∧ TtS K a xs t ss0 kk ∧
        (∀ (F2 H2 : Hp) (ss : List Sl), kk.nx ss → Gr0 F H F2 H2 → Q .non H2) ∧ (∀ (F2 H2 : Hp) (ss : List Sl) (v : V) (s : Sl), kk.rt s ss → Gr0 F H F2 H2 → RvOk F2 H2 H v s → Q v H2) ∧ (∀ ss, ¬ kk.bk ss) ∧ ∀ ss, ¬ kk.ct ss) :
    FnOk P w K mg base CX0 (k + 1) f fd ps sp := by
  refine Fu.ok S (fun vs H Q E h => len vs H Q E h) fun cdv A outer s H vs Q E hr h => ?_
  obtain ⟨t, F, ss0, kk, a, xs, h1, e, hs, e0, hS, h2, q1, q2, q3, q4⟩ := hbody cdv A outer s H E vs Q hr h
  have gr : ∀ {F2 H2 : Hp}, Gs (fun a => H a = none) M0 F H F2 H2 → Gr0 F H F2 H2 := fun g => ⟨g.ff, g.fh, fun a o n x => g.hh a o (by rw [x]; simp) n x, fun a x y => g.nwk a y.ne x y, g.dm⟩
  refine ⟨t, h1, h2 (fun a => H a = none) M0 F H (L2.start N vs) _ ⟨e, hs, fun a n => n, fun a n z => z⟩ e0 hS ⟨?_, ?_, ?_, ?_⟩⟩
  · exact fun F2 H2 σ ss hR g C => q1 F2 H2 ss hR (gr g)
  · intro F2 H2 σ ss v s hR g C hv
    refine q2 F2 H2 ss v s hR (gr g) ?_
    cases s with
    | no => exact hv
    | dat d => exact hv
    | own c => exact hv
    | par _ c => exact hv
  · exact fun F2 H2 σ ss hb _ _ => (q3 ss hb).elim
  · exact fun F2 H2 σ ss hb _ _ => (q4 ss hb).elim
end
section
variable {K : PySem.W.Frag} {a : Addr} {zs : List Int} {ss : List Sl} {k : Ks} {u : TS} {E : XK}
/-- for k in range(1): box = _law_box(script, k); .. ; return True -/
theorem TtS_law (h1 : 1 < ss.length) (h2 : 2 < ss.length) (hk : k.rt (.dat (.bool true)) = fun _ => True) (h : ∀ z : Int, Tt u ((ss.set 1 (.dat (eN 0))).set 2 (.own (.lst [.int z]))) { nx := fun _ => True, rt := k.rt }) :
    TtS K a (zs.map V.int) (tSeq (tFor (iRng1 (tCons (tC (.int 1)) tNil)) (gName 1) (tSeq (tAsg (tCall (SpBox K) [] E (tCons (tVar 0) (tCons (tVar 1) tNil))) (gName 2)) u)) (tRet (tC (.bl true)))) ss k := fun nw mt F H σ D C e0 hS p => by
  have l1 : 1 < σ.length := by rw [C.sl.len]; exact h1
  refine ⟨1, rfl, by decide, by decide, fun i m σ' H' => m = 1 - i ∧ i ≤ 1 ∧ (i = 0 → σ' = σ ∧ H' = H) ∧ (i = 1 → D.rt (.bl true) H'), ⟨1, rfl, by omega, fun _ => ⟨rfl, rfl⟩, fun z => absurd z (by omega)⟩, fun i m σ' H' hW => ?_⟩
  obtain ⟨rfl, hi, w0, w1⟩ := hW
  by_cases e : i = 0
  · subst e
    obtain ⟨rfl, rfl⟩ := w0 rfl
    refine .inr ⟨by show 0 < 1; omega, fun σ2 H2 => D.rt (.bl true) H2, fun σ2 H2 hN => ⟨0, by omega, by omega, by omega, fun z => absurd z (by omega), fun _ => hN⟩, fun x H2 hx => ?_⟩
    obtain ⟨rfl, rfl⟩ := hx
    have C1 := C.set 1 (v := .int (0 + ((0 : Nat) : Int))) (d := eN 0) (by rw [Int.zero_add]; exact .int _)
    refine ⟨.ref a, by rw [List.getElem?_set_ne (by decide)]; exact e0, .int (0 + ((0 : Nat) : Int)), List.getElem?_set_self l1, F, a, zs, C.fh, by rw [Int.zero_add]; rfl, hS, fun v F3 H3 z g hv => ?_⟩
    obtain ⟨p0, rfl, hF3, h0, hc⟩ := hv
    have C3 := C1.grow g
    have hn : nw p0 := by
      by_cases y : nw p0
      · exact y
      · exact absurd h0 (C1.al p0 y)
    have C4 : Cs nw mt F3 H3 (((σ'.set 1 (some (.int (0 + ((0 : Nat) : Int)))))).set 2 (some (.ref p0))) ((ss.set 1 (.dat (eN 0))).set 2 (.own (.lst [.int z]))) := ⟨C3.fh, C3.sl.setO 2 hF3 hn hc fun j s' _ hj ho hz => by
      have q := C1.sl.ok j s' hj
      cases s' with
      | no => cases ho
      | dat d => cases ho
      | own c' =>
        obtain ⟨p', e', _, _, c2⟩ := q
        rw [hz] at e'; cases e'
        exact cOk_ne c2 h0
      | par _ c' =>
        obtain ⟨p', e', _, _, c2⟩ := q
        rw [hz] at e'; cases e'
        exact cOk_ne c2 h0, C3.al, C.ov⟩
    have ps := p.step (C1.gs g)
    have fin : ∀ F2 H2 σ2 ss2, Gs nw mt F3 H3 F2 H2 → Cs nw mt F2 H2 σ2 ss2 → D.rt (.bl true) H2 := fun F2 H2 σ2 ss2 g2 C2 => ps.rt F2 H2 σ2 ss2 (.bl true) (.dat (.bool true)) (by rw [hk]; trivial) g2 C2 (.bl true)
    exact h z nw mt F3 H3 _ _ C4 ⟨fun F2 H2 σ2 ss2 _ g2 C2 => fin F2 H2 σ2 ss2 g2 C2, ps.rt, fun F2 H2 σ2 ss2 hb _ _ => hb.elim, fun F2 H2 σ2 ss2 hb _ _ => hb.elim⟩
  · have e1 : i = 1 := by omega
    exact .inl ⟨by subst e1; show 1 ≤ 1; omega, w1 e1⟩
end
end RO
namespace RO
open PySem PySem.Spec PyProof.Rows L2
local macro_rules | `(tactic| walk_at "ln") => `(tactic| (first | assumption | omega | (simp only [List.mem_range, List.length_range, List.length_map, List.length_append, List.length_cons, List.length_nil] at *; omega)))
def Pre_is_whole : List PyData → (Sl → Prop) → Prop := fun ds R => ∃ (a : Nat), ds = [eN a] ∧ R = one (.bool true)
theorem V_is_whole {E : XK} {ss : List Sl} {t0 : TE} {a : Nat} (k0 : Wd t0 ss (eN a))  : Wd (tCall (SpD Pre_is_whole) [] E (tCons t0 tNil)) ss (.bool true) := W_call (WA_cons (k0.to (WA_nil ⟨_, ⟨a, rfl, rfl⟩, fun s hs => ⟨_, hs, rfl⟩⟩)))
theorem ok_is_whole {P : Program} {w : World} {K : PySem.W.Frag} {mg : Str → Option Value} {base : Heap} (T : Txt K mg) : Ok P w K mg base 1 "is_whole" ["thing"] (SpD Pre_is_whole) := by
  obtain ⟨f, fd, F, bb, m⟩ := T.d_is_whole
  refine ⟨f, fd, m, F.kp, bb, fnD F sc_is_whole (fun ds R h => by obtain ⟨a, rfl, _⟩ := h; rfl) fun cdv A outer s H E ds R hr h => ?_⟩
  obtain ⟨a, rfl, rfl⟩ := h
  refine ⟨_, (pss_one (ps_ret (pe_and (pe_callB call_isi (by rfl) T.b_isinstance (by decide +kernel) (pa_cons (pv 0) (pa_cons (pe_bltn (v := .ty "int") (by rfl) T.b_int (by decide +kernel) rfl) pa_nil))) (pe_one (pe_not (pe_callB call_isi (by rfl) T.b_isinstance (by decide +kernel) (pa_cons (pv 0) (pa_cons (pe_bltn (v := .ty "bool") (by rfl) T.b_bool (by decide +kernel) rfl) pa_nil)))))))), ?_⟩
  exact T_ret (Wd.to (V_and (V_isi (V_var rfl) rfl) fun hb => (V_not (V_isi (V_var rfl) rfl))) rfl)
def Pre_is_many : List PyData → (Sl → Prop) → Prop := fun ds R => ∃ (n : Nat), (1 ≤ n ∧ n ≤ 8) ∧ ds = [eN n] ∧ R = one (.bool true)
theorem V_is_many {E : XK} {ss : List Sl} {t0 : TE} {n : Nat} (k0 : Wd t0 ss (eN n)) (h1 : 1 ≤ n ∧ n ≤ 8 := by walk_at "ln") : Wd (tCall (SpD Pre_is_many) [] E (tCons t0 tNil)) ss (.bool true) := W_call (WA_cons (k0.to (WA_nil ⟨_, ⟨n, h1, rfl, rfl⟩, fun s hs => ⟨_, hs, rfl⟩⟩)))
theorem ok_is_many {P : Program} {w : World} {K : PySem.W.Frag} {mg : Str → Option Value} {base : Heap} (T : Txt K mg) : Ok P w K mg base 2 "is_many" ["thing"] (SpD Pre_is_many) := by
  obtain ⟨f, fd, F, bb, m⟩ := T.d_is_many
  refine ⟨f, fd, m, F.kp, bb, fnD F sc_is_many (fun ds R h => by obtain ⟨n, _, rfl, _⟩ := h; rfl) fun cdv A outer s H E ds R hr h => ?_⟩
  obtain ⟨n, h1, rfl, rfl⟩ := h
  refine ⟨_, (pss_one (ps_ret (pe_and (pe_callN (ok_is_whole T) (hr.mono (by decide)) (by rfl) (pa_cons (pv 0) pa_nil)) (pe_one (pe_chain op_le op_le pe_int (pv 0) (pe_globI rfl T.most)))))), ?_⟩
  refine T_ret (Wd.to (V_and (V_is_whole (V_var rfl)) fun hb => (V_chain_lele (V_nat 1) (V_var rfl) (V_nat 8))) ?_)
  show Sl.dat _ = Sl.dat _
  rw [decide_eq_true h1.1, decide_eq_true h1.2]
  rfl
def Pre_are_apart : List PyData → (Sl → Prop) → Prop := fun ds R => ∃ (n : Nat), ∃ (r : Rl), ∃ (a b : Nat), (a < n) ∧ (b < n) ∧ ds = [eO n r, eN a, eN b] ∧ R = one (.bool (apR r a b))
theorem V_are_apart {E : XK} {ss : List Sl} {t0 t1 t2 : TE} {n : Nat} {r : Rl} {a b : Nat} (k0 : Wd t0 ss (eO n r)) (k1 : Wd t1 ss (eN a)) (k2 : Wd t2 ss (eN b)) (h1 : a < n := by walk_at "ln") (h2 : b < n := by walk_at "ln") : Wd (tCall (SpD Pre_are_apart) [] E (tCons t0 (tCons t1 (tCons t2 tNil)))) ss (.bool (apR r a b)) := W_call (WA_cons (k0.to (WA_cons (k1.to (WA_cons (k2.to (WA_nil ⟨_, ⟨n, r, a, b, h1, h2, rfl, rfl⟩, fun s hs => ⟨_, hs, rfl⟩⟩)))))))
theorem ok_are_apart {P : Program} {w : World} {K : PySem.W.Frag} {mg : Str → Option Value} {base : Heap} (T : Txt K mg) : Ok P w K mg base 1 "are_apart" ["order", "a", "b"] (SpD Pre_are_apart) := by
  obtain ⟨f, fd, F, bb, m⟩ := T.d_are_apart
  refine ⟨f, fd, m, F.kp, bb, fnD F sc_are_apart (fun ds R h => by obtain ⟨n, r, a, b, _, _, rfl, _⟩ := h; rfl) fun cdv A outer s H E ds R hr h => ?_⟩
  obtain ⟨n, r, a, b, h1, h2, rfl, rfl⟩ := h
  refine ⟨_, (pss_one (ps_ret (pe_and (pe_cmpR (k_ne K hr) (pv 1) (pv 2) (nomark _)) (pe_and (pe_cmpR (k_nin K hr) (pe_tup (pa_cons (pv 1) (pa_cons (pv 2) pa_nil))) (pe_ix (kx_tup K) (pv 0) pe_int (fun _ _ => rfl)) (by rfl)) (pe_one (pe_cmpR (k_nin K hr) (pe_tup (pa_cons (pv 2) (pa_cons (pv 1) pa_nil))) (pe_ix (kx_tup K) (pv 0) pe_int (fun _ _ => rfl)) (by rfl))))))), ?_⟩
  refine T_ret (Wd.to (V_and (V_neN (V_var rfl) (V_var rfl)) fun hb => (V_and (V_ninTP (V_pair (V_var rfl) (V_var rfl)) (V_o1 (V_var rfl))) fun hb => (V_ninTP (V_pair (V_var rfl) (V_var rfl)) (V_o1 (V_var rfl))))) ?_)
  show Sl.dat _ = Sl.dat _
  congr 2
  unfold apR
  simp only [mem_prs, h1, h2, true_and]
  cases r a b <;> cases r b a <;> by_cases e : a = b <;> simp [e]
def Pre_is_pair : List PyData → (Sl → Prop) → Prop := fun ds R => ∃ (n : Nat), ∃ (p : Pr), (p.1 < n ∧ p.2 < n) ∧ ds = [eN n, eP p] ∧ R = one (.bool true)
theorem V_is_pair {E : XK} {ss : List Sl} {t0 t1 : TE} {n : Nat} {p : Pr} (k0 : Wd t0 ss (eN n)) (k1 : Wd t1 ss (eP p)) (h1 : p.1 < n ∧ p.2 < n := by walk_at "ln") : Wd (tCall (SpD Pre_is_pair) [] E (tCons t0 (tCons t1 tNil))) ss (.bool true) := W_call (WA_cons (k0.to (WA_cons (k1.to (WA_nil ⟨_, ⟨n, p, h1, rfl, rfl⟩, fun s hs => ⟨_, hs, rfl⟩⟩)))))
theorem ok_is_pair {P : Program} {w : World} {K : PySem.W.Frag} {mg : Str → Option Value} {base : Heap} (T : Txt K mg) : Ok P w K mg base 2 "is_pair" ["many", "thing"] (SpD Pre_is_pair) := by
  obtain ⟨f, fd, F, bb, m⟩ := T.d_is_pair
  refine ⟨f, fd, m, F.kp, bb, fnD F sc_is_pair (fun ds R h => by obtain ⟨n, p, _, rfl, _⟩ := h; rfl) fun cdv A outer s H E ds R hr h => ?_⟩
  obtain ⟨n, p, h1, rfl, rfl⟩ := h
  refine ⟨_, (pss_cons (ps_if (PW.pt (pw_or (pt_not (pt_val (pe_callB call_isi (by rfl) T.b_isinstance (by decide +kernel) (pa_cons (pv 1) (pa_cons (pe_bltn (v := .ty "tuple") (by rfl) T.b_tuple (by decide +kernel) rfl) pa_nil))))) (pw_or1 (pt_cmpR (k_ne K hr) (pe_callB c_len (by rfl) T.b_len (by decide +kernel) (pa_cons (pv 1) pa_nil)) pe_int (nomark _))))) (pss_one (ps_ret pe_bl)) pss_nil)
      (pss_one (ps_ret (pe_callB (cr_all rfl) (by rfl) T.b_all (by decide +kernel) (pa_cons (pe_lc (own := [("one", 2)]) (g := gName 2) (tt := tYes) rfl sc_is_pair.nd (pi_tup (pv 1)) (blkOk_by (own := [("one", 2)]) (N := n_is_pair) (sc := defScope s_is_pair) (by decide +kernel)) (fun _ _ _ _ _ => (pg_name (i := 2) sc_is_pair.nd rfl (.inl rfl))) (fun _ _ _ _ _ => pts_nil) (fun _ _ _ _ _ => (pe_and (pe_callN (ok_is_whole T) (hr.mono (by decide)) (by rfl) (pa_cons (pv 2) pa_nil)) (pe_one (pe_chain op_le op_lt pe_int (pv 2) (pv 0)))))) pa_nil))))), ?_⟩
  refine T_seq (T_if (WTd.to (VT_or (VT_not (VT_B (V_isi (V_var rfl) rfl))) fun hb => VT_t (V_neN (V_lenP (V_var rfl)) (V_nat 2))) ?_))
  refine iteF (T_next (T_ret (Wd.to (V_all (l := [p.1, p.2]) (f := fun a => true && (decide (0 ≤ a) && decide (a < n))) (V_lcM1 (enc := eN) (VI_tup (ds := [p.1, p.2].map eN) (V_var rfl)) (by show 2 ≤ 100000; omega) fun v hv => V_and (V_is_whole (V_var rfl)) fun hb => V_chain_lelt (V_nat 0) (V_var rfl) (V_var rfl))) ?_)))
  show Sl.dat _ = Sl.dat _
  simp [h1.1, h1.2]
def Pre_leads_on : List PyData → (Sl → Prop) → Prop := fun ds R => ∃ (n : Nat), ∃ (r : Rl), ∃ (p q : Pr), (p.1 < n ∧ q.2 < n) ∧ ds = [eO n r, eP p, eP q] ∧ R = one (.bool (decide (p.1 = q.2) || r p.1 q.2))
theorem V_leads_on {E : XK} {ss : List Sl} {t0 t1 t2 : TE} {n : Nat} {r : Rl} {p q : Pr} (k0 : Wd t0 ss (eO n r)) (k1 : Wd t1 ss (eP p)) (k2 : Wd t2 ss (eP q)) (h1 : p.1 < n ∧ q.2 < n := by walk_at "ln") : Wd (tCall (SpD Pre_leads_on) [] E (tCons t0 (tCons t1 (tCons t2 tNil)))) ss (.bool (decide (p.1 = q.2) || r p.1 q.2)) := W_call (WA_cons (k0.to (WA_cons (k1.to (WA_cons (k2.to (WA_nil ⟨_, ⟨n, r, p, q, h1, rfl, rfl⟩, fun s hs => ⟨_, hs, rfl⟩⟩)))))))
theorem ok_leads_on {P : Program} {w : World} {K : PySem.W.Frag} {mg : Str → Option Value} {base : Heap} (T : Txt K mg) : Ok P w K mg base 1 "leads_on" ["order", "one", "other"] (SpD Pre_leads_on) := by
  obtain ⟨f, fd, F, bb, m⟩ := T.d_leads_on
  refine ⟨f, fd, m, F.kp, bb, fnD F sc_leads_on (fun ds R h => by obtain ⟨n, r, p, q, _, rfl, _⟩ := h; rfl) fun cdv A outer s H E ds R hr h => ?_⟩
  obtain ⟨n, r, p, q, h1, rfl, rfl⟩ := h
  refine ⟨_, (pss_one (ps_ret (pe_or (pe_cmpR (k_eq K hr) (pe_ix (kx_tup K) (pv 1) pe_int (fun _ _ => rfl)) (pe_ix (kx_tup K) (pv 2) pe_int (fun _ _ => rfl)) (nomark _)) (pe_one (pe_cmpR (k_in K hr) (pe_tup (pa_cons (pe_ix (kx_tup K) (pv 1) pe_int (fun _ _ => rfl)) (pa_cons (pe_ix (kx_tup K) (pv 2) pe_int (fun _ _ => rfl)) pa_nil))) (pe_ix (kx_tup K) (pv 0) pe_int (fun _ _ => rfl)) (by rfl)))))), ?_⟩
  refine T_ret (Wd.to (V_or (V_eqN (V_p0 (V_var rfl)) (V_p1 (V_var rfl))) fun hb => (V_inTP (V_pair (V_p0 (V_var rfl)) (V_p1 (V_var rfl))) (V_o1 (V_var rfl)))) ?_)
  show Sl.dat _ = Sl.dat _
  simp only [mem_prs, h1.1, h1.2, true_and, Bool.decide_eq_true]
def Pre_are_crossing : List PyData → (Sl → Prop) → Prop := fun ds R => ∃ (n : Nat), ∃ (r : Rl), ∃ (p q : Pr), (p.1 < n ∧ q.2 < n) ∧ (q.1 < n ∧ p.2 < n) ∧ ds = [eO n r, eP p, eP q] ∧ R = one (.bool ((decide (p.1 = q.2) || r p.1 q.2) && (decide (q.1 = p.2) || r q.1 p.2)))
theorem V_are_crossing {E : XK} {ss : List Sl} {t0 t1 t2 : TE} {n : Nat} {r : Rl} {p q : Pr} (k0 : Wd t0 ss (eO n r)) (k1 : Wd t1 ss (eP p)) (k2 : Wd t2 ss (eP q)) (h1 : p.1 < n ∧ q.2 < n := by walk_at "ln") (h2 : q.1 < n ∧ p.2 < n := by walk_at "ln") : Wd (tCall (SpD Pre_are_crossing) [] E (tCons t0 (tCons t1 (tCons t2 tNil)))) ss (.bool ((decide (p.1 = q.2) || r p.1 q.2) && (decide (q.1 = p.2) || r q.1 p.2))) := W_call (WA_cons (k0.to (WA_cons (k1.to (WA_cons (k2.to (WA_nil ⟨_, ⟨n, r, p, q, h1, h2, rfl, rfl⟩, fun s hs => ⟨_, hs, rfl⟩⟩)))))))
theorem ok_are_crossing {P : Program} {w : World} {K : PySem.W.Frag} {mg : Str → Option Value} {base : Heap} (T : Txt K mg) : Ok P w K mg base 2 "are_crossing" ["order", "one", "other"] (SpD Pre_are_crossing) := by
  obtain ⟨f, fd, F, bb, m⟩ := T.d_are_crossing
  refine ⟨f, fd, m, F.kp, bb, fnD F sc_are_crossing (fun ds R h => by obtain ⟨n, r, p, q, _, _, rfl, _⟩ := h; rfl) fun cdv A outer s H E ds R hr h => ?_⟩
  obtain ⟨n, r, p, q, h1, h2, rfl, rfl⟩ := h
  refine ⟨_, (pss_one (ps_ret (pe_and (pe_callN (ok_leads_on T) (hr.mono (by decide)) (by rfl) (pa_cons (pv 0) (pa_cons (pv 1) (pa_cons (pv 2) pa_nil)))) (pe_one (pe_callN (ok_leads_on T) (hr.mono (by decide)) (by rfl) (pa_cons (pv 0) (pa_cons (pv 2) (pa_cons (pv 1) pa_nil)))))))), ?_⟩
  exact T_ret (Wd.to (V_and (V_leads_on (V_var rfl) (V_var rfl) (V_var rfl)) fun hb => (V_leads_on (V_var rfl) (V_var rfl) (V_var rfl))) rfl)
end RO
namespace RO
open PySem PySem.Spec PyProof.Rows L2
local macro_rules | `(tactic| walk_at "ln") => `(tactic| (first | assumption | omega | (simp only [List.mem_range, List.length_range, List.length_map, List.length_append, List.length_cons, List.length_nil] at *; omega)))
theorem map_get {α β : Type} {f : α → β} {l : List α} {i : Nat} {d : β} (h : (l.map f)[i]? = some d) : ∃ x, l[i]? = some x ∧ x ∈ l ∧ d = f x := by
  rw [List.getElem?_map] at h
  cases q : l[i]? with
  | none => rw [q] at h; cases h
  | some x => rw [q] at h; cases h; exact ⟨x, rfl, List.mem_of_getElem? q, rfl⟩
theorem prs_big {n : Nat} {r : Rl} (h : n ≤ 8) : (prs n r).length ≤ 64 := by
  have := prs_length_le n r
  have := Nat.mul_le_mul h h
  omega
def Pre_follows : List PyData → (Sl → Prop) → Prop := fun ds R => ∃ (n : Nat), ∃ (r : Rl), (Po n r) ∧ ds = [eTP (prs n r)] ∧ R = one (.bool true)
theorem V_follows {E : XK} {ss : List Sl} {t0 : TE} {n : Nat} {r : Rl} (k0 : Wd t0 ss (eTP (prs n r))) (h1 : Po n r := by walk_at "ln") : Wd (tCall (SpD Pre_follows) [] E (tCons t0 tNil)) ss (.bool true) := W_call (WA_cons (k0.to (WA_nil ⟨_, ⟨n, r, h1, rfl, rfl⟩, fun s hs => ⟨_, hs, rfl⟩⟩)))
theorem ok_follows {P : Program} {w : World} {K : PySem.W.Frag} {mg : Str → Option Value} {base : Heap} (T : Txt K mg) : Ok P w K mg base 1 "follows" ["pairs"] (SpD Pre_follows) := by
  obtain ⟨f, fd, F, bb, m⟩ := T.d_follows
  refine ⟨f, fd, m, F.kp, bb, fnD F sc_follows (fun ds R h => by obtain ⟨n, r, _, rfl, _⟩ := h; rfl) fun cdv A outer s H E ds R hr h => ?_⟩
  obtain ⟨n, r, h1, rfl, rfl⟩ := h
  refine ⟨_, (pss_cons (ps_for PassesOwn.never rfl (pi_tup (pv 0)) (pg_tup rfl (pgs_cons (pg_name (i := 1) sc_follows.nd rfl (.inl rfl)) (pgs_cons (pg_name (i := 2) sc_follows.nd rfl (.inl rfl)) pgs_nil))) (pss_cons (ps_if (pt_cmpR (k_eq K hr) (pv 1) (pv 2) (nomark _)) (pss_one (ps_ret pe_bl)) pss_nil)
      (pss_one (ps_for PassesOwn.never rfl (pi_tup (pv 0)) (pg_tup rfl (pgs_cons (pg_name (i := 3) sc_follows.nd rfl (.inl rfl)) (pgs_cons (pg_name (i := 4) sc_follows.nd rfl (.inl rfl)) pgs_nil))) (pss_one (ps_if (PW.pt (pw_and (pt_cmpR (k_eq K hr) (pv 2) (pv 3) (nomark _)) (pw_and1 (pt_cmpR (k_nin K hr) (pe_tup (pa_cons (pv 1) (pa_cons (pv 4) pa_nil))) (pv 0) (by rfl))))) (pss_one (ps_ret pe_bl)) pss_nil))))))
      (pss_one (ps_ret pe_bl))), ?_⟩
  refine T_seq (T_for [1, 2] ((VI_tup (V_var rfl)).to ⟨fun _ ss => ∃ y1 y2 y3 y4, ss = [.dat (eTP (prs n r)), y1, y2, y3, y4], ⟨_, _, _, _, rfl⟩, ?_, ?_⟩))
  · rintro i d ss' hd ⟨y1, y2, y3, y4, rfl⟩
    obtain ⟨p, _, hp, rfl⟩ := map_get hd
    have hp := mem_prs.mp hp
    refine WG_tup ⟨_, _, rfl, ?_⟩
    refine T_seq (T_if ((VT_t (V_eqN (V_var rfl) (V_var rfl))).to ?_))
    have ne : ¬ p.1 = p.2 := fun e => by
      have := h1.irr p.1 hp.1
      rw [e] at hp this
      rw [this] at hp
      cases hp.2.2
    rw [decide_eq_false ne]
    refine iteF (T_next (T_for [3, 4] ((VI_tup (V_var rfl)).to ⟨fun _ ss => ∃ y3 y4, ss = [.dat (eTP (prs n r)), .dat (eN p.1), .dat (eN p.2), y3, y4], ⟨_, _, rfl⟩, ?_, ?_⟩)))
    · rintro j d ss' hd ⟨y3, y4, rfl⟩
      obtain ⟨q, _, hq, rfl⟩ := map_get hd
      have hq := mem_prs.mp hq
      refine WG_tup ⟨_, _, rfl, ?_⟩
      refine T_if ((VT_and (VT_t (V_eqN (V_var rfl) (V_var rfl))) fun hb => (VT_t (V_ninTP (V_pair (V_var rfl) (V_var rfl)) (V_var rfl)))).to ?_)
      have e : (decide (p.2 = q.1) && !decide ((p.1, q.2) ∈ prs n r)) = false := by
        by_cases e : p.2 = q.1
        · have : (p.1, q.2) ∈ prs n r := mem_prs2.mpr ⟨hp.1, hq.2.1, h1.tr _ _ _ hp.1 hp.2.1 hq.2.1 hp.2.2 (by rw [e]; exact hq.2.2)⟩
          simp [this]
        · simp [e]
      rw [e]
      exact iteF (T_next ⟨_, _, rfl⟩)
    · rintro ss' ⟨y3, y4, rfl⟩
      exact ⟨_, _, _, _, rfl⟩
  · rintro ss' ⟨y1, y2, y3, y4, rfl⟩
    exact T_ret (V_bl.to rfl)
def Pre_is_order : List PyData → (Sl → Prop) → Prop := fun ds R => ∃ (n : Nat), ∃ (r : Rl), (G6 n r) ∧ ds = [eO n r] ∧ R = one (.bool true)
theorem V_is_order {E : XK} {ss : List Sl} {t0 : TE} {n : Nat} {r : Rl} (k0 : Wd t0 ss (eO n r)) (h1 : G6 n r := by walk_at "ln") : Wd (tCall (SpD Pre_is_order) [] E (tCons t0 tNil)) ss (.bool true) := W_call (WA_cons (k0.to (WA_nil ⟨_, ⟨n, r, h1, rfl, rfl⟩, fun s hs => ⟨_, hs, rfl⟩⟩)))
theorem ok_is_order {P : Program} {w : World} {K : PySem.W.Frag} {mg : Str → Option Value} {base : Heap} (T : Txt K mg) : Ok P w K mg base 3 "is_order" ["thing"] (SpD Pre_is_order) := by
  obtain ⟨f, fd, F, bb, m⟩ := T.d_is_order
  refine ⟨f, fd, m, F.kp, bb, fnD F sc_is_order (fun ds R h => by obtain ⟨n, r, _, rfl, _⟩ := h; rfl) fun cdv A outer s H E ds R hr h => ?_⟩
  obtain ⟨n, r, h1, rfl, rfl⟩ := h
  refine ⟨_, (pss_cons (ps_if (PW.pt (pw_or (pt_not (pt_val (pe_callB call_isi (by rfl) T.b_isinstance (by decide +kernel) (pa_cons (pv 0) (pa_cons (pe_bltn (v := .ty "tuple") (by rfl) T.b_tuple (by decide +kernel) rfl) pa_nil))))) (pw_or (pt_cmpR (k_ne K hr) (pe_callB c_len (by rfl) T.b_len (by decide +kernel) (pa_cons (pv 0) pa_nil)) pe_int (nomark _)) (pw_or (pt_not (pt_val (pe_callN (ok_is_many T) (hr.mono (by decide)) (by rfl) (pa_cons (pe_ix (kx_tup K) (pv 0) pe_int (fun _ _ => rfl)) pa_nil)))) (pw_or1 (pt_not (pt_val (pe_callB call_isi (by rfl) T.b_isinstance (by decide +kernel) (pa_cons (pe_ix (kx_tup K) (pv 0) pe_int (fun _ _ => rfl)) (pa_cons (pe_bltn (v := .ty "tuple") (by rfl) T.b_tuple (by decide +kernel) rfl) pa_nil)))))))))) (pss_one (ps_ret pe_bl)) pss_nil)
      (pss_cons (ps_asg (pv 0) (pg_tup rfl (pgs_cons (pg_name (i := 1) sc_is_order.nd rfl (.inr rfl)) (pgs_cons (pg_name (i := 2) sc_is_order.nd rfl (.inl rfl)) pgs_nil))))
      (pss_cons (ps_if (pt_not (pt_val (pe_callB (cr_all rfl) (by rfl) T.b_all (by decide +kernel) (pa_cons (pe_lc (own := [("pair", 3)]) (g := gName 3) (tt := tYes) rfl sc_is_order.nd (pi_tup (pv 2)) (blkOk_by (own := [("pair", 3)]) (N := n_is_order) (sc := defScope s_is_order) (by decide +kernel)) (fun _ _ _ _ _ => (pg_name (i := 3) sc_is_order.nd rfl (.inl rfl))) (fun _ _ _ _ _ => pts_nil) (fun _ _ _ _ _ => (pe_callN (ok_is_pair T) (hr.mono (by decide)) (by rfl) (pa_cons (pv 1) (pa_cons (pv 3) pa_nil))))) pa_nil)))) (pss_one (ps_ret pe_bl)) pss_nil)
      (pss_one (ps_ret (pe_and (pe_cmpR (k_eq K hr) (pe_callTy c_list (by rfl) T.b_list (by decide +kernel) (pa_cons (pv 2) pa_nil)) (pe_callB (cr_sortedT rfl) (by rfl) T.b_sorted (by decide +kernel) (pa_cons (pe_callTy (c_setT rfl hr.units) (by rfl) T.b_set (by decide +kernel) (pa_cons (pv 2) pa_nil)) pa_nil)) (nomark _)) (pe_one (pe_callN (ok_follows T) (hr.mono (by decide)) (by rfl) (pa_cons (pv 2) pa_nil))))))))), ?_⟩
  obtain ⟨g1, g2, g3⟩ := h1
  refine T_seq (T_if (WTd.to (VT_or (VT_not (VT_B (V_isi (V_var rfl) rfl))) fun hb => VT_or (VT_t (V_neN (V_lenP (V_var rfl)) (V_nat 2))) fun hb => VT_or (VT_not (VT_B (V_is_many (V_o0 (V_var rfl)) ⟨g1, by omega⟩))) fun hb => VT_not (VT_B (V_isi (V_o1 (V_var rfl)) rfl))) ?_))
  refine iteF (T_next (T_seq (T_asgG (js := [1, 2]) ((V_var rfl).to (WG_tup ⟨_, _, rfl, ?_⟩)))))
  have hb := prs36 (n := n) (R := r) g2
  refine T_seq (T_if (WTd.to (VT_not (VT_B (V_all (l := prs n r) (f := fun _ => true) (V_lcM1 (enc := eP) (VI_tup (V_var rfl)) (by omega) fun v hv => V_is_pair (V_var rfl) (V_var rfl) (by
    have := mem_prs.mp hv
    exact ⟨this.1, this.2.1⟩))))) ?_))
  have e1 : (!(prs n r).all fun _ => true) = false := by simp
  rw [e1]
  refine iteF (T_next (T_ret (Wd.to (V_and (V_eqLP (V_listT (V_var rfl)) (V_sortsetT (n := n) (V_var rfl) ⟨by omega, by omega, ?_⟩)) fun hb => V_follows (V_var rfl)) ?_)))
  · intro p hp
    have := mem_prs.mp hp
    exact ⟨this.1, this.2.1⟩
  · show Sl.dat _ = Sl.dat _
    have : prs n r = prs n (inL (prs n r)) := prs_congr fun a b ha hb => by
      unfold inL
      simp [mem_prs2, ha, hb]
    rw [← this]
    simp
def Pre_need_order : List PyData → (Sl → Prop) → Prop := fun ds R => ∃ (n : Nat), ∃ (r : Rl), (G6 n r) ∧ ds = [eO n r] ∧ R = one (.none)
theorem V_need_order {E : XK} {ss : List Sl} {t0 : TE} {n : Nat} {r : Rl} (k0 : Wd t0 ss (eO n r)) (h1 : G6 n r := by walk_at "ln") : Wd (tCall (SpD Pre_need_order) [] E (tCons t0 tNil)) ss (.none) := W_call (WA_cons (k0.to (WA_nil ⟨_, ⟨n, r, h1, rfl, rfl⟩, fun s hs => ⟨_, hs, rfl⟩⟩)))
theorem ok_need_order {P : Program} {w : World} {K : PySem.W.Frag} {mg : Str → Option Value} {base : Heap} (T : Txt K mg) : Ok P w K mg base 4 "need_order" ["order"] (SpD Pre_need_order) := by
  obtain ⟨f, fd, F, bb, m⟩ := T.d_need_order
  refine ⟨f, fd, m, F.kp, bb, fnD F sc_need_order (fun ds R h => by obtain ⟨n, r, _, rfl, _⟩ := h; rfl) fun cdv A outer s H E ds R hr h => ?_⟩
  obtain ⟨n, r, h1, rfl, rfl⟩ := h
  refine ⟨_, (pss_one (ps_if (pt_not (pt_val (pe_callN (ok_is_order T) (hr.mono (by decide)) (by rfl) (pa_cons (pv 0) pa_nil)))) (pss_one ps_never) pss_nil)), ?_⟩
  refine T_if ((VT_not (VT_B (V_is_order (V_var rfl)))).to ?_)
  exact iteF (T_next rfl)
end RO
namespace RO
open PySem PySem.Spec PyProof.Rows L2
local macro_rules | `(tactic| walk_at "ln") => `(tactic| (first | assumption | omega | (simp only [List.mem_range, List.length_range, List.length_map, List.length_append, List.length_cons, List.length_nil] at *; omega)))
theorem flat_len {α β : Type} {f : α → List β} {m : Nat} : ∀ (l : List α), (∀ a ∈ l, (f a).length ≤ m) → (l.flatMap f).length ≤ l.length * m
  | [], _ => by simp
  | a :: l, h => by
    rw [List.flatMap_cons, List.length_append, List.length_cons]
    have h1 := h a List.mem_cons_self
    have h2 := flat_len l fun x hx => h x (List.mem_cons_of_mem _ hx)
    rw [Nat.add_mul]
    omega
theorem isND_list (l : List PyData) : isND (.list l) = false := rfl
def Pre_turned : List PyData → (Sl → Prop) → Prop := fun ds R => ∃ (n : Nat), ∃ (r : Rl), (G6 n r) ∧ ds = [eO n r] ∧ R = one (eO n (fun a b => r b a))
theorem V_turned {E : XK} {ss : List Sl} {t0 : TE} {n : Nat} {r : Rl} (k0 : Wd t0 ss (eO n r)) (h1 : G6 n r := by walk_at "ln") : Wd (tCall (SpD Pre_turned) [] E (tCons t0 tNil)) ss (eO n (fun a b => r b a)) := W_call (WA_cons (k0.to (WA_nil ⟨_, ⟨n, r, h1, rfl, rfl⟩, fun s hs => ⟨_, hs, rfl⟩⟩)))
theorem ok_turned {P : Program} {w : World} {K : PySem.W.Frag} {mg : Str → Option Value} {base : Heap} (T : Txt K mg) : Ok P w K mg base 5 "turned" ["order"] (SpD Pre_turned) := by
  obtain ⟨f, fd, F, bb, m⟩ := T.d_turned
  refine ⟨f, fd, m, F.kp, bb, fnD F sc_turned (fun ds R h => by obtain ⟨n, r, _, rfl, _⟩ := h; rfl) fun cdv A outer s H E ds R hr h => ?_⟩
  obtain ⟨n, r, h1, rfl, rfl⟩ := h
  refine ⟨_, (pss_cons (ps_expr (pe_callN (ok_need_order T) (hr.mono (by decide)) (by rfl) (pa_cons (pv 0) pa_nil)))
      (pss_one (ps_ret (pe_tup (pa_cons (pe_ix (kx_tup K) (pv 0) pe_int (fun _ _ => rfl)) (pa_cons (pe_callTy c_tuple (by rfl) T.b_tuple (by decide +kernel) (pa_cons (pe_callB (cr_sortT (d := 2) (B := 64) (by decide)) (by rfl) T.b_sorted (by decide +kernel) (pa_cons (pe_lc (own := [("a", 1), ("b", 2)]) (g := gTup K 2 (gCons (gName 1) (gCons (gName 2) gNil))) (tt := tYes) rfl sc_turned.nd (pi_tup (pe_ix (kx_tup K) (pv 0) pe_int (fun _ _ => rfl))) (blkOk_by (own := [("a", 1), ("b", 2)]) (N := n_turned) (sc := defScope s_turned) (by decide +kernel)) (fun _ _ _ _ _ => (pg_tup rfl (pgs_cons (pg_name (i := 1) sc_turned.nd rfl (.inl rfl)) (pgs_cons (pg_name (i := 2) sc_turned.nd rfl (.inl rfl)) pgs_nil)))) (fun _ _ _ _ _ => pts_nil) (fun _ _ _ _ _ => (pe_tup (pa_cons (pv 2) (pa_cons (pv 1) pa_nil))))) pa_nil)) pa_nil)) pa_nil)))))), ?_⟩
  have hb := prs36 (n := n) (R := r) h1.2.1
  refine T_seq (T_drop ((V_need_order (V_var rfl)).to ?_))
  refine T_ret (Wd.to (V_order (V_o0 (V_var rfl)) (V_tuple (Wd.cast (V_sortedP (n := n) (l := (prs n r).map fun p => (p.2, p.1)) (Wd.cast (V_lcM2 (VI_tup (V_o1 (V_var rfl))) (by omega) (fun v hv => V_pair (V_var rfl) (V_var rfl))) ?_) ⟨?_, ?_, ?_, ?_⟩) ?_))) rfl)
  · rw [eLP, List.map_map]; rfl
  · rw [List.length_map]; omega
  · have := h1.2.1; omega
  · intro p hp
    obtain ⟨q, hq, rfl⟩ := List.mem_map.mp hp
    have := mem_prs.mp hq
    exact ⟨this.2.1, this.1⟩
  · refine List.Pairwise.map _ (fun a b hab e => ?_) (prs_nodup n r)
    simp only [Prod.mk.injEq] at e
    exact hab (Prod.ext e.2 e.1)
  · refine congrArg (fun l => PyData.list (List.map eP l)) (prs_congr fun a b ha hb => ?_)
    unfold inL
    by_cases hr' : r b a = true
    · rw [hr']
      exact decide_eq_true (List.mem_map.mpr ⟨(b, a), mem_prs2.mpr ⟨hb, ha, hr'⟩, rfl⟩)
    · rw [Bool.not_eq_true] at hr'
      rw [hr']
      refine decide_eq_false fun hm => ?_
      obtain ⟨q, hq, e⟩ := List.mem_map.mp hm
      simp only [Prod.mk.injEq] at e
      have := mem_prs.mp hq
      rw [e.1, e.2, hr'] at this
      cases this.2.2
def Pre_all_turns : List PyData → (Sl → Prop) → Prop := fun ds R => ∃ (n : Nat), ∃ (r : Rl), (n ≤ 6) ∧ ds = [eO n r] ∧ R = one (eLP (prs n (apR r)))
theorem V_all_turns {E : XK} {ss : List Sl} {t0 : TE} {n : Nat} {r : Rl} (k0 : Wd t0 ss (eO n r)) (h1 : n ≤ 6 := by walk_at "ln") : Wd (tCall (SpD Pre_all_turns) [] E (tCons t0 tNil)) ss (eLP (prs n (apR r))) := W_call (WA_cons (k0.to (WA_nil ⟨_, ⟨n, r, h1, rfl, rfl⟩, fun s hs => ⟨_, hs, rfl⟩⟩)))
theorem ok_all_turns {P : Program} {w : World} {K : PySem.W.Frag} {mg : Str → Option Value} {base : Heap} (T : Txt K mg) : Ok P w K mg base 2 "all_turns" ["order"] (SpD Pre_all_turns) := by
  obtain ⟨f, fd, F, bb, m⟩ := T.d_all_turns
  refine ⟨f, fd, m, F.kp, bb, fnD F sc_all_turns (fun ds R h => by obtain ⟨n, r, _, rfl, _⟩ := h; rfl) fun cdv A outer s H E ds R hr h => ?_⟩
  obtain ⟨n, r, h1, rfl, rfl⟩ := h
  refine ⟨_, (pss_cons (ps_set (i := 1) sc_all_turns.nd rfl (.inl rfl) (pe_lst pa_nil))
      (pss_cons (ps_for PassesOwn.never rfl (pi_range1 rfl T.b_range (pa_cons (pe_ix (kx_tup K) (pv 0) pe_int (fun _ _ => rfl)) pa_nil)) (pg_name (i := 2) sc_all_turns.nd rfl (.inr rfl)) (pss_one (ps_expr (pe_bm PySem.F.plainAttrs_list PySem.F.slot_list_extend PySem.F.type_list_extend mt_extend (pv 1) (pa_cons (pe_lc (own := [("b", 3)]) (g := gName 3)  rfl sc_all_turns.nd (pi_range1 rfl T.b_range (pa_cons (pe_ix (kx_tup K) (pv 0) pe_int (fun _ _ => rfl)) pa_nil)) (blkOk_by (own := [("b", 3)]) (N := n_all_turns) (sc := defScope s_all_turns) (by decide +kernel)) (fun _ _ _ _ _ => (pg_name (i := 3) sc_all_turns.nd rfl (.inl rfl))) (fun _ _ _ _ _ => pts_one (pt_val (pe_callN (ok_are_apart T) (hr.mono (by decide)) (by rfl) (pa_cons (pv 0) (pa_cons (pv 2) (pa_cons (pv 3) pa_nil)))))) (fun _ _ _ _ _ => (pe_tup (pa_cons (pv 2) (pa_cons (pv 3) pa_nil))))) pa_nil)))))
      (pss_one (ps_ret (pv 1))))), ?_⟩
  refine T_seq (T_newL (WA_nil ⟨by show 0 ≤ 100000; omega, ?_⟩))
  refine T_seq (T_for [2] ((VI_rng (V_o0 (V_var rfl)) (by walk_at "ln")).to ⟨fun i ss => ∃ y2 y3, ss = [.dat (eO n r), .own (.lst (((List.range i).flatMap fun a => ((List.range n).filter (apR r a)).map fun b => (a, b)).map eP)), y2, y3], ⟨_, _, rfl⟩, ?_, ?_⟩))
  · rintro i d ss' hd ⟨y2, y3, rfl⟩
    obtain ⟨a, ha1, ha, rfl⟩ := map_get hd
    have hi : i < n := by
      have := (List.getElem?_eq_some_iff.mp ha1).1
      rwa [List.length_range] at this
    have ea : a = i := by
      rw [List.getElem?_range hi] at ha1
      exact (Option.some.inj ha1).symm
    subst ea
    have hlen : ((List.range a).flatMap fun a => ((List.range n).filter (apR r a)).map fun b => (a, b)).length ≤ a * n := by
      have := flat_len (f := fun a => ((List.range n).filter (apR r a)).map fun b => (a, b)) (m := n) (List.range a) fun x _ => by
        rw [List.length_map]
        exact Nat.le_trans (List.length_filter_le _ _) (by rw [List.length_range]; exact Nat.le_refl _)
      rwa [List.length_range] at this
    have h6 : a * n ≤ 36 := Nat.le_trans (Nat.mul_le_mul (show a ≤ 6 by omega) h1) (by decide)
    refine WG_name (T_ext rfl (Wd.to (V_lcF1 (enc := eN) (VI_rng (V_o0 (V_var rfl)) (by walk_at "ln")) (by walk_at "ln") (fun v hv => (VT_B (V_are_apart (V_var rfl) (V_var rfl) (V_var rfl)))) (fun v hv hp => (V_pair (V_var rfl) (V_var rfl)))) ⟨_, rfl, ?_, .dat (eN a), y3, ?_⟩))
    · have := List.length_filter_le (fun v => apR r a v) (List.range n)
      rw [List.length_range] at this
      rw [List.length_map, List.length_map]
      omega
    · have e : ((List.range a).flatMap fun a => ((List.range n).filter (apR r a)).map fun b => (a, b)).map eP ++ ((List.range n).filter fun v => apR r a v).map (fun v => eP (a, v)) = ((List.range (a + 1)).flatMap fun a => ((List.range n).filter (apR r a)).map fun b => (a, b)).map eP := by
        rw [List.range_succ, List.flatMap_append, List.map_append, List.flatMap_singleton, List.map_map]
        rfl
      rw [← e]
      rfl
  · rintro ss' ⟨y2, y3, rfl⟩
    refine T_frz 1 rfl (T_ret (Wd.to (V_var rfl) ?_))
    show Sl.dat _ = Sl.dat _
    rw [prs_flat]
    rw [List.length_map, List.length_range]
def Pre_one_row : List PyData → (Sl → Prop) → Prop := fun ds R => ∃ (n : Nat), ∃ (r : Rl), (G6 n r) ∧ ds = [eO n r] ∧ R = one (.bool (decide (prs n (apR r) = [])))
theorem V_one_row {E : XK} {ss : List Sl} {t0 : TE} {n : Nat} {r : Rl} (k0 : Wd t0 ss (eO n r)) (h1 : G6 n r := by walk_at "ln") : Wd (tCall (SpD Pre_one_row) [] E (tCons t0 tNil)) ss (.bool (decide (prs n (apR r) = []))) := W_call (WA_cons (k0.to (WA_nil ⟨_, ⟨n, r, h1, rfl, rfl⟩, fun s hs => ⟨_, hs, rfl⟩⟩)))
theorem ok_one_row {P : Program} {w : World} {K : PySem.W.Frag} {mg : Str → Option Value} {base : Heap} (T : Txt K mg) : Ok P w K mg base 5 "one_row" ["order"] (SpD Pre_one_row) := by
  obtain ⟨f, fd, F, bb, m⟩ := T.d_one_row
  refine ⟨f, fd, m, F.kp, bb, fnD F sc_one_row (fun ds R h => by obtain ⟨n, r, _, rfl, _⟩ := h; rfl) fun cdv A outer s H E ds R hr h => ?_⟩
  obtain ⟨n, r, h1, rfl, rfl⟩ := h
  refine ⟨_, (pss_cons (ps_expr (pe_callN (ok_need_order T) (hr.mono (by decide)) (by rfl) (pa_cons (pv 0) pa_nil)))
      (pss_one (ps_ret (pe_cmpR (k_eq K hr) (pe_callN (ok_all_turns T) (hr.mono (by decide)) (by rfl) (pa_cons (pv 0) pa_nil)) (pe_lst pa_nil) (nomark _))))), ?_⟩
  have h2 := h1.2.1
  refine T_seq (T_drop ((V_need_order (V_var rfl)).to ?_))
  exact T_ret (Wd.to (V_eqLP (V_all_turns (V_var rfl)) V_lst0) rfl)
end RO
namespace RO
open PySem PySem.Spec PyProof.Rows L2
local macro_rules | `(tactic| walk_at "ln") => `(tactic| (first | assumption | omega | (simp only [List.mem_range, List.length_range, List.length_map, List.length_append, List.length_cons, List.length_nil] at *; omega)))
/-! ### mirrors -/
def shB (n : Nat) (r : Rl) (a b : Nat) : Bool := ((prs n r).filter fun p => decide (p.2 = a)).all (fun p => decide ((p.1, b) ∈ prs n r)) && ((prs n r).filter fun p => decide (p.1 = b)).all (fun p => decide ((a, p.2) ∈ prs n r))
def shR (n : Nat) (r : Rl) : Rl := fun a b => apR r a b && shB n r a b
def fcB (l : List Pr) (p q : Pr) : Bool := if p = q then false else if p.1 = q.1 then !decide ((p.2, q.2) ∈ l) else decide (p.2 = q.2) && !decide ((p.1, q.1) ∈ l)
def nxT (n : Nat) (r : Rl) (g : List Nat) : List Nat := (List.range n).filter fun t => !decide (t ∈ g) && ((prs n r).filter fun p => decide (p.2 = t)).all (fun p => decide (p.1 ∈ g))
def tolR (rows : List (List Nat)) : Rl := fun a b => !decide (a = b) && rows.all (fun row => decide (row.idxOf a < row.idxOf b))
theorem idx_ok {a : Nat} : ∀ {l : List Nat}, a ∈ l → l[l.idxOf a]? = some a ∧ ∀ m, m < l.idxOf a → l[m]? ≠ some a
  | [], h => by cases h
  | x :: l, h => by
    by_cases e : x = a
    · subst e
      have e0 : (x :: l).idxOf x = 0 := List.idxOf_cons_self
      rw [e0]
      exact ⟨rfl, fun m hm => absurd hm (Nat.not_lt_zero m)⟩
    · have ha : a ∈ l := by
        rcases List.mem_cons.mp h with z | z
        · exact absurd z.symm e
        · exact z
      have ih := idx_ok ha
      have ei : (x :: l).idxOf a = l.idxOf a + 1 := by
        have eb : (x == a) = false := beq_eq_false_iff_ne.mpr e
        simp [List.idxOf, List.findIdx_cons, eb]
      rw [ei]
      refine ⟨by simpa using ih.1, fun m hm => ?_⟩
      cases m with
      | zero => simpa using e
      | succ m => simpa using ih.2 m (by omega)
theorem fr_yes {p : Nat → Bool} {a : Nat} (h : p a = true) : (List.range (a + 1)).filter p = (List.range a).filter p ++ [a] := by
  rw [List.range_succ, List.filter_append, List.filter_cons, h]
  rfl
theorem fr_no {p : Nat → Bool} {a : Nat} (h : p a = false) : (List.range (a + 1)).filter p = (List.range a).filter p := by
  rw [List.range_succ, List.filter_append, List.filter_cons, h]
  simp
theorem fr_len (p : Nat → Bool) (a : Nat) : ((List.range a).filter p).length ≤ a := by
  have := List.length_filter_le p (List.range a)
  rwa [List.length_range] at this
/-- the turns of a for over range(n) -/
theorem rng_turn {n i : Nat} {d : PyData} (h : ((List.range n).map eN)[i]? = some d) : i < n ∧ d = eN i := by
  obtain ⟨a, ha1, _, rfl⟩ := map_get h
  have hi : i < n := by
    have := (List.getElem?_eq_some_iff.mp ha1).1
    rwa [List.length_range] at this
  rw [List.getElem?_range hi] at ha1
  exact ⟨hi, by rw [Option.some.inj ha1]⟩
/-! ### defs -/
def Pre_is_sharp : List PyData → (Sl → Prop) → Prop := fun ds R => ∃ (n : Nat), ∃ (r : Rl), ∃ (a b : Nat), (n ≤ 6) ∧ ds = [eO n r, eN a, eN b] ∧ R = one (.bool (shB n r a b))
theorem V_is_sharp {E : XK} {ss : List Sl} {t0 t1 t2 : TE} {n : Nat} {r : Rl} {a b : Nat} (k0 : Wd t0 ss (eO n r)) (k1 : Wd t1 ss (eN a)) (k2 : Wd t2 ss (eN b)) (h1 : n ≤ 6 := by walk_at "ln") : Wd (tCall (SpD Pre_is_sharp) [] E (tCons t0 (tCons t1 (tCons t2 tNil)))) ss (.bool (shB n r a b)) := W_call (WA_cons (k0.to (WA_cons (k1.to (WA_cons (k2.to (WA_nil ⟨_, ⟨n, r, a, b, h1, rfl, rfl⟩, fun s hs => ⟨_, hs, rfl⟩⟩)))))))
theorem ok_is_sharp {P : Program} {w : World} {K : PySem.W.Frag} {mg : Str → Option Value} {base : Heap} (T : Txt K mg) : Ok P w K mg base 1 "is_sharp" ["order", "a", "b"] (SpD Pre_is_sharp) := by
  obtain ⟨f, fd, F, bb, m⟩ := T.d_is_sharp
  refine ⟨f, fd, m, F.kp, bb, fnD F sc_is_sharp (fun ds R h => by obtain ⟨n, r, a, b, _, rfl, _⟩ := h; rfl) fun cdv A outer s H E ds R hr h => ?_⟩
  obtain ⟨n, r, a, b, h1, rfl, rfl⟩ := h
  refine ⟨_, (pss_cons (ps_if (pt_not (pt_val (pe_callB (cr_all rfl) (by rfl) T.b_all (by decide +kernel) (pa_cons (pe_lc (own := [("c", 3), ("d", 4)]) (g := gTup K 2 (gCons (gName 3) (gCons (gName 4) gNil)))  rfl sc_is_sharp.nd (pi_tup (pe_ix (kx_tup K) (pv 0) pe_int (fun _ _ => rfl))) (blkOk_by (own := [("c", 3), ("d", 4)]) (N := n_is_sharp) (sc := defScope s_is_sharp) (by decide +kernel)) (fun _ _ _ _ _ => (pg_tup rfl (pgs_cons (pg_name (i := 3) sc_is_sharp.nd rfl (.inl rfl)) (pgs_cons (pg_name (i := 4) sc_is_sharp.nd rfl (.inl rfl)) pgs_nil)))) (fun _ _ _ _ _ => pts_one (pt_cmpR (k_eq K hr) (pv 4) (pv 1) (nomark _))) (fun _ _ _ _ _ => (pe_cmpR (k_in K hr) (pe_tup (pa_cons (pv 3) (pa_cons (pv 2) pa_nil))) (pe_ix (kx_tup K) (pv 0) pe_int (fun _ _ => rfl)) (by rfl)))) pa_nil)))) (pss_one (ps_ret pe_bl)) pss_nil)
      (pss_one (ps_ret (pe_callB (cr_all rfl) (by rfl) T.b_all (by decide +kernel) (pa_cons (pe_lc (own := [("c", 3), ("d", 4)]) (g := gTup K 2 (gCons (gName 3) (gCons (gName 4) gNil)))  rfl sc_is_sharp.nd (pi_tup (pe_ix (kx_tup K) (pv 0) pe_int (fun _ _ => rfl))) (blkOk_by (own := [("c", 3), ("d", 4)]) (N := n_is_sharp) (sc := defScope s_is_sharp) (by decide +kernel)) (fun _ _ _ _ _ => (pg_tup rfl (pgs_cons (pg_name (i := 3) sc_is_sharp.nd rfl (.inl rfl)) (pgs_cons (pg_name (i := 4) sc_is_sharp.nd rfl (.inl rfl)) pgs_nil)))) (fun _ _ _ _ _ => pts_one (pt_cmpR (k_eq K hr) (pv 3) (pv 2) (nomark _))) (fun _ _ _ _ _ => (pe_cmpR (k_in K hr) (pe_tup (pa_cons (pv 1) (pa_cons (pv 4) pa_nil))) (pe_ix (kx_tup K) (pv 0) pe_int (fun _ _ => rfl)) (by rfl)))) pa_nil))))), ?_⟩
  have hb := prs36 (n := n) (R := r) h1
  refine T_seq (T_if ((VT_not (VT_B (V_all (V_lcF2 (VI_tup (V_o1 (V_var rfl))) (by walk_at "ln") (fun v hv => (VT_t (V_eqN (V_var rfl) (V_var rfl)))) (fun v hv hp => (V_inTP (V_pair (V_var rfl) (V_var rfl)) (V_o1 (V_var rfl)))))))).to ?_))
  unfold shB
  cases e : ((prs n r).filter fun v => decide (v.2 = a)).all (fun p => decide ((p.1, b) ∈ prs n r)) with
  | false => exact iteT (T_ret (V_bl.to rfl))
  | true => exact iteF (T_next (T_ret (Wd.to (V_all (V_lcF2 (VI_tup (V_o1 (V_var rfl))) (by walk_at "ln") (fun v hv => (VT_t (V_eqN (V_var rfl) (V_var rfl)))) (fun v hv hp => (V_inTP (V_pair (V_var rfl) (V_var rfl)) (V_o1 (V_var rfl)))))) rfl)))
def Pre_sharp_of : List PyData → (Sl → Prop) → Prop := fun ds R => ∃ (n : Nat), ∃ (r : Rl), (n ≤ 6) ∧ ds = [eO n r] ∧ R = one (eLP (prs n (shR n r)))
theorem V_sharp_of {E : XK} {ss : List Sl} {t0 : TE} {n : Nat} {r : Rl} (k0 : Wd t0 ss (eO n r)) (h1 : n ≤ 6 := by walk_at "ln") : Wd (tCall (SpD Pre_sharp_of) [] E (tCons t0 tNil)) ss (eLP (prs n (shR n r))) := W_call (WA_cons (k0.to (WA_nil ⟨_, ⟨n, r, h1, rfl, rfl⟩, fun s hs => ⟨_, hs, rfl⟩⟩)))
theorem ok_sharp_of {P : Program} {w : World} {K : PySem.W.Frag} {mg : Str → Option Value} {base : Heap} (T : Txt K mg) : Ok P w K mg base 3 "sharp_of" ["order"] (SpD Pre_sharp_of) := by
  obtain ⟨f, fd, F, bb, m⟩ := T.d_sharp_of
  refine ⟨f, fd, m, F.kp, bb, fnD F sc_sharp_of (fun ds R h => by obtain ⟨n, r, _, rfl, _⟩ := h; rfl) fun cdv A outer s H E ds R hr h => ?_⟩
  obtain ⟨n, r, h1, rfl, rfl⟩ := h
  refine ⟨_, (pss_one (ps_ret (pe_lc (own := [("a", 1), ("b", 2)]) (g := gTup K 2 (gCons (gName 1) (gCons (gName 2) gNil)))  rfl sc_sharp_of.nd (pi_list (pe_callN (ok_all_turns T) (hr.mono (by decide)) (by rfl) (pa_cons (pv 0) pa_nil))) (blkOk_by (own := [("a", 1), ("b", 2)]) (N := n_sharp_of) (sc := defScope s_sharp_of) (by decide +kernel)) (fun _ _ _ _ _ => (pg_tup rfl (pgs_cons (pg_name (i := 1) sc_sharp_of.nd rfl (.inl rfl)) (pgs_cons (pg_name (i := 2) sc_sharp_of.nd rfl (.inl rfl)) pgs_nil)))) (fun _ _ _ _ _ => pts_one (pt_val (pe_callN (ok_is_sharp T) (hr.mono (by decide)) (by rfl) (pa_cons (pv 0) (pa_cons (pv 1) (pa_cons (pv 2) pa_nil)))))) (fun _ _ _ _ _ => (pe_tup (pa_cons (pv 1) (pa_cons (pv 2) pa_nil))))))), ?_⟩
  have hb := prs36 (n := n) (R := apR r) h1
  refine T_ret (Wd.to (V_lcF2 (VI_list (V_all_turns (V_var rfl))) (by walk_at "ln") (fun v hv => (VT_B (V_is_sharp (V_var rfl) (V_var rfl) (V_var rfl)))) (fun v hv hp => (V_pair (V_var rfl) (V_var rfl)))) ?_)
  show Sl.dat _ = Sl.dat _
  rw [prs_filter (R := apR r) (shB n r)]
  rfl
def Pre_forces : List PyData → (Sl → Prop) → Prop := fun ds R => ∃ (l : List Pr), ∃ (p q : Pr), ds = [eLP l, eP p, eP q] ∧ R = one (.bool (fcB l p q))
theorem V_forces {E : XK} {ss : List Sl} {t0 t1 t2 : TE} {l : List Pr} {p q : Pr} (k0 : Wd t0 ss (eLP l)) (k1 : Wd t1 ss (eP p)) (k2 : Wd t2 ss (eP q))  : Wd (tCall (SpD Pre_forces) [] E (tCons t0 (tCons t1 (tCons t2 tNil)))) ss (.bool (fcB l p q)) := W_call (WA_cons (k0.to (WA_cons (k1.to (WA_cons (k2.to (WA_nil ⟨_, ⟨l, p, q, rfl, rfl⟩, fun s hs => ⟨_, hs, rfl⟩⟩)))))))
theorem ok_forces {P : Program} {w : World} {K : PySem.W.Frag} {mg : Str → Option Value} {base : Heap} (T : Txt K mg) : Ok P w K mg base 1 "forces" ["some", "one", "other"] (SpD Pre_forces) := by
  obtain ⟨f, fd, F, bb, m⟩ := T.d_forces
  refine ⟨f, fd, m, F.kp, bb, fnD F sc_forces (fun ds R h => by obtain ⟨l, p, q, rfl, _⟩ := h; rfl) fun cdv A outer s H E ds R hr h => ?_⟩
  obtain ⟨l, p, q, rfl, rfl⟩ := h
  refine ⟨_, (pss_cons (ps_if (pt_cmpR (k_eq K hr) (pv 1) (pv 2) (nomark _)) (pss_one (ps_ret pe_bl)) pss_nil)
      (pss_cons (ps_if (pt_cmpR (k_eq K hr) (pe_ix (kx_tup K) (pv 1) pe_int (fun _ _ => rfl)) (pe_ix (kx_tup K) (pv 2) pe_int (fun _ _ => rfl)) (nomark _)) (pss_one (ps_ret (pe_cmpR (k_nin K hr) (pe_tup (pa_cons (pe_ix (kx_tup K) (pv 1) pe_int (fun _ _ => rfl)) (pa_cons (pe_ix (kx_tup K) (pv 2) pe_int (fun _ _ => rfl)) pa_nil))) (pv 0) (by rfl)))) pss_nil)
      (pss_one (ps_ret (pe_and (pe_cmpR (k_eq K hr) (pe_ix (kx_tup K) (pv 1) pe_int (fun _ _ => rfl)) (pe_ix (kx_tup K) (pv 2) pe_int (fun _ _ => rfl)) (nomark _)) (pe_one (pe_cmpR (k_nin K hr) (pe_tup (pa_cons (pe_ix (kx_tup K) (pv 1) pe_int (fun _ _ => rfl)) (pa_cons (pe_ix (kx_tup K) (pv 2) pe_int (fun _ _ => rfl)) pa_nil))) (pv 0) (by rfl)))))))), ?_⟩
  refine T_seq (T_if ((VT_t (V_eqP (V_var rfl) (V_var rfl))).to ?_))
  unfold fcB
  by_cases e : p = q
  · rw [decide_eq_true e]
    refine iteT (T_ret (V_bl.to ?_))
    simp [e]
  · rw [decide_eq_false e]
    refine iteF (T_next (T_seq (T_if ((VT_t (V_eqN (V_p0 (V_var rfl)) (V_p0 (V_var rfl)))).to ?_))))
    by_cases e2 : p.1 = q.1
    · rw [decide_eq_true e2]
      refine iteT (T_ret (Wd.to (V_ninLP (V_pair (V_p1 (V_var rfl)) (V_p1 (V_var rfl))) (V_var rfl)) ?_))
      simp only [if_neg e, if_pos e2]
    · rw [decide_eq_false e2]
      refine iteF (T_next (T_ret (Wd.to (V_and (V_eqN (V_p1 (V_var rfl)) (V_p1 (V_var rfl))) fun hb => (V_ninLP (V_pair (V_p0 (V_var rfl)) (V_p0 (V_var rfl))) (V_var rfl))) ?_)))
      simp only [if_neg e, if_neg e2]
def Pre_forced_of : List PyData → (Sl → Prop) → Prop := fun ds R => ∃ (l : List Pr), ∃ (p : Pr), (l.length ≤ 1000) ∧ ds = [eLP l, eP p] ∧ R = one (eLP (l.filter (fcB l p)))
theorem V_forced_of {E : XK} {ss : List Sl} {t0 t1 : TE} {l : List Pr} {p : Pr} (k0 : Wd t0 ss (eLP l)) (k1 : Wd t1 ss (eP p)) (h1 : l.length ≤ 1000 := by walk_at "ln") : Wd (tCall (SpD Pre_forced_of) [] E (tCons t0 (tCons t1 tNil))) ss (eLP (l.filter (fcB l p))) := W_call (WA_cons (k0.to (WA_cons (k1.to (WA_nil ⟨_, ⟨l, p, h1, rfl, rfl⟩, fun s hs => ⟨_, hs, rfl⟩⟩)))))
theorem ok_forced_of {P : Program} {w : World} {K : PySem.W.Frag} {mg : Str → Option Value} {base : Heap} (T : Txt K mg) : Ok P w K mg base 2 "forced_of" ["some", "turn"] (SpD Pre_forced_of) := by
  obtain ⟨f, fd, F, bb, m⟩ := T.d_forced_of
  refine ⟨f, fd, m, F.kp, bb, fnD F sc_forced_of (fun ds R h => by obtain ⟨l, p, _, rfl, _⟩ := h; rfl) fun cdv A outer s H E ds R hr h => ?_⟩
  obtain ⟨l, p, h1, rfl, rfl⟩ := h
  refine ⟨_, (pss_one (ps_ret (pe_lc (own := [("other", 2)]) (g := gName 2)  rfl sc_forced_of.nd (pi_list (pv 0)) (blkOk_by (own := [("other", 2)]) (N := n_forced_of) (sc := defScope s_forced_of) (by decide +kernel)) (fun _ _ _ _ _ => (pg_name (i := 2) sc_forced_of.nd rfl (.inl rfl))) (fun _ _ _ _ _ => pts_one (pt_val (pe_callN (ok_forces T) (hr.mono (by decide)) (by rfl) (pa_cons (pv 0) (pa_cons (pv 1) (pa_cons (pv 2) pa_nil)))))) (fun _ _ _ _ _ => (pv 2))))), ?_⟩
  exact T_ret (Wd.to (V_lcF1 (enc := eP) (VI_list (V_var rfl)) (by walk_at "ln") (fun v hv => (VT_B (V_forces (V_var rfl) (V_var rfl) (V_var rfl)))) (fun v hv hp => (V_var rfl))) rfl)
def Pre_places_for : List PyData → (Sl → Prop) → Prop := fun ds R => ∃ (put : List (List Pr)), ∃ (t : Pr), (put.length ≤ 1000) ∧ ds = [eLTP put, eP t] ∧ R = one (eLN ((List.range put.length).filter fun i => !decide (t ∈ put.getD i [])))
theorem V_places_for {E : XK} {ss : List Sl} {t0 t1 : TE} {put : List (List Pr)} {t : Pr} (k0 : Wd t0 ss (eLTP put)) (k1 : Wd t1 ss (eP t)) (h1 : put.length ≤ 1000 := by walk_at "ln") : Wd (tCall (SpD Pre_places_for) [] E (tCons t0 (tCons t1 tNil))) ss (eLN ((List.range put.length).filter fun i => !decide (t ∈ put.getD i []))) := W_call (WA_cons (k0.to (WA_cons (k1.to (WA_nil ⟨_, ⟨put, t, h1, rfl, rfl⟩, fun s hs => ⟨_, hs, rfl⟩⟩)))))
theorem ok_places_for {P : Program} {w : World} {K : PySem.W.Frag} {mg : Str → Option Value} {base : Heap} (T : Txt K mg) : Ok P w K mg base 1 "places_for" ["put", "turn"] (SpD Pre_places_for) := by
  obtain ⟨f, fd, F, bb, m⟩ := T.d_places_for
  refine ⟨f, fd, m, F.kp, bb, fnD F sc_places_for (fun ds R h => by obtain ⟨put, t, _, rfl, _⟩ := h; rfl) fun cdv A outer s H E ds R hr h => ?_⟩
  obtain ⟨put, t, h1, rfl, rfl⟩ := h
  refine ⟨_, (pss_one (ps_ret (pe_lc (own := [("place", 2)]) (g := gName 2)  rfl sc_places_for.nd (pi_range1 rfl T.b_range (pa_cons (pe_callB c_len (by rfl) T.b_len (by decide +kernel) (pa_cons (pv 0) pa_nil)) pa_nil)) (blkOk_by (own := [("place", 2)]) (N := n_places_for) (sc := defScope s_places_for) (by decide +kernel)) (fun _ _ _ _ _ => (pg_name (i := 2) sc_places_for.nd rfl (.inl rfl))) (fun _ _ _ _ _ => pts_one (pt_cmpR (k_nin K hr) (pv 1) (pe_ix (kx_list K) (pv 0) (pv 2) (fun _ _ => rfl)) (by rfl))) (fun _ _ _ _ _ => (pv 2))))), ?_⟩
  refine T_ret (Wd.to (V_lcF1 (enc := eN) (VI_rng (V_lenL (f := eTP) (V_var rfl)) (by walk_at "ln")) (by walk_at "ln") (fun v hv => (VT_t (V_ninTP (V_var rfl) (V_ixL (f := eTP) (V_var rfl) (V_var rfl) ?_)))) (fun v hv hp => (V_var rfl))) rfl)
  have := List.mem_range.mp hv
  rw [List.getD_eq_getElem?_getD, List.getElem?_eq_getElem this]
  rfl
def Pre_stands_ahead : List PyData → (Sl → Prop) → Prop := fun ds R => ∃ (row : List Nat), ∃ (a b : Nat), (a ∈ row ∧ b ∈ row) ∧ ds = [eTN row, eN a, eN b] ∧ R = one (.bool (decide (row.idxOf a < row.idxOf b)))
theorem V_stands_ahead {E : XK} {ss : List Sl} {t0 t1 t2 : TE} {row : List Nat} {a b : Nat} (k0 : Wd t0 ss (eTN row)) (k1 : Wd t1 ss (eN a)) (k2 : Wd t2 ss (eN b)) (h1 : a ∈ row ∧ b ∈ row := by walk_at "ln") : Wd (tCall (SpD Pre_stands_ahead) [] E (tCons t0 (tCons t1 (tCons t2 tNil)))) ss (.bool (decide (row.idxOf a < row.idxOf b))) := W_call (WA_cons (k0.to (WA_cons (k1.to (WA_cons (k2.to (WA_nil ⟨_, ⟨row, a, b, h1, rfl, rfl⟩, fun s hs => ⟨_, hs, rfl⟩⟩)))))))
theorem ok_stands_ahead {P : Program} {w : World} {K : PySem.W.Frag} {mg : Str → Option Value} {base : Heap} (T : Txt K mg) : Ok P w K mg base 1 "stands_ahead" ["row", "a", "b"] (SpD Pre_stands_ahead) := by
  obtain ⟨f, fd, F, bb, m⟩ := T.d_stands_ahead
  refine ⟨f, fd, m, F.kp, bb, fnD F sc_stands_ahead (fun ds R h => by obtain ⟨row, a, b, _, rfl, _⟩ := h; rfl) fun cdv A outer s H E ds R hr h => ?_⟩
  obtain ⟨row, a, b, h1, rfl, rfl⟩ := h
  refine ⟨_, (pss_one (ps_ret (pe_cmpR op_lt (pe_mG ty_row PySem.F.plainAttrs_tuple PySem.F.slot_tuple_index PySem.F.type_tuple_index (k_tindex K hr) (pv 0) (pa_cons (pv 1) pa_nil)) (pe_mG ty_row PySem.F.plainAttrs_tuple PySem.F.slot_tuple_index PySem.F.type_tuple_index (k_tindex K hr) (pv 0) (pa_cons (pv 2) pa_nil)) (nomark _)))), ?_⟩
  exact T_ret (Wd.to (V_ltN (V_tindex (V_var rfl) (V_var rfl) (idx_ok h1.1)) (V_tindex (V_var rfl) (V_var rfl) (idx_ok h1.2))) rfl)
def Pre_next_things : List PyData → (Sl → Prop) → Prop := fun ds R => ∃ (n : Nat), ∃ (r : Rl), ∃ (g : List Nat), (n ≤ 6) ∧ ds = [eO n r, eLN g] ∧ R = one (eLN (nxT n r g))
theorem V_next_things {E : XK} {ss : List Sl} {t0 t1 : TE} {n : Nat} {r : Rl} {g : List Nat} (k0 : Wd t0 ss (eO n r)) (k1 : Wd t1 ss (eLN g)) (h1 : n ≤ 6 := by walk_at "ln") : Wd (tCall (SpD Pre_next_things) [] E (tCons t0 (tCons t1 tNil))) ss (eLN (nxT n r g)) := W_call (WA_cons (k0.to (WA_cons (k1.to (WA_nil ⟨_, ⟨n, r, g, h1, rfl, rfl⟩, fun s hs => ⟨_, hs, rfl⟩⟩)))))
theorem ok_next_things {P : Program} {w : World} {K : PySem.W.Frag} {mg : Str → Option Value} {base : Heap} (T : Txt K mg) : Ok P w K mg base 1 "next_things" ["order", "gone"] (SpD Pre_next_things) := by
  obtain ⟨f, fd, F, bb, m⟩ := T.d_next_things
  refine ⟨f, fd, m, F.kp, bb, fnD F sc_next_things (fun ds R h => by obtain ⟨n, r, g, _, rfl, _⟩ := h; rfl) fun cdv A outer s H E ds R hr h => ?_⟩
  obtain ⟨n, r, g, h1, rfl, rfl⟩ := h
  refine ⟨_, (pss_cons (ps_set (i := 2) sc_next_things.nd rfl (.inl rfl) (pe_lst pa_nil))
      (pss_cons (ps_for PassesOwn.never rfl (pi_range1 rfl T.b_range (pa_cons (pe_ix (kx_tup K) (pv 0) pe_int (fun _ _ => rfl)) pa_nil)) (pg_name (i := 3) sc_next_things.nd rfl (.inr rfl)) (pss_one (ps_if (PW.pt (pw_and (pt_cmpR (k_nin K hr) (pv 3) (pv 1) (by rfl)) (pw_and1 (pt_val (pe_callB (cr_all rfl) (by rfl) T.b_all (by decide +kernel) (pa_cons (pe_lc (own := [("a", 4), ("b", 5)]) (g := gTup K 2 (gCons (gName 4) (gCons (gName 5) gNil)))  rfl sc_next_things.nd (pi_tup (pe_ix (kx_tup K) (pv 0) pe_int (fun _ _ => rfl))) (blkOk_by (own := [("a", 4), ("b", 5)]) (N := n_next_things) (sc := defScope s_next_things) (by decide +kernel)) (fun _ _ _ _ _ => (pg_tup rfl (pgs_cons (pg_name (i := 4) sc_next_things.nd rfl (.inl rfl)) (pgs_cons (pg_name (i := 5) sc_next_things.nd rfl (.inl rfl)) pgs_nil)))) (fun _ _ _ _ _ => pts_one (pt_cmpR (k_eq K hr) (pv 5) (pv 3) (nomark _))) (fun _ _ _ _ _ => (pe_cmpR (k_in K hr) (pv 4) (pv 1) (by rfl)))) pa_nil)))))) (pss_one (ps_expr (pe_bm PySem.F.plainAttrs_list PySem.F.slot_list_append PySem.F.type_list_append mt_append (pv 2) (pa_cons (pv 3) pa_nil)))) pss_nil)))
      (pss_one (ps_ret (pv 2))))), ?_⟩
  have hb := prs36 (n := n) (R := r) h1
  refine T_seq (T_newL (WA_nil ⟨by show 0 ≤ 100000; omega, ?_⟩))
  refine T_seq (T_for [3] ((VI_rng (V_o0 (V_var rfl)) (by walk_at "ln")).to ⟨fun i ss => ∃ y3 y4 y5, ss = [.dat (eO n r), .dat (eLN g), .own (.lst (((List.range i).filter fun t => !decide (t ∈ g) && ((prs n r).filter fun p => decide (p.2 = t)).all (fun p => decide (p.1 ∈ g))).map eN)), y3, y4, y5], ⟨_, _, _, rfl⟩, ?_, ?_⟩))
  · rintro i d ss' hd ⟨y3, y4, y5, rfl⟩
    obtain ⟨hi, rfl⟩ := rng_turn hd
    refine WG_name (T_if ((VT_and (VT_t (V_ninLN (V_var rfl) (V_var rfl))) fun hb => (VT_B (V_all (V_lcF2 (VI_tup (V_o1 (V_var rfl))) (by walk_at "ln") (fun v hv => (VT_t (V_eqN (V_var rfl) (V_var rfl)))) (fun v hv hp => (V_inLN (V_var rfl) (V_var rfl))))))).to ?_))
    cases e : (!decide (i ∈ g) && ((prs n r).filter fun v => decide (v.2 = i)).all fun p => decide (p.1 ∈ g)) with
    | false =>
      refine iteF (T_next ?_)
      dsimp only
      rw [fr_no e]
      exact ⟨_, _, _, rfl⟩
    | true =>
      refine iteT (T_app rfl ?_ (Wd.to (V_var rfl) ?_))
      · rw [List.length_map]
        have := fr_len (fun t => !decide (t ∈ g) && ((prs n r).filter fun p => decide (p.2 = t)).all fun p => decide (p.1 ∈ g)) i
        omega
      · dsimp only
        rw [fr_yes e, List.map_append]
        exact ⟨_, _, _, rfl⟩
  · rintro ss' ⟨y3, y4, y5, rfl⟩
    refine T_frz 2 rfl (T_ret (Wd.to (V_var rfl) ?_))
    rw [List.length_map, List.length_range]
    rfl
end RO
namespace RO
open PySem PySem.Spec PyProof.Rows L2
local macro_rules | `(tactic| walk_at "ln") => `(tactic| (first | assumption | omega | (simp only [List.mem_range, List.length_range, List.length_map, List.length_append, List.length_cons, List.length_nil] at *; omega)))
abbrev rowsIn (n : Nat) (rows : List (List Nat)) : Prop := ∀ row ∈ rows, row.Perm (List.range n)
theorem rows_mem {n : Nat} {rows : List (List Nat)} (h : rowsIn n rows) {row : List Nat} (hr : row ∈ rows) {a : Nat} (ha : a < n) : a ∈ row := (h row hr).mem_iff.mpr (List.mem_range.mpr ha)
def isRowB (n : Nat) (r : Rl) (row : List Nat) : Bool := (prs n r).all fun p => decide (row.idxOf p.1 < row.idxOf p.2)
def tellB (n : Nat) (r : Rl) (rows : List (List Nat)) : Bool := (!decide (rows = []) && rows.all (isRowB n r)) && decide (prs n (tolR rows) = prs n r)
def flatT (n : Nat) (T : Rl) (i : Nat) : List Pr := (List.range i).flatMap fun a => ((List.range n).filter (T a)).map fun b => (a, b)
theorem flatT_succ (n : Nat) (T : Rl) (i : Nat) : flatT n T (i + 1) = flatT n T i ++ ((List.range n).filter (T i)).map fun b => (i, b) := by
  unfold flatT
  rw [List.range_succ, List.flatMap_append, List.flatMap_singleton]
theorem flatT_all (n : Nat) (T : Rl) : flatT n T n = prs n T := (prs_flat n T).symm
theorem flatT_len {n i : Nat} (T : Rl) (hn : n ≤ 6) (hi : i ≤ n) : (flatT n T i).length ≤ 36 := by
  have := flat_len (f := fun a => ((List.range n).filter (T a)).map fun b => (a, b)) (m := n) (List.range i) fun x _ => by
    rw [List.length_map]
    exact fr_len _ _
  rw [List.length_range] at this
  have : i * n ≤ 6 * 6 := Nat.mul_le_mul (by omega) hn
  unfold flatT
  omega
def Pre_told_pairs : List PyData → (Sl → Prop) → Prop := fun ds R => ∃ (n : Nat), ∃ (rows : List (List Nat)), (n ≤ 6) ∧ (rows.length ≤ 1000) ∧ (rowsIn n rows) ∧ ds = [eN n, eLR rows] ∧ R = one (eTP (prs n (tolR rows)))
theorem V_told_pairs {E : XK} {ss : List Sl} {t0 t1 : TE} {n : Nat} {rows : List (List Nat)} (k0 : Wd t0 ss (eN n)) (k1 : Wd t1 ss (eLR rows)) (h1 : n ≤ 6 := by walk_at "ln") (h2 : rows.length ≤ 1000 := by walk_at "ln") (h3 : rowsIn n rows := by walk_at "ln") : Wd (tCall (SpD Pre_told_pairs) [] E (tCons t0 (tCons t1 tNil))) ss (eTP (prs n (tolR rows))) := W_call (WA_cons (k0.to (WA_cons (k1.to (WA_nil ⟨_, ⟨n, rows, h1, h2, h3, rfl, rfl⟩, fun s hs => ⟨_, hs, rfl⟩⟩)))))
theorem ok_told_pairs {P : Program} {w : World} {K : PySem.W.Frag} {mg : Str → Option Value} {base : Heap} (T : Txt K mg) : Ok P w K mg base 2 "told_pairs" ["many", "rows"] (SpD Pre_told_pairs) := by
  obtain ⟨f, fd, F, bb, m⟩ := T.d_told_pairs
  refine ⟨f, fd, m, F.kp, bb, fnD F sc_told_pairs (fun ds R h => by obtain ⟨n, rows, _, _, _, rfl, _⟩ := h; rfl) fun cdv A outer s H E ds R hr h => ?_⟩
  obtain ⟨n, rows, h1, h2, h3, rfl, rfl⟩ := h
  refine ⟨_, (pss_cons (ps_set (i := 2) sc_told_pairs.nd rfl (.inl rfl) (pe_lst pa_nil))
      (pss_cons (ps_for PassesOwn.never rfl (pi_range1 rfl T.b_range (pa_cons (pv 0) pa_nil)) (pg_name (i := 3) sc_told_pairs.nd rfl (.inr rfl)) (pss_one (ps_for PassesOwn.never rfl (pi_range1 rfl T.b_range (pa_cons (pv 0) pa_nil)) (pg_name (i := 4) sc_told_pairs.nd rfl (.inr rfl)) (pss_one (ps_if (PW.pt (pw_and (pt_cmpR (k_ne K hr) (pv 3) (pv 4) (nomark _)) (pw_and1 (pt_val (pe_callB (cr_all rfl) (by rfl) T.b_all (by decide +kernel) (pa_cons (pe_lc (own := [("row", 5)]) (g := gName 5) (tt := tYes) rfl sc_told_pairs.nd (pi_list (pv 1)) (blkOk_by (own := [("row", 5)]) (N := n_told_pairs) (sc := defScope s_told_pairs) (by decide +kernel)) (fun _ _ _ _ _ => (pg_name (i := 5) sc_told_pairs.nd rfl (.inl rfl))) (fun _ _ _ _ _ => pts_nil) (fun _ _ _ _ _ => (pe_callN (ok_stands_ahead T) (hr.mono (by decide)) (by rfl) (pa_cons (pv 5) (pa_cons (pv 3) (pa_cons (pv 4) pa_nil)))))) pa_nil)))))) (pss_one (ps_expr (pe_bm PySem.F.plainAttrs_list PySem.F.slot_list_append PySem.F.type_list_append mt_append (pv 2) (pa_cons (pe_tup (pa_cons (pv 3) (pa_cons (pv 4) pa_nil))) pa_nil)))) pss_nil)))))
      (pss_one (ps_ret (pe_callTy c_tuple (by rfl) T.b_tuple (by decide +kernel) (pa_cons (pv 2) pa_nil)))))), ?_⟩
  refine T_seq (T_newL (WA_nil ⟨by show 0 ≤ 100000; omega, ?_⟩))
  refine T_seq (T_for [3] ((VI_rng (V_var rfl) (by walk_at "ln")).to ⟨fun i ss => ∃ y3 y4 y5, ss = [.dat (eN n), .dat (eLR rows), .own (.lst ((flatT n (tolR rows) i).map eP)), y3, y4, y5], ⟨_, _, _, rfl⟩, ?_, ?_⟩))
  · rintro i d ss' hd ⟨y3, y4, y5, rfl⟩
    obtain ⟨hi, rfl⟩ := rng_turn hd
    refine WG_name (T_for [4] ((VI_rng (V_var rfl) (by walk_at "ln")).to ⟨fun j ss => ∃ y4 y5, ss = [.dat (eN n), .dat (eLR rows), .own (.lst ((flatT n (tolR rows) i ++ ((List.range j).filter (tolR rows i)).map fun b => (i, b)).map eP)), .dat (eN i), y4, y5], ⟨y4, y5, ?_⟩, ?_, ?_⟩))
    · simp
    · rintro j d ss' hd ⟨y4, y5, rfl⟩
      obtain ⟨hj, rfl⟩ := rng_turn hd
      refine WG_name (T_if (WTd.to (VT_and (VT_t (V_neN (V_var rfl) (V_var rfl))) fun hb => VT_B (V_all (V_lcM1 (enc := eTN) (VI_list (V_var rfl)) (by walk_at "ln") fun v hv => V_stands_ahead (V_var rfl) (V_var rfl) (V_var rfl) ⟨rows_mem h3 hv hi, rows_mem h3 hv hj⟩))) ?_))
      cases e : (!decide (i = j) && rows.all fun row => decide (row.idxOf i < row.idxOf j)) with
      | false =>
        refine iteF (T_next ?_)
        dsimp only
        rw [fr_no (p := tolR rows i) e]
        exact ⟨_, _, rfl⟩
      | true =>
        refine iteT (T_app rfl ?_ (Wd.to (V_pair (V_var rfl) (V_var rfl)) ?_))
        · have h1' := flatT_len (tolR rows) h1 (Nat.le_of_lt hi)
          have h2' := fr_len (tolR rows i) j
          rw [List.length_map, List.length_append, List.length_map]
          omega
        · dsimp only
          rw [fr_yes (p := tolR rows i) e]
          refine ⟨.dat (eN j), y5, ?_⟩
          simp
    · rintro ss' ⟨y4, y5, rfl⟩
      dsimp only
      rw [List.length_map, List.length_range, flatT_succ]
      exact ⟨_, _, _, rfl⟩
  · rintro ss' ⟨y3, y4, y5, rfl⟩
    refine T_frz 2 rfl (T_ret (Wd.to (V_tuple (V_var rfl)) ?_))
    rw [List.length_map, List.length_range, flatT_all]
end RO
namespace RO
open PySem PySem.Spec PyProof.Rows L2
local macro_rules | `(tactic| walk_at "ln") => `(tactic| (first | assumption | omega | (simp only [List.mem_range, List.length_range, List.length_map, List.length_append, List.length_cons, List.length_nil] at *; omega)))
def Pre_law_told : List PyData → (Sl → Prop) → Prop := fun ds R => ∃ (n : Nat), ∃ (rows : List (List Nat)), (n ≤ 6) ∧ (rows.length ≤ 1000) ∧ (rowsIn n rows) ∧ ds = [eN n, eLR rows] ∧ R = one (eTP (prs n (tolR rows)))
theorem V_law_told {E : XK} {ss : List Sl} {t0 t1 : TE} {n : Nat} {rows : List (List Nat)} (k0 : Wd t0 ss (eN n)) (k1 : Wd t1 ss (eLR rows)) (h1 : n ≤ 6 := by walk_at "ln") (h2 : rows.length ≤ 1000 := by walk_at "ln") (h3 : rowsIn n rows := by walk_at "ln") : Wd (tCall (SpD Pre_law_told) [] E (tCons t0 (tCons t1 tNil))) ss (eTP (prs n (tolR rows))) := W_call (WA_cons (k0.to (WA_cons (k1.to (WA_nil ⟨_, ⟨n, rows, h1, h2, h3, rfl, rfl⟩, fun s hs => ⟨_, hs, rfl⟩⟩)))))
theorem ok_law_told {P : Program} {w : World} {K : PySem.W.Frag} {mg : Str → Option Value} {base : Heap} (T : Txt K mg) : Ok P w K mg base 1 "_law_told" ["many", "rows"] (SpD Pre_law_told) := by
  obtain ⟨f, fd, F, bb, m⟩ := T.d_law_told
  refine ⟨f, fd, m, F.kp, bb, fnD F sc_law_told (fun ds R h => by obtain ⟨n, rows, _, _, _, rfl, _⟩ := h; rfl) fun cdv A outer s H E ds R hr h => ?_⟩
  obtain ⟨n, rows, h1, h2, h3, rfl, rfl⟩ := h
  refine ⟨_, (pss_cons (ps_set (i := 2) sc_law_told.nd rfl (.inl rfl) (pe_lst pa_nil))
      (pss_cons (ps_for PassesOwn.never rfl (pi_range1 rfl T.b_range (pa_cons (pv 0) pa_nil)) (pg_name (i := 3) sc_law_told.nd rfl (.inr rfl)) (pss_one (ps_for PassesOwn.never rfl (pi_range1 rfl T.b_range (pa_cons (pv 0) pa_nil)) (pg_name (i := 4) sc_law_told.nd rfl (.inr rfl)) (pss_one (ps_if (PW.pt (pw_and (pt_cmpR (k_ne K hr) (pv 3) (pv 4) (nomark _)) (pw_and1 (pt_val (pe_callB (cr_all rfl) (by rfl) T.b_all (by decide +kernel) (pa_cons (pe_lc (own := [("row", 5)]) (g := gName 5) (tt := tYes) rfl sc_law_told.nd (pi_list (pv 1)) (blkOk_by (own := [("row", 5)]) (N := n_law_told) (sc := defScope s_law_told) (by decide +kernel)) (fun _ _ _ _ _ => (pg_name (i := 5) sc_law_told.nd rfl (.inl rfl))) (fun _ _ _ _ _ => pts_nil) (fun _ _ _ _ _ => (pe_cmpR op_lt (pe_mG ty_row PySem.F.plainAttrs_tuple PySem.F.slot_tuple_index PySem.F.type_tuple_index (k_tindex K hr) (pv 5) (pa_cons (pv 3) pa_nil)) (pe_mG ty_row PySem.F.plainAttrs_tuple PySem.F.slot_tuple_index PySem.F.type_tuple_index (k_tindex K hr) (pv 5) (pa_cons (pv 4) pa_nil)) (nomark _)))) pa_nil)))))) (pss_one (ps_expr (pe_bm PySem.F.plainAttrs_list PySem.F.slot_list_append PySem.F.type_list_append mt_append (pv 2) (pa_cons (pe_tup (pa_cons (pv 3) (pa_cons (pv 4) pa_nil))) pa_nil)))) pss_nil)))))
      (pss_one (ps_ret (pe_callTy c_tuple (by rfl) T.b_tuple (by decide +kernel) (pa_cons (pv 2) pa_nil)))))), ?_⟩
  refine T_seq (T_newL (WA_nil ⟨by show 0 ≤ 100000; omega, ?_⟩))
  refine T_seq (T_for [3] ((VI_rng (V_var rfl) (by walk_at "ln")).to ⟨fun i ss => ∃ y3 y4 y5, ss = [.dat (eN n), .dat (eLR rows), .own (.lst ((flatT n (tolR rows) i).map eP)), y3, y4, y5], ⟨_, _, _, rfl⟩, ?_, ?_⟩))
  · rintro i d ss' hd ⟨y3, y4, y5, rfl⟩
    obtain ⟨hi, rfl⟩ := rng_turn hd
    refine WG_name (T_for [4] ((VI_rng (V_var rfl) (by walk_at "ln")).to ⟨fun j ss => ∃ y4 y5, ss = [.dat (eN n), .dat (eLR rows), .own (.lst ((flatT n (tolR rows) i ++ ((List.range j).filter (tolR rows i)).map fun b => (i, b)).map eP)), .dat (eN i), y4, y5], ⟨y4, y5, ?_⟩, ?_, ?_⟩))
    · simp
    · rintro j d ss' hd ⟨y4, y5, rfl⟩
      obtain ⟨hj, rfl⟩ := rng_turn hd
      refine WG_name (T_if (WTd.to (VT_and (VT_t (V_neN (V_var rfl) (V_var rfl))) fun hb => VT_B (V_all (V_lcM1 (enc := eTN) (VI_list (V_var rfl)) (by walk_at "ln") fun v hv => V_ltN (V_tindex (V_var rfl) (V_var rfl) (idx_ok (rows_mem h3 hv hi))) (V_tindex (V_var rfl) (V_var rfl) (idx_ok (rows_mem h3 hv hj)))))) ?_))
      cases e : (!decide (i = j) && rows.all fun row => decide (row.idxOf i < row.idxOf j)) with
      | false =>
        refine iteF (T_next ?_)
        dsimp only
        rw [fr_no (p := tolR rows i) e]
        exact ⟨_, _, rfl⟩
      | true =>
        refine iteT (T_app rfl ?_ (Wd.to (V_pair (V_var rfl) (V_var rfl)) ?_))
        · have h1' := flatT_len (tolR rows) h1 (Nat.le_of_lt hi)
          have h2' := fr_len (tolR rows i) j
          rw [List.length_map, List.length_append, List.length_map]
          omega
        · dsimp only
          rw [fr_yes (p := tolR rows i) e]
          refine ⟨.dat (eN j), y5, ?_⟩
          simp
    · rintro ss' ⟨y4, y5, rfl⟩
      dsimp only
      rw [List.length_map, List.length_range, flatT_succ]
      exact ⟨_, _, _, rfl⟩
  · rintro ss' ⟨y3, y4, y5, rfl⟩
    refine T_frz 2 rfl (T_ret (Wd.to (V_tuple (V_var rfl)) ?_))
    rw [List.length_map, List.length_range, flatT_all]
def Pre_is_tuple_of_all : List PyData → (Sl → Prop) → Prop := fun ds R => ∃ (n : Nat), ∃ (row : List Nat), (n ≤ 6) ∧ (row.Perm (List.range n)) ∧ ds = [eN n, eTN row] ∧ R = one (.bool true)
theorem V_is_tuple_of_all {E : XK} {ss : List Sl} {t0 t1 : TE} {n : Nat} {row : List Nat} (k0 : Wd t0 ss (eN n)) (k1 : Wd t1 ss (eTN row)) (h1 : n ≤ 6 := by walk_at "ln") (h2 : row.Perm (List.range n) := by walk_at "ln") : Wd (tCall (SpD Pre_is_tuple_of_all) [] E (tCons t0 (tCons t1 tNil))) ss (.bool true) := W_call (WA_cons (k0.to (WA_cons (k1.to (WA_nil ⟨_, ⟨n, row, h1, h2, rfl, rfl⟩, fun s hs => ⟨_, hs, rfl⟩⟩)))))
theorem ok_is_tuple_of_all {P : Program} {w : World} {K : PySem.W.Frag} {mg : Str → Option Value} {base : Heap} (T : Txt K mg) : Ok P w K mg base 2 "is_tuple_of_all" ["many", "thing"] (SpD Pre_is_tuple_of_all) := by
  obtain ⟨f, fd, F, bb, m⟩ := T.d_is_tuple_of_all
  refine ⟨f, fd, m, F.kp, bb, fnD F sc_is_tuple_of_all (fun ds R h => by obtain ⟨n, row, _, _, rfl, _⟩ := h; rfl) fun cdv A outer s H E ds R hr h => ?_⟩
  obtain ⟨n, row, h1, h2, rfl, rfl⟩ := h
  refine ⟨_, (pss_cons (ps_if (PW.pt (pw_or (pt_not (pt_val (pe_callB call_isi (by rfl) T.b_isinstance (by decide +kernel) (pa_cons (pv 1) (pa_cons (pe_bltn (v := .ty "tuple") (by rfl) T.b_tuple (by decide +kernel) rfl) pa_nil))))) (pw_or (pt_cmpR (k_ne K hr) (pe_callB c_len (by rfl) T.b_len (by decide +kernel) (pa_cons (pv 1) pa_nil)) (pv 0) (nomark _)) (pw_or1 (pt_not (pt_val (pe_callB (cr_all rfl) (by rfl) T.b_all (by decide +kernel) (pa_cons (pe_lc (own := [("one", 2)]) (g := gName 2) (tt := tYes) rfl sc_is_tuple_of_all.nd (pi_tup (pv 1)) (blkOk_by (own := [("one", 2)]) (N := n_is_tuple_of_all) (sc := defScope s_is_tuple_of_all) (by decide +kernel)) (fun _ _ _ _ _ => (pg_name (i := 2) sc_is_tuple_of_all.nd rfl (.inl rfl))) (fun _ _ _ _ _ => pts_nil) (fun _ _ _ _ _ => (pe_callN (ok_is_whole T) (hr.mono (by decide)) (by rfl) (pa_cons (pv 2) pa_nil)))) pa_nil)))))))) (pss_one (ps_ret pe_bl)) pss_nil)
      (pss_one (ps_ret (pe_cmpR (k_eq K hr) (pe_callB c_sortedTI (by rfl) T.b_sorted (by decide +kernel) (pa_cons (pv 1) pa_nil)) (pe_listRg rfl rfl T.b_list (prg_1 rfl T.b_range (pv 0))) (nomark _))))), ?_⟩
  have hl : row.length = n := by have := h2.length_eq; rwa [List.length_range] at this
  refine T_seq (T_if (WTd.to (VT_or (VT_not (VT_B (V_isi (V_var rfl) rfl))) fun hb => VT_or (VT_t (V_neN (V_lenR (V_var rfl)) (V_var rfl))) fun hb => VT_not (VT_B (V_all (l := row) (f := fun _ => true) (V_lcM1 (enc := eN) (VI_row (V_var rfl)) (by walk_at "ln") fun v hv => V_is_whole (V_var rfl))))) ?_))
  have e1 : (row.all fun _ => true) = true := List.all_eq_true.mpr fun _ _ => rfl
  rw [hl, decide_eq_true rfl, e1]
  refine iteF (T_next (T_ret (Wd.to (V_eqLN (V_sortedT (n := n) (V_var rfl) ⟨h2, by omega⟩) (V_listRg (V_var rfl) (by walk_at "ln"))) ?_)))
  show Sl.dat _ = Sl.dat _
  rw [decide_eq_true rfl]
def Pre_is_row_of : List PyData → (Sl → Prop) → Prop := fun ds R => ∃ (n : Nat), ∃ (r : Rl), ∃ (row : List Nat), (n ≤ 6) ∧ (row.Perm (List.range n)) ∧ ds = [eTN row, eO n r] ∧ R = one (.bool (isRowB n r row))
theorem V_is_row_of {E : XK} {ss : List Sl} {t0 t1 : TE} {n : Nat} {r : Rl} {row : List Nat} (k0 : Wd t0 ss (eTN row)) (k1 : Wd t1 ss (eO n r)) (h1 : n ≤ 6 := by walk_at "ln") (h2 : row.Perm (List.range n) := by walk_at "ln") : Wd (tCall (SpD Pre_is_row_of) [] E (tCons t0 (tCons t1 tNil))) ss (.bool (isRowB n r row)) := W_call (WA_cons (k0.to (WA_cons (k1.to (WA_nil ⟨_, ⟨n, r, row, h1, h2, rfl, rfl⟩, fun s hs => ⟨_, hs, rfl⟩⟩)))))
theorem ok_is_row_of {P : Program} {w : World} {K : PySem.W.Frag} {mg : Str → Option Value} {base : Heap} (T : Txt K mg) : Ok P w K mg base 3 "is_row_of" ["thing", "order"] (SpD Pre_is_row_of) := by
  obtain ⟨f, fd, F, bb, m⟩ := T.d_is_row_of
  refine ⟨f, fd, m, F.kp, bb, fnD F sc_is_row_of (fun ds R h => by obtain ⟨n, r, row, _, _, rfl, _⟩ := h; rfl) fun cdv A outer s H E ds R hr h => ?_⟩
  obtain ⟨n, r, row, h1, h2, rfl, rfl⟩ := h
  refine ⟨_, (pss_one (ps_ret (pe_and (pe_callN (ok_is_tuple_of_all T) (hr.mono (by decide)) (by rfl) (pa_cons (pe_ix (kx_tup K) (pv 1) pe_int (fun _ _ => rfl)) (pa_cons (pv 0) pa_nil))) (pe_one (pe_callB (cr_all rfl) (by rfl) T.b_all (by decide +kernel) (pa_cons (pe_lc (own := [("a", 2), ("b", 3)]) (g := gTup K 2 (gCons (gName 2) (gCons (gName 3) gNil))) (tt := tYes) rfl sc_is_row_of.nd (pi_tup (pe_ix (kx_tup K) (pv 1) pe_int (fun _ _ => rfl))) (blkOk_by (own := [("a", 2), ("b", 3)]) (N := n_is_row_of) (sc := defScope s_is_row_of) (by decide +kernel)) (fun _ _ _ _ _ => (pg_tup rfl (pgs_cons (pg_name (i := 2) sc_is_row_of.nd rfl (.inl rfl)) (pgs_cons (pg_name (i := 3) sc_is_row_of.nd rfl (.inl rfl)) pgs_nil)))) (fun _ _ _ _ _ => pts_nil) (fun _ _ _ _ _ => (pe_callN (ok_stands_ahead T) (hr.mono (by decide)) (by rfl) (pa_cons (pv 0) (pa_cons (pv 2) (pa_cons (pv 3) pa_nil)))))) pa_nil)))))), ?_⟩
  have hb := prs36 (n := n) (R := r) h1
  have hm : ∀ {a}, a < n → a ∈ row := fun ha => h2.mem_iff.mpr (List.mem_range.mpr ha)
  refine T_ret (Wd.to (V_and (V_is_tuple_of_all (V_o0 (V_var rfl)) (V_var rfl) h1 h2) fun hb => V_all (V_lcM2 (VI_tup (V_o1 (V_var rfl))) (by walk_at "ln") (fun v hv => V_stands_ahead (V_var rfl) (V_var rfl) (V_var rfl) ⟨hm (mem_prs.mp hv).1, hm (mem_prs.mp hv).2.1⟩))) ?_)
  rfl
def Pre_are_rows : List PyData → (Sl → Prop) → Prop := fun ds R => ∃ (n : Nat), ∃ (r : Rl), ∃ (rows : List (List Nat)), (n ≤ 6) ∧ (rows.length ≤ 1000) ∧ (rowsIn n rows) ∧ ds = [eLR rows, eO n r] ∧ R = one (.bool (!decide (rows = []) && rows.all (isRowB n r)))
theorem V_are_rows {E : XK} {ss : List Sl} {t0 t1 : TE} {n : Nat} {r : Rl} {rows : List (List Nat)} (k0 : Wd t0 ss (eLR rows)) (k1 : Wd t1 ss (eO n r)) (h1 : n ≤ 6 := by walk_at "ln") (h2 : rows.length ≤ 1000 := by walk_at "ln") (h3 : rowsIn n rows := by walk_at "ln") : Wd (tCall (SpD Pre_are_rows) [] E (tCons t0 (tCons t1 tNil))) ss (.bool (!decide (rows = []) && rows.all (isRowB n r))) := W_call (WA_cons (k0.to (WA_cons (k1.to (WA_nil ⟨_, ⟨n, r, rows, h1, h2, h3, rfl, rfl⟩, fun s hs => ⟨_, hs, rfl⟩⟩)))))
theorem ok_are_rows {P : Program} {w : World} {K : PySem.W.Frag} {mg : Str → Option Value} {base : Heap} (T : Txt K mg) : Ok P w K mg base 4 "are_rows" ["thing", "order"] (SpD Pre_are_rows) := by
  obtain ⟨f, fd, F, bb, m⟩ := T.d_are_rows
  refine ⟨f, fd, m, F.kp, bb, fnD F sc_are_rows (fun ds R h => by obtain ⟨n, r, rows, _, _, _, rfl, _⟩ := h; rfl) fun cdv A outer s H E ds R hr h => ?_⟩
  obtain ⟨n, r, rows, h1, h2, h3, rfl, rfl⟩ := h
  refine ⟨_, (pss_one (ps_ret (pe_and (pe_callB call_isi (by rfl) T.b_isinstance (by decide +kernel) (pa_cons (pv 0) (pa_cons (pe_bltn (v := .ty "list") (by rfl) T.b_list (by decide +kernel) rfl) pa_nil))) (pe_and (pe_cmpR (k_ne K hr) (pv 0) (pe_lst pa_nil) (nomark _)) (pe_one (pe_callB (cr_all rfl) (by rfl) T.b_all (by decide +kernel) (pa_cons (pe_lc (own := [("row", 2)]) (g := gName 2) (tt := tYes) rfl sc_are_rows.nd (pi_list (pv 0)) (blkOk_by (own := [("row", 2)]) (N := n_are_rows) (sc := defScope s_are_rows) (by decide +kernel)) (fun _ _ _ _ _ => (pg_name (i := 2) sc_are_rows.nd rfl (.inl rfl))) (fun _ _ _ _ _ => pts_nil) (fun _ _ _ _ _ => (pe_callN (ok_is_row_of T) (hr.mono (by decide)) (by rfl) (pa_cons (pv 2) (pa_cons (pv 1) pa_nil))))) pa_nil))))))), ?_⟩
  exact T_ret (Wd.to (V_and (V_isi (V_var rfl) rfl) fun hb => V_and (V_neNilR (V_var rfl)) fun hb => V_all (V_lcM1 (enc := eTN) (VI_list (V_var rfl)) (by walk_at "ln") fun v hv => V_is_row_of (V_var rfl) (V_var rfl) h1 (h3 v hv))) rfl)
def Pre_tell : List PyData → (Sl → Prop) → Prop := fun ds R => ∃ (n : Nat), ∃ (r : Rl), ∃ (rows : List (List Nat)), (G6 n r) ∧ (rows.length ≤ 1000) ∧ (rowsIn n rows) ∧ ds = [eLR rows, eO n r] ∧ R = one (.bool (tellB n r rows))
theorem V_tell {E : XK} {ss : List Sl} {t0 t1 : TE} {n : Nat} {r : Rl} {rows : List (List Nat)} (k0 : Wd t0 ss (eLR rows)) (k1 : Wd t1 ss (eO n r)) (h1 : G6 n r := by walk_at "ln") (h2 : rows.length ≤ 1000 := by walk_at "ln") (h3 : rowsIn n rows := by walk_at "ln") : Wd (tCall (SpD Pre_tell) [] E (tCons t0 (tCons t1 tNil))) ss (.bool (tellB n r rows)) := W_call (WA_cons (k0.to (WA_cons (k1.to (WA_nil ⟨_, ⟨n, r, rows, h1, h2, h3, rfl, rfl⟩, fun s hs => ⟨_, hs, rfl⟩⟩)))))
theorem ok_tell {P : Program} {w : World} {K : PySem.W.Frag} {mg : Str → Option Value} {base : Heap} (T : Txt K mg) : Ok P w K mg base 5 "tell" ["thing", "order"] (SpD Pre_tell) := by
  obtain ⟨f, fd, F, bb, m⟩ := T.d_tell
  refine ⟨f, fd, m, F.kp, bb, fnD F sc_tell (fun ds R h => by obtain ⟨n, r, rows, _, _, _, rfl, _⟩ := h; rfl) fun cdv A outer s H E ds R hr h => ?_⟩
  obtain ⟨n, r, rows, h1, h2, h3, rfl, rfl⟩ := h
  refine ⟨_, (pss_cons (ps_expr (pe_callN (ok_need_order T) (hr.mono (by decide)) (by rfl) (pa_cons (pv 1) pa_nil)))
      (pss_one (ps_ret (pe_and (pe_callN (ok_are_rows T) (hr.mono (by decide)) (by rfl) (pa_cons (pv 0) (pa_cons (pv 1) pa_nil))) (pe_one (pe_cmpR (k_eq K hr) (pe_callN (ok_told_pairs T) (hr.mono (by decide)) (by rfl) (pa_cons (pe_ix (kx_tup K) (pv 1) pe_int (fun _ _ => rfl)) (pa_cons (pv 0) pa_nil))) (pe_ix (kx_tup K) (pv 1) pe_int (fun _ _ => rfl)) (nomark _))))))), ?_⟩
  have hn := h1.2.1
  refine T_seq (T_drop (Wd.to (V_need_order (V_var rfl)) ?_))
  refine T_ret (Wd.to (V_and (V_are_rows (V_var rfl) (V_var rfl)) fun hb => (V_eqTP (V_told_pairs (V_o0 (V_var rfl)) (V_var rfl)) (V_o1 (V_var rfl)))) ?_)
  rfl
end RO
namespace RO
open PySem PySem.Spec PyProof.Rows L2
local macro_rules | `(tactic| walk_at "ln") => `(tactic| (first | assumption | omega | (simp only [List.mem_range, List.length_range, List.length_map, List.length_append, List.length_cons, List.length_nil] at *; omega)))
def clS (m : Nat) (R : Rl) : Rl := fun a b => R a b || (R a m && R m b)
def clK (R : Rl) : Nat → Rl
  | 0 => R
  | m + 1 => clS m (clK R m)
abbrev clo (n : Nat) (R : Rl) : Rl := clK R n
theorem clK_mono (R : Rl) {a b : Nat} : ∀ {i j : Nat}, i ≤ j → clK R i a b = true → clK R j a b = true
  | i, 0, h, e => by
    have : i = 0 := by omega
    subst this; exact e
  | i, j + 1, h, e => by
    by_cases z : i = j + 1
    · subst z; exact e
    · have := clK_mono R (a := a) (b := b) (i := i) (j := j) (by omega) e
      show clS j (clK R j) a b = true
      unfold clS
      rw [this]; rfl
theorem offd_len : ∀ n, n ≤ 6 → ((allP n).filter fun p => !decide (p.1 = p.2)).length ≤ 30 := by decide +kernel
theorem off_len : ∀ n, n ≤ 6 → ∀ m, m < n → ((List.range n).filter fun a => !decide (a = m)).length ≤ 5 := by decide +kernel
theorem irr_len {n : Nat} {R : Rl} (hn : n ≤ 6) (hi : ∀ a, a < n → R a a = false) : (prs n R).length ≤ 30 := by
  refine Nat.le_trans (nd_len _ ((allP n).filter fun p => !decide (p.1 = p.2)) (prs_nodup n R) fun p hp => ?_) (offd_len n hn)
  obtain ⟨h1, h2, h3⟩ := mem_prs.mp hp
  refine List.mem_filter.mpr ⟨mem_allP.mpr ⟨h1, h2⟩, ?_⟩
  by_cases e : p.1 = p.2
  · rw [e, hi _ h2] at h3; cases h3
  · simp [e]
theorem irr_len1 {n m : Nat} {R : Rl} (hn : n ≤ 6) (hi : ∀ a, a < n → R a a = false) (hm : m < n) : ((prs n R).filter fun p => decide (p.1 = m)).length ≤ 5 := by
  refine Nat.le_trans (nd_len _ (((List.range n).filter fun a => !decide (a = m)).map fun b => (m, b)) ((prs_nodup n R).filter _) fun p hp => ?_) (by rw [List.length_map]; exact off_len n hn m hm)
  obtain ⟨h1, h2⟩ := List.mem_filter.mp hp
  obtain ⟨h3, h4, h5⟩ := mem_prs.mp h1
  have e := of_decide_eq_true h2
  refine List.mem_map.mpr ⟨p.2, List.mem_filter.mpr ⟨List.mem_range.mpr h4, ?_⟩, by rw [← e]⟩
  by_cases e2 : p.2 = m
  · rw [e, e2, hi _ hm] at h5; cases h5
  · simp [e2]
theorem irr_len2 {n m : Nat} {R : Rl} (hn : n ≤ 6) (hi : ∀ a, a < n → R a a = false) (hm : m < n) : ((prs n R).filter fun p => decide (p.2 = m)).length ≤ 5 := by
  refine Nat.le_trans (nd_len _ (((List.range n).filter fun a => !decide (a = m)).map fun b => (b, m)) ((prs_nodup n R).filter _) fun p hp => ?_) (by rw [List.length_map]; exact off_len n hn m hm)
  obtain ⟨h1, h2⟩ := List.mem_filter.mp hp
  obtain ⟨h3, h4, h5⟩ := mem_prs.mp h1
  have e := of_decide_eq_true h2
  refine List.mem_map.mpr ⟨p.1, List.mem_filter.mpr ⟨List.mem_range.mpr h3, ?_⟩, by rw [← e]⟩
  by_cases e2 : p.1 = m
  · rw [e, e2, hi _ hm] at h5; cases h5
  · simp [e2]
/-- what one middle adds, of the first pairs -/
def mor (l : List Pr) (m : Nat) (f : List Pr) : List Pr := f.flatMap fun p => if p.2 = m then (l.filter fun q => decide (q.1 = m)).map fun q => (p.1, q.2) else []
theorem mor_take (l : List Pr) (m : Nat) (f : List Pr) {i : Nat} {p : Pr} (h : f[i]? = some p) : mor l m (f.take (i + 1)) = mor l m (f.take i) ++ if p.2 = m then (l.filter fun q => decide (q.1 = m)).map fun q => (p.1, q.2) else [] := by
  unfold mor
  obtain ⟨hi, e⟩ := List.getElem?_eq_some_iff.mp h
  rw [← List.take_append_getElem hi, e, List.flatMap_append, List.flatMap_singleton]
theorem mor_len {l : List Pr} {m : Nat} : ∀ (f : List Pr), (mor l m f).length = (f.filter fun p => decide (p.2 = m)).length * (l.filter fun q => decide (q.1 = m)).length
  | [] => by simp [mor]
  | p :: f => by
    have ih := mor_len (l := l) (m := m) f
    unfold mor at ih ⊢
    rw [List.flatMap_cons, List.length_append, ih, List.filter_cons]
    by_cases e : p.2 = m
    · simp [e, Nat.add_mul, Nat.add_comm]
    · simp [e]
theorem take_len {l : List Pr} (i : Nat) (f : Pr → Bool) : ((l.take i).filter f).length ≤ (l.filter f).length := ((List.take_sublist i l).filter f).length_le
theorem mem_mor {l f : List Pr} {m : Nat} {a b : Nat} : (a, b) ∈ mor l m f ↔ (a, m) ∈ f ∧ (m, b) ∈ l := by
  unfold mor
  rw [List.mem_flatMap]
  constructor
  · rintro ⟨p, hp, hq⟩
    by_cases e : p.2 = m
    · rw [if_pos e] at hq
      obtain ⟨q, h1, h2⟩ := List.mem_map.mp hq
      obtain ⟨h3, h4⟩ := List.mem_filter.mp h1
      have e4 := of_decide_eq_true h4
      cases h2
      subst e
      exact ⟨hp, by rw [← e4]; exact h3⟩
    · rw [if_neg e] at hq; cases hq
  · rintro ⟨h1, h2⟩
    exact ⟨(a, m), h1, by rw [if_pos rfl]; exact List.mem_map.mpr ⟨(m, b), List.mem_filter.mpr ⟨h2, by simp⟩, rfl⟩⟩
def Pre_closed : List PyData → (Sl → Prop) → Prop := fun ds R => ∃ (n : Nat), ∃ (ps : List Pr), (n ≤ 6) ∧ (ps.length < 64) ∧ (∀ p ∈ ps, p.1 < n ∧ p.2 < n) ∧ (∀ a, a < n → clo n (inL ps) a a = false) ∧ ds = [eN n, eLP ps] ∧ R = one (eTP (prs n (clo n (inL ps))))
theorem V_closed {E : XK} {ss : List Sl} {t0 t1 : TE} {n : Nat} {ps : List Pr} (k0 : Wd t0 ss (eN n)) (k1 : Wd t1 ss (eLP ps)) (h1 : n ≤ 6 := by walk_at "ln") (h2 : ps.length < 64 := by walk_at "ln") (h3 : ∀ p ∈ ps, p.1 < n ∧ p.2 < n := by walk_at "ln") (h4 : ∀ a, a < n → clo n (inL ps) a a = false := by walk_at "ln") : Wd (tCall (SpD Pre_closed) [] E (tCons t0 (tCons t1 tNil))) ss (eTP (prs n (clo n (inL ps)))) := W_call (WA_cons (k0.to (WA_cons (k1.to (WA_nil ⟨_, ⟨n, ps, h1, h2, h3, h4, rfl, rfl⟩, fun s hs => ⟨_, hs, rfl⟩⟩)))))
theorem ok_closed {P : Program} {w : World} {K : PySem.W.Frag} {mg : Str → Option Value} {base : Heap} (T : Txt K mg) : Ok P w K mg base 1 "closed" ["many", "pairs"] (SpD Pre_closed) := by
  obtain ⟨f, fd, F, bb, m⟩ := T.d_closed
  refine ⟨f, fd, m, F.kp, bb, fnD F sc_closed (fun ds R h => by obtain ⟨n, ps, _, _, _, _, rfl, _⟩ := h; rfl) fun cdv A outer s H E ds R hr h => ?_⟩
  obtain ⟨n, ps, h1, h2, h3, h4, rfl, rfl⟩ := h
  refine ⟨_, (pss_cons (ps_set (i := 2) sc_closed.nd rfl (.inl rfl) (pe_callB (cr_sortedT rfl) (by rfl) T.b_sorted (by decide +kernel) (pa_cons (pe_callTy (cr_setOfT rfl hr.units) (by rfl) T.b_set (by decide +kernel) (pa_cons (pv 1) pa_nil)) pa_nil)))
      (pss_cons (ps_for PassesOwn.never rfl (pi_range1 rfl T.b_range (pa_cons (pv 0) pa_nil)) (pg_name (i := 3) sc_closed.nd rfl (.inr rfl)) (pss_cons (ps_set (i := 4) sc_closed.nd rfl (.inl rfl) (pe_lst pa_nil))
      (pss_cons (ps_for PassesOwn.never rfl (pi_list (pv 2)) (pg_tup rfl (pgs_cons (pg_name (i := 5) sc_closed.nd rfl (.inr rfl)) (pgs_cons (pg_name (i := 6) sc_closed.nd rfl (.inl rfl)) pgs_nil))) (pss_one (ps_if (pt_cmpR (k_eq K hr) (pv 6) (pv 3) (nomark _)) (pss_one (ps_expr (pe_bm PySem.F.plainAttrs_list PySem.F.slot_list_extend PySem.F.type_list_extend mt_extend (pv 4) (pa_cons (pe_lc (own := [("c", 7), ("d", 8)]) (g := gTup K 2 (gCons (gName 7) (gCons (gName 8) gNil)))  rfl sc_closed.nd (pi_list (pv 2)) (blkOk_by (own := [("c", 7), ("d", 8)]) (N := n_closed) (sc := defScope s_closed) (by decide +kernel)) (fun _ _ _ _ _ => (pg_tup rfl (pgs_cons (pg_name (i := 7) sc_closed.nd rfl (.inl rfl)) (pgs_cons (pg_name (i := 8) sc_closed.nd rfl (.inl rfl)) pgs_nil)))) (fun _ _ _ _ _ => pts_one (pt_cmpR (k_eq K hr) (pv 7) (pv 3) (nomark _))) (fun _ _ _ _ _ => (pe_tup (pa_cons (pv 5) (pa_cons (pv 8) pa_nil))))) pa_nil)))) pss_nil)))
      (pss_one (ps_set (i := 2) sc_closed.nd rfl (.inl rfl) (pe_callB (cr_sortedT rfl) (by rfl) T.b_sorted (by decide +kernel) (pa_cons (pe_callTy (cr_setOfT rfl hr.units) (by rfl) T.b_set (by decide +kernel) (pa_cons (pe_op op_cat (pv 2) (pv 4)) pa_nil)) pa_nil)))))))
      (pss_one (ps_ret (pe_callTy c_tuple (by rfl) T.b_tuple (by decide +kernel) (pa_cons (pv 2) pa_nil)))))), ?_⟩
  have irr : ∀ i, i ≤ n → ∀ a, a < n → clK (inL ps) i a a = false := fun i hi a ha => by
    cases e : clK (inL ps) i a a with
    | false => rfl
    | true =>
      have := clK_mono (inL ps) hi e
      exact this.symm.trans (h4 a ha)
  refine T_seq (T_asg (Wd.to (V_sortsetL (n := n) (V_var rfl) ⟨h2, by omega, h3⟩) ?_))
  refine T_seq (T_for [3] ((VI_rng (V_var rfl) (by walk_at "ln")).to ⟨fun i ss => ∃ y3 y4 y5 y6 y7 y8, ss = [.dat (eN n), .dat (eLP ps), .dat (eLP (prs n (clK (inL ps) i))), y3, y4, y5, y6, y7, y8], ⟨_, _, _, _, _, _, rfl⟩, ?_, ?_⟩))
  · rintro i d ss' hd ⟨y3, y4, y5, y6, y7, y8, rfl⟩
    obtain ⟨hi, rfl⟩ := rng_turn hd
    have hir := irr i (Nat.le_of_lt hi)
    have hl := irr_len h1 hir
    have hl1 := irr_len1 h1 hir hi
    have hl2 := irr_len2 h1 hir hi
    have hmor : ∀ j, (mor (prs n (clK (inL ps) i)) i ((prs n (clK (inL ps) i)).take j)).length ≤ 25 := fun j => by
      rw [mor_len]
      exact Nat.mul_le_mul (Nat.le_trans (take_len j _) hl2) hl1
    refine WG_name (T_seq (T_newL (WA_nil ⟨by show 0 ≤ 100000; omega, ?_⟩)))
    refine T_seq (T_for [5, 6] ((VI_list (V_var rfl)).to ⟨fun j ss => ∃ y5 y6 y7 y8, ss = [.dat (eN n), .dat (eLP ps), .dat (eLP (prs n (clK (inL ps) i))), .dat (eN i), .own (.lst ((mor (prs n (clK (inL ps) i)) i ((prs n (clK (inL ps) i)).take j)).map eP)), y5, y6, y7, y8], ⟨_, _, _, _, rfl⟩, ?_, ?_⟩))
    · rintro j d ss' hd ⟨y5, y6, y7, y8, rfl⟩
      obtain ⟨p, hp, _, rfl⟩ := map_get hd
      refine WG_tup ⟨_, _, rfl, T_if (WTd.to (VT_t (V_eqN (V_var rfl) (V_var rfl))) ?_)⟩
      by_cases e : p.2 = i
      · rw [decide_eq_true e]
        refine iteT (T_ext rfl (Wd.to (V_lcF2 (VI_list (V_var rfl)) (by walk_at "ln") (fun v hv => VT_t (V_eqN (V_var rfl) (V_var rfl))) (fun v hv hp => V_pair (V_var rfl) (V_var rfl))) ⟨_, rfl, ?_, ?_⟩))
        · have := hmor j
          have := Nat.le_trans (List.length_filter_le (fun q : Pr => decide (q.1 = i)) (prs n (clK (inL ps) i))) hl
          rw [List.length_map, List.length_map]
          omega
        · dsimp only
          rw [mor_take _ _ _ hp, if_pos e, List.map_append, List.map_map]
          exact ⟨_, _, _, _, rfl⟩
      · rw [decide_eq_false e]
        refine iteF (T_next ?_)
        dsimp only
        rw [mor_take _ _ _ hp, if_neg e, List.append_nil]
        exact ⟨_, _, _, _, rfl⟩
    · rintro ss' ⟨y5, y6, y7, y8, rfl⟩
      rw [List.length_map, List.take_length]
      have hm := hmor (prs n (clK (inL ps) i)).length
      rw [List.take_length] at hm
      have hc : prs n (inL (prs n (clK (inL ps) i) ++ mor (prs n (clK (inL ps) i)) i (prs n (clK (inL ps) i)))) = prs n (clK (inL ps) (i + 1)) := prs_congr fun a b ha hb => by
        refine Bool.eq_iff_iff.mpr ?_
        show decide _ = true ↔ clS i (clK (inL ps) i) a b = true
        rw [decide_eq_true_iff, List.mem_append, mem_prs2, mem_mor, mem_prs2, mem_prs2]
        simp [ha, hb, hi, clS]
      refine T_frz 4 rfl (T_asg (Wd.to (V_sortsetL (n := n) (V_cat (f := eP) (l := prs n (clK (inL ps) i)) (m := mor (prs n (clK (inL ps) i)) i (prs n (clK (inL ps) i))) (V_var rfl) (V_var rfl) (by omega)) ⟨by rw [List.length_append]; omega, by omega, ?_⟩) ?_))
      · intro p hp
        rcases List.mem_append.mp hp with z | z
        · exact ⟨(mem_prs.mp z).1, (mem_prs.mp z).2.1⟩
        · have := mem_mor.mp (show (p.1, p.2) ∈ _ from z)
          exact ⟨(mem_prs.mp this.1).1, (mem_prs.mp this.2).2.1⟩
      · rw [hc]
        exact ⟨_, _, _, _, _, _, rfl⟩
  · rintro ss' ⟨y3, y4, y5, y6, y7, y8, rfl⟩
    refine T_ret (Wd.to (V_tuple (V_var rfl)) ?_)
    rw [List.length_map, List.length_range]
end RO
namespace RO
theorem clS_iff {m : Nat} {R : Rl} {a b : Nat} : clS m R a b = true ↔ R a b = true ∨ (R a m = true ∧ R m b = true) := by unfold clS; simp
theorem clK_sub {R : Rl} {n a b : Nat} (h : R a b = true) : clo n R a b = true := clK_mono R (Nat.zero_le n) h
theorem clK_tr (R : Rl) : ∀ (i m : Nat), m < i → ∀ a b, clK R i a m = true → clK R i m b = true → clK R i a b = true
  | 0, m, h, _, _, _, _ => absurd h (Nat.not_lt_zero m)
  | i + 1, m, h, a, b, h1, h2 => by
    have h1' := clS_iff.mp h1
    have h2' := clS_iff.mp h2
    refine clS_iff.mpr ?_
    by_cases e : m = i
    · subst e
      refine .inr ⟨?_, ?_⟩
      · rcases h1' with z | z
        · exact z
        · exact z.1
      · rcases h2' with z | z
        · exact z
        · exact z.2
    · have hm : m < i := by omega
      rcases h1' with z | z <;> rcases h2' with y | y
      · exact .inl (clK_tr R i m hm a b z y)
      · exact .inr ⟨clK_tr R i m hm a i z y.1, y.2⟩
      · exact .inr ⟨z.1, clK_tr R i m hm i b z.2 y⟩
      · exact .inr ⟨z.1, y.2⟩
theorem clo_tr {R : Rl} {n a m b : Nat} (hm : m < n) (h1 : clo n R a m = true) (h2 : clo n R m b = true) : clo n R a b = true := clK_tr R n m hm a b h1 h2
theorem clo_min {R S : Rl} {n : Nat} (hs : ∀ a b, a < n → b < n → R a b = true → S a b = true) (ht : ∀ a b c, a < n → b < n → c < n → S a b = true → S b c = true → S a c = true) :
    ∀ i, i ≤ n → ∀ a b, a < n → b < n → clK R i a b = true → S a b = true
  | 0, _, a, b, ha, hb, h => hs a b ha hb h
  | i + 1, hi, a, b, ha, hb, h => by
    rcases clS_iff.mp h with z | z
    · exact clo_min hs ht i (by omega) a b ha hb z
    · exact ht a i b ha (by omega) hb (clo_min hs ht i (by omega) a i ha (by omega) z.1) (clo_min hs ht i (by omega) i b (by omega) hb z.2)
theorem clo_le {R S : Rl} {n : Nat} (hs : ∀ a b, a < n → b < n → R a b = true → S a b = true) (ht : ∀ a b c, a < n → b < n → c < n → S a b = true → S b c = true → S a c = true) {a b : Nat} (ha : a < n) (hb : b < n) (h : clo n R a b = true) : S a b = true := clo_min hs ht n (Nat.le_refl n) a b ha hb h
/-! ### an order and one pair more -/
def adR (P : Rl) (b a : Nat) : Rl := fun x y => P x y || ((decide (x = b) || P x b) && (decide (y = a) || P a y))
theorem adR_iff {P : Rl} {b a x y : Nat} : adR P b a x y = true ↔ P x y = true ∨ ((x = b ∨ P x b = true) ∧ (y = a ∨ P a y = true)) := by unfold adR; simp
theorem adR_po {n : Nat} {P : Rl} {a b : Nat} (h : Po n P) (ha : a < n) (hb : b < n) (ne : a ≠ b) (hn : P a b = false) : Po n (adR P b a) where
  irr x hx := by
    cases e : adR P b a x x with
    | false => rfl
    | true =>
      exfalso
      rcases adR_iff.mp e with z | ⟨z, y⟩
      · rw [h.irr x hx] at z; cases z
      · have key : a = b ∨ P a b = true := by
          rcases z with z | z <;> rcases y with y | y
          · exact .inl (y.symm.trans z)
          · exact .inr (by rw [← z]; exact y)
          · exact .inr (by rw [← y]; exact z)
          · exact .inr (h.tr a x b ha hx hb y z)
        rcases key with z | z
        · exact ne z
        · rw [hn] at z; cases z
  tr x y z hx hy hz h1 h2 := by
    have no : ¬ ((y = a ∨ P a y = true) ∧ (y = b ∨ P y b = true)) := by
      rintro ⟨u, v⟩
      have key : a = b ∨ P a b = true := by
        rcases u with u | u <;> rcases v with v | v
        · exact .inl (u.symm.trans v)
        · exact .inr (by rw [← u]; exact v)
        · exact .inr (by rw [← v]; exact u)
        · exact .inr (h.tr a y b ha hy hb u v)
      rcases key with z | z
      · exact ne z
      · rw [hn] at z; cases z
    refine adR_iff.mpr ?_
    rcases adR_iff.mp h1 with u | ⟨u1, u2⟩ <;> rcases adR_iff.mp h2 with v | ⟨v1, v2⟩
    · exact .inl (h.tr x y z hx hy hz u v)
    · refine .inr ⟨.inr ?_, v2⟩
      rcases v1 with v1 | v1
      · rw [← v1]; exact u
      · exact h.tr x y b hx hy hb u v1
    · refine .inr ⟨u1, .inr ?_⟩
      rcases u2 with u2 | u2
      · rw [← u2]; exact v
      · exact h.tr a y z ha hy hz u2 v
    · exact absurd ⟨u2, v1⟩ no
theorem adR_sub {P : Rl} {b a x y : Nat} (h : P x y = true) : adR P b a x y = true := adR_iff.mpr (.inl h)
theorem adR_self {P : Rl} {b a : Nat} : adR P b a b a = true := adR_iff.mpr (.inr ⟨.inl rfl, .inl rfl⟩)
/-- the least: any order that has P and the pair has all of it -/
theorem adR_least {n : Nat} {P Q : Rl} {a b : Nat} (hq : Po n Q) (hs : ∀ x y, x < n → y < n → P x y = true → Q x y = true) (ha : a < n) (hb : b < n) (hba : Q b a = true) {x y : Nat} (hx : x < n) (hy : y < n) (h : adR P b a x y = true) : Q x y = true := by
  rcases adR_iff.mp h with z | ⟨z, w⟩
  · exact hs x y hx hy z
  · have h1 : Q x a = true := by
      rcases z with z | z
      · rw [z]; exact hba
      · exact hq.tr x b a hx hb ha (hs x b hx hb z) hba
    rcases w with w | w
    · rw [w]; exact h1
    · exact hq.tr x a y hx ha hy h1 (hs a y ha hy w)
theorem clo_ad {n : Nat} {P : Rl} {a b : Nat} (h : Po n P) (ha : a < n) (hb : b < n) (ne : a ≠ b) (hn : P a b = false) {x y : Nat} (hx : x < n) (hy : y < n) : clo n (inL (prs n P ++ [(b, a)])) x y = adR P b a x y := by
  have hin : ∀ x y, inL (prs n P ++ [(b, a)]) x y = true ↔ (x < n ∧ y < n ∧ P x y = true) ∨ (x = b ∧ y = a) := fun x y => by
    unfold inL
    rw [decide_eq_true_iff, List.mem_append, mem_prs2, List.mem_singleton, Prod.mk.injEq]
  refine Bool.eq_iff_iff.mpr ⟨fun e => clo_le (S := adR P b a) (fun u v hu hv q => ?_) (adR_po h ha hb ne hn).tr hx hy e, fun e => ?_⟩
  · rcases (hin u v).mp q with z | ⟨rfl, rfl⟩
    · exact adR_sub z.2.2
    · exact adR_self
  · have sub : ∀ u v, u < n → v < n → P u v = true → clo n (inL (prs n P ++ [(b, a)])) u v = true := fun u v hu hv q => clK_sub ((hin u v).mpr (.inl ⟨hu, hv, q⟩))
    have hba : clo n (inL (prs n P ++ [(b, a)])) b a = true := clK_sub ((hin b a).mpr (.inr ⟨rfl, rfl⟩))
    rcases adR_iff.mp e with z | ⟨z, w⟩
    · exact sub x y hx hy z
    · have h1 : clo n (inL (prs n P ++ [(b, a)])) x a = true := by
        rcases z with z | z
        · rw [z]; exact hba
        · exact clo_tr hb (sub x b hx hb z) hba
      rcases w with w | w
      · rw [w]; exact h1
      · exact clo_tr ha h1 (sub a y ha hy w)
theorem inL_prs {n : Nat} {P : Rl} {x y : Nat} (hx : x < n) (hy : y < n) : inL (prs n P) x y = P x y := by
  unfold inL
  rw [Bool.eq_iff_iff, decide_eq_true_iff, mem_prs2]
  simp [hx, hy]
theorem Po.congr {n : Nat} {P Q : Rl} (h : Po n P) (e : ∀ x y, x < n → y < n → P x y = Q x y) : Po n Q where
  irr a ha := by rw [← e a a ha ha]; exact h.irr a ha
  tr a b c ha hb hc h1 h2 := by
    rw [← e a b ha hb] at h1
    rw [← e b c hb hc] at h2
    rw [← e a c ha hc]
    exact h.tr a b c ha hb hc h1 h2
/-! ### lists of pairs that are orders -/
structure PL (n : Nat) (l : List Pr) : Prop where
  eq : l = prs n (inL l)
  po : Po n (inL l)
theorem PL.of {n : Nat} {P : Rl} (h : Po n P) : PL n (prs n P) where
  eq := (prs_congr fun x y hx hy => inL_prs hx hy).symm
  po := h.congr fun x y hx hy => (inL_prs hx hy).symm
theorem inL_iff {l : List Pr} {a b : Nat} : inL l a b = true ↔ (a, b) ∈ l := by unfold inL; exact decide_eq_true_iff
theorem inL_no {l : List Pr} {a b : Nat} : inL l a b = false ↔ (a, b) ∉ l := by unfold inL; exact decide_eq_false_iff_not
/-- what one list of pairs becomes with a turn's reverse -/
def addP (n : Nat) (l : List Pr) (t : Pr) : List Pr := prs n (adR (inL l) t.2 t.1)
theorem addP_clo {n : Nat} {l : List Pr} {t : Pr} (h : PL n l) (h1 : t.1 < n) (h2 : t.2 < n) (ne : t.1 ≠ t.2) (hn : t ∉ l) : prs n (clo n (inL (l ++ [(t.2, t.1)]))) = addP n l t ∧ ∀ a, a < n → clo n (inL (l ++ [(t.2, t.1)])) a a = false := by
  have key : ∀ x y, x < n → y < n → clo n (inL (l ++ [(t.2, t.1)])) x y = adR (inL l) t.2 t.1 x y := fun x y hx hy => by
    have := clo_ad h.po h1 h2 ne (inL_no.mpr hn) hx hy
    rwa [← h.eq] at this
  exact ⟨prs_congr key, fun a ha => (key a a ha ha).trans ((adR_po h.po h1 h2 ne (inL_no.mpr hn)).irr a ha)⟩
theorem addP_PL {n : Nat} {l : List Pr} {t : Pr} (h : PL n l) (h1 : t.1 < n) (h2 : t.2 < n) (ne : t.1 ≠ t.2) (hn : t ∉ l) : PL n (addP n l t) := PL.of (adR_po h.po h1 h2 ne (inL_no.mpr hn))
theorem mem_addP {n : Nat} {l : List Pr} {t : Pr} {x y : Nat} (hx : x < n) (hy : y < n) : (x, y) ∈ addP n l t ↔ adR (inL l) t.2 t.1 x y = true := by
  unfold addP; rw [mem_prs2]; simp [hx, hy]
end RO
namespace RO
open PySem PySem.Spec PyProof.Rows L2
local macro_rules | `(tactic| walk_at "ln") => `(tactic| (first | assumption | omega | (simp only [List.mem_range, List.length_range, List.length_map, List.length_append, List.length_cons, List.length_nil] at *; omega)))
def Pre_with_turn : List PyData → (Sl → Prop) → Prop := fun ds R => ∃ (n : Nat), ∃ (put : List (List Pr)), ∃ (k : Nat), ∃ (l : List Pr), ∃ (t : Pr), (n ≤ 6) ∧ (put.length ≤ 100) ∧ (put[k]? = some l) ∧ (PL n l) ∧ (t.1 < n ∧ t.2 < n ∧ t.1 ≠ t.2 ∧ t ∉ l) ∧ ds = [eN n, eLTP put, eN k, eP t] ∧ R = one (eLTP (put.set k (addP n l t)))
theorem V_with_turn {E : XK} {ss : List Sl} {t0 t1 t2 t3 : TE} {n : Nat} {put : List (List Pr)} {k : Nat} {l : List Pr} {t : Pr} (k0 : Wd t0 ss (eN n)) (k1 : Wd t1 ss (eLTP put)) (k2 : Wd t2 ss (eN k)) (k3 : Wd t3 ss (eP t)) (h1 : n ≤ 6 := by walk_at "ln") (h2 : put.length ≤ 100 := by walk_at "ln") (h3 : put[k]? = some l := by walk_at "ln") (h4 : PL n l := by walk_at "ln") (h5 : t.1 < n ∧ t.2 < n ∧ t.1 ≠ t.2 ∧ t ∉ l := by walk_at "ln") : Wd (tCall (SpD Pre_with_turn) [] E (tCons t0 (tCons t1 (tCons t2 (tCons t3 tNil))))) ss (eLTP (put.set k (addP n l t))) := W_call (WA_cons (k0.to (WA_cons (k1.to (WA_cons (k2.to (WA_cons (k3.to (WA_nil ⟨_, ⟨n, put, k, l, t, h1, h2, h3, h4, h5, rfl, rfl⟩, fun s hs => ⟨_, hs, rfl⟩⟩)))))))))
theorem ok_with_turn {P : Program} {w : World} {K : PySem.W.Frag} {mg : Str → Option Value} {base : Heap} (T : Txt K mg) : Ok P w K mg base 2 "with_turn" ["many", "put", "place", "turn"] (SpD Pre_with_turn) := by
  obtain ⟨f, fd, F, bb, m⟩ := T.d_with_turn
  refine ⟨f, fd, m, F.kp, bb, fnD F sc_with_turn (fun ds R h => by obtain ⟨n, put, k, l, t, _, _, _, _, _, rfl, _⟩ := h; rfl) fun cdv A outer s H E ds R hr h => ?_⟩
  obtain ⟨n, put, k, l, t, h1, h2, h3, h4, h5, rfl, rfl⟩ := h
  refine ⟨_, (pss_cons (ps_set (i := 4) sc_with_turn.nd rfl (.inl rfl) (pe_callN (ok_closed T) (hr.mono (by decide)) (by rfl) (pa_cons (pv 0) (pa_cons (pe_op op_cat (pe_callTy c_list (by rfl) T.b_list (by decide +kernel) (pa_cons (pe_ix (kx_list K) (pv 1) (pv 2) (fun _ _ => rfl)) pa_nil)) (pe_lst (pa_cons (pe_tup (pa_cons (pe_ix (kx_tup K) (pv 3) pe_int (fun _ _ => rfl)) (pa_cons (pe_ix (kx_tup K) (pv 3) pe_int (fun _ _ => rfl)) pa_nil))) pa_nil))) pa_nil))))
      (pss_one (ps_ret (pe_op op_cat (pe_op op_cat (pe_slice sl_list (pv 1) po_none (po_some (pv 2))) (pe_lst (pa_cons (pv 4) pa_nil))) (pe_slice sl_list (pv 1) (po_some (pe_op op_add (pv 2) pe_int)) po_none))))), ?_⟩
  obtain ⟨hc, hi⟩ := addP_clo h4 h5.1 h5.2.1 h5.2.2.1 h5.2.2.2
  have hl : l.length ≤ 30 := by rw [h4.eq]; exact irr_len h1 h4.po.irr
  have hk : k < put.length := (List.getElem?_eq_some_iff.mp h3).1
  refine T_seq (T_asg (Wd.to (V_closed (n := n) (ps := l ++ [(t.2, t.1)]) (V_var rfl) (V_cat (f := eP) (l := l) (m := [(t.2, t.1)]) (V_listT (V_ixL (f := eTP) (V_var rfl) (V_var rfl) h3)) (V_lst1 (f := eP) (V_pair (V_p1 (V_var rfl)) (V_p0 (V_var rfl)))) (by walk_at "ln")) h1 (by rw [List.length_append]; show _ + 1 < 64; omega) ?_ hi) ?_))
  · intro p hp
    rcases List.mem_append.mp hp with z | z
    · rw [h4.eq] at z
      exact ⟨(mem_prs.mp z).1, (mem_prs.mp z).2.1⟩
    · rw [List.mem_singleton] at z
      subst z
      exact ⟨h5.2.1, h5.1⟩
  rw [hc]
  refine T_ret (Wd.to (V_cat (V_cat (f := eTP) (V_take (V_var rfl) (V_var rfl) (by omega)) (V_lst1 (f := eTP) (V_var rfl)) ?_) (V_drop (V_var rfl) (V_addN (V_var rfl) (V_nat 1)) (by omega)) ?_) ?_)
  · rw [List.length_take]; show _ + 1 ≤ _; omega
  · rw [List.length_append, List.length_take, List.length_drop]; show _ + 1 + _ ≤ _; omega
  · show Sl.dat _ = Sl.dat _
    rw [List.set_eq_take_append_cons_drop, if_pos hk, List.append_assoc]
    rfl
abbrev plc (put : List (List Pr)) (t : Pr) : List Nat := (List.range put.length).filter fun i => !decide (t ∈ put.getD i [])
def hrd (put : List (List Pr)) (b : Pr) (left : List Pr) : Pr := left.foldl (fun b t => if (plc put t).length < (plc put b).length then t else b) b
theorem hrd_mem (put : List (List Pr)) : ∀ (left : List Pr) (b : Pr), hrd put b left = b ∨ hrd put b left ∈ left
  | [], b => .inl rfl
  | t :: left, b => by
    show hrd put (if _ then t else b) left = b ∨ _
    by_cases e : (plc put t).length < (plc put b).length
    · show hrd put (if (plc put t).length < (plc put b).length then t else b) left = b ∨ hrd put (if (plc put t).length < (plc put b).length then t else b) left ∈ _
      rw [if_pos e]
      rcases hrd_mem put left t with z | z
      · rw [z]; exact .inr List.mem_cons_self
      · exact .inr (List.mem_cons_of_mem _ z)
    · show hrd put (if (plc put t).length < (plc put b).length then t else b) left = b ∨ hrd put (if (plc put t).length < (plc put b).length then t else b) left ∈ _
      rw [if_neg e]
      rcases hrd_mem put left b with z | z
      · exact .inl z
      · exact .inr (List.mem_cons_of_mem _ z)
theorem hrd_in (put : List (List Pr)) {left : List Pr} {b : Pr} (h : b ∈ left) : hrd put b left ∈ left := by
  rcases hrd_mem put left b with z | z
  · rw [z]; exact h
  · exact z
def Pre_hardest : List PyData → (Sl → Prop) → Prop := fun ds R => ∃ (put : List (List Pr)), ∃ (b : Pr), ∃ (more : List Pr), (put.length ≤ 1000) ∧ ds = [eLTP put, eLP (b :: more)] ∧ R = one (eP (hrd put b (b :: more)))
theorem V_hardest {E : XK} {ss : List Sl} {t0 t1 : TE} {put : List (List Pr)} {b : Pr} {more : List Pr} (k0 : Wd t0 ss (eLTP put)) (k1 : Wd t1 ss (eLP (b :: more))) (h1 : put.length ≤ 1000 := by walk_at "ln") : Wd (tCall (SpD Pre_hardest) [] E (tCons t0 (tCons t1 tNil))) ss (eP (hrd put b (b :: more))) := W_call (WA_cons (k0.to (WA_cons (k1.to (WA_nil ⟨_, ⟨put, b, more, h1, rfl, rfl⟩, fun s hs => ⟨_, hs, rfl⟩⟩)))))
theorem ok_hardest {P : Program} {w : World} {K : PySem.W.Frag} {mg : Str → Option Value} {base : Heap} (T : Txt K mg) : Ok P w K mg base 2 "hardest" ["put", "left"] (SpD Pre_hardest) := by
  obtain ⟨f, fd, F, bb, m⟩ := T.d_hardest
  refine ⟨f, fd, m, F.kp, bb, fnD F sc_hardest (fun ds R h => by obtain ⟨put, b, more, _, rfl, _⟩ := h; rfl) fun cdv A outer s H E ds R hr h => ?_⟩
  obtain ⟨put, b, more, h1, rfl, rfl⟩ := h
  refine ⟨_, (pss_cons (ps_set (i := 2) sc_hardest.nd rfl (.inl rfl) (pe_ix (kx_list K) (pv 1) pe_int (fun _ _ => rfl)))
      (pss_cons (ps_for PassesOwn.never rfl (pi_list (pv 1)) (pg_name (i := 3) sc_hardest.nd rfl (.inl rfl)) (pss_one (ps_if (pt_cmpR op_lt (pe_callB c_len (by rfl) T.b_len (by decide +kernel) (pa_cons (pe_callN (ok_places_for T) (hr.mono (by decide)) (by rfl) (pa_cons (pv 0) (pa_cons (pv 3) pa_nil))) pa_nil)) (pe_callB c_len (by rfl) T.b_len (by decide +kernel) (pa_cons (pe_callN (ok_places_for T) (hr.mono (by decide)) (by rfl) (pa_cons (pv 0) (pa_cons (pv 2) pa_nil))) pa_nil)) (nomark _)) (pss_one (ps_set (i := 2) sc_hardest.nd rfl (.inl rfl) (pv 3))) pss_nil)))
      (pss_one (ps_ret (pv 2))))), ?_⟩
  refine T_seq (T_asg (Wd.to (V_ixL (f := eP) (V_var rfl) (V_nat 0) (show (b :: more)[0]? = some b from rfl)) ?_))
  refine T_seq (T_for [3] ((VI_list (V_var rfl)).to ⟨fun i ss => ∃ y3, ss = [.dat (eLTP put), .dat (eLP (b :: more)), .dat (eP (hrd put b ((b :: more).take i))), y3], ⟨_, rfl⟩, ?_, ?_⟩))
  · rintro i d ss' hd ⟨y3, rfl⟩
    obtain ⟨t, ht, _, rfl⟩ := map_get hd
    have ht' : hrd put b ((b :: more).take (i + 1)) = if (plc put t).length < (plc put (hrd put b ((b :: more).take i))).length then t else hrd put b ((b :: more).take i) := by
      obtain ⟨hi, e⟩ := List.getElem?_eq_some_iff.mp ht
      unfold hrd
      rw [← List.take_append_getElem hi, e, List.foldl_append]
      rfl
    refine WG_name (T_if (WTd.to (VT_t (V_ltN (V_lenL (f := eN) (V_places_for (V_var rfl) (V_var rfl))) (V_lenL (f := eN) (V_places_for (V_var rfl) (V_var rfl))))) ?_))
    by_cases e : (plc put t).length < (plc put (hrd put b ((b :: more).take i))).length
    · rw [if_pos e] at ht'
      rw [decide_eq_true e]
      refine iteT (T_asg (Wd.to (V_var rfl) ?_))
      dsimp only
      rw [ht']
      exact ⟨_, rfl⟩
    · rw [if_neg e] at ht'
      rw [decide_eq_false e]
      refine iteF (T_next ?_)
      dsimp only
      rw [ht']
      exact ⟨_, rfl⟩
  · rintro ss' ⟨y3, rfl⟩
    rw [List.length_map, List.take_length]
    exact T_ret (Wd.to (V_var rfl) rfl)
/-- the search -/
def putA (n : Nat) : Nat → List (List Pr) → List Pr → Option (List (List Pr))
  | 0, _, _ => none
  | _ + 1, put, [] => some put
  | f + 1, put, b :: more => (plc put (hrd put b (b :: more))).findSome? fun k =>
      if k = 0 ∨ put.getD k [] ≠ put.getD (k - 1) [] then putA n f (put.set k (addP n (put.getD k []) (hrd put b (b :: more)))) ((b :: more).filter fun o => !decide (o = hrd put b (b :: more))) else none
def eOL : Option (List (List Pr)) → PyData
  | none => .none
  | some p => eLTP p
end RO
namespace RO
open PySem PySem.Spec PyProof.Rows L2
local macro_rules | `(tactic| walk_at "ln") => `(tactic| (first | assumption | omega | (simp only [List.mem_range, List.length_range, List.length_map, List.length_append, List.length_cons, List.length_nil] at *; omega)))
theorem isND_eOL (o : Option (List (List Pr))) : isND (eOL o) = o.isNone := by cases o <;> rfl
theorem plc_mem {put : List (List Pr)} {t : Pr} {k : Nat} (h : k ∈ plc put t) : k < put.length ∧ t ∉ put.getD k [] ∧ put[k]? = some (put.getD k []) := by
  obtain ⟨h1, h2⟩ := List.mem_filter.mp h
  have hk := List.mem_range.mp h1
  refine ⟨hk, by simpa using h2, ?_⟩
  rw [List.getD_eq_getElem?_getD, List.getElem?_eq_getElem hk]
  rfl
theorem plc_len (put : List (List Pr)) (t : Pr) : (plc put t).length ≤ put.length := fr_len _ _
theorem set_mem {α : Type} {l : List α} {k : Nat} {x y : α} (h : y ∈ l.set k x) : y ∈ l ∨ y = x := by
  rcases List.mem_or_eq_of_mem_set h with z | z
  · exact .inl z
  · exact .inr z
theorem fs_hit {α β : Type} {f : α → Option β} {b : β} : ∀ {l : List α} {i : Nat} {k : α}, l[i]? = some k → (∀ x ∈ l.take i, f x = none) → f k = some b → l.findSome? f = some b
  | [], i, k, h, _, _ => by cases h
  | a :: l, 0, k, h, _, hb => by
    cases h
    rw [List.findSome?_cons, hb]
  | a :: l, i + 1, k, h, hn, hb => by
    rw [List.findSome?_cons, hn a (by simp)]
    exact fs_hit (i := i) (by simpa using h) (fun x hx => hn x (by simp [hx])) hb
def Pre_put_all (j : Nat) : List PyData → (Sl → Prop) → Prop := fun ds R => ∃ (n : Nat), ∃ (put : List (List Pr)), ∃ (left : List Pr), (left.length < j) ∧ (n ≤ 6) ∧ (put.length ≤ 100) ∧ (∀ l ∈ put, PL n l) ∧ (∀ t ∈ left, t.1 < n ∧ t.2 < n ∧ t.1 ≠ t.2) ∧ (j ≤ 1000) ∧ ds = [eN n, eLTP put, eLP left] ∧ R = one (eOL (putA n j put left))
theorem V_put_all {j : Nat} {E : XK} {ss : List Sl} {t0 t1 t2 : TE} {n : Nat} {put : List (List Pr)} {left : List Pr} (k0 : Wd t0 ss (eN n)) (k1 : Wd t1 ss (eLTP put)) (k2 : Wd t2 ss (eLP left)) (h1 : left.length < j := by walk_at "ln") (h2 : n ≤ 6 := by walk_at "ln") (h3 : put.length ≤ 100 := by walk_at "ln") (h4 : ∀ l ∈ put, PL n l := by walk_at "ln") (h5 : ∀ t ∈ left, t.1 < n ∧ t.2 < n ∧ t.1 ≠ t.2 := by walk_at "ln") (h6 : j ≤ 1000 := by walk_at "ln") : Wd (tCall (SpD (Pre_put_all j)) [] E (tCons t0 (tCons t1 (tCons t2 tNil)))) ss (eOL (putA n j put left)) := W_call (WA_cons (k0.to (WA_cons (k1.to (WA_cons (k2.to (WA_nil ⟨_, ⟨n, put, left, h1, h2, h3, h4, h5, h6, rfl, rfl⟩, fun s hs => ⟨_, hs, rfl⟩⟩)))))))
theorem okr_put_all {P : Program} {w : World} {K : PySem.W.Frag} {mg : Str → Option Value} {base : Heap} (T : Txt K mg) : ∀ j : Nat, Ok P w K mg base (3 + j) "put_all" ["many", "put", "left"] (SpD (Pre_put_all j))
  | 0 => by
    obtain ⟨f, fd, F, bb, m⟩ := T.d_put_all
    refine ⟨f, fd, m, F.kp, bb, fnD (k := 2) F sc_put_all (fun ds R h => by obtain ⟨n, put, left, _, _, _, _, _, _, rfl, _⟩ := h; rfl) fun cdv A outer s H E ds R hr h => ?_⟩
    obtain ⟨n, put, left, h1, h2, h3, h4, h5, h6, rfl, rfl⟩ := h
    exact absurd h1 (Nat.not_lt_zero _)
  | j + 1 => by
    obtain ⟨f, fd, F, bb, m⟩ := T.d_put_all
    refine ⟨f, fd, m, F.kp, bb, fnD (k := 3 + j) F sc_put_all (fun ds R h => by obtain ⟨n, put, left, _, _, _, _, _, _, rfl, _⟩ := h; rfl) fun cdv A outer s H E ds R hr h => ?_⟩
    have ih := okr_put_all (P := P) (w := w) (base := base) T j
    obtain ⟨n, put, left, h1, h2, h3, h4, h5, h6, rfl, rfl⟩ := h
    refine ⟨_, (pss_cons (ps_if (pt_cmpR (k_eq K hr) (pv 2) (pe_lst pa_nil) (nomark _)) (pss_one (ps_ret (pv 1))) pss_nil)
      (pss_cons (ps_set (i := 3) sc_put_all.nd rfl (.inr rfl) (pe_callN (ok_hardest T) (hr.mono (by omega)) (by rfl) (pa_cons (pv 1) (pa_cons (pv 2) pa_nil))))
      (pss_cons (ps_setLc (i := 4) (own := [("other", 7)]) (g := gName 7)  rfl sc_put_all.nd rfl rfl (sw_true rfl rfl rfl (by decide +kernel))  (pi_list (pv 2)) (blkOk_by (own := [("other", 7)]) (N := n_put_all) (sc := defScope s_put_all) (by decide +kernel)) (fun _ _ _ _ _ => (pg_name (i := 7) sc_put_all.nd rfl (.inl rfl))) (fun _ _ _ _ _ => pts_one (pt_cmpR (k_ne K hr) (pv 7) (pv 3) (nomark _))) (fun _ _ _ _ _ => (pv 7)))
      (pss_cons (ps_for PassesOwn.never rfl (pi_list (pe_callN (ok_places_for T) (hr.mono (by omega)) (by rfl) (pa_cons (pv 1) (pa_cons (pv 3) pa_nil)))) (pg_name (i := 5) sc_put_all.nd rfl (.inl rfl)) (pss_one (ps_if (PW.pt (pw_or (pt_cmpR (k_eq K hr) (pv 5) pe_int (nomark _)) (pw_or1 (pt_cmpR (k_ne K hr) (pe_ix (kx_list K) (pv 1) (pv 5) (fun _ _ => rfl)) (pe_ix (kx_list K) (pv 1) (pe_op op_sub (pv 5) pe_int) (fun _ _ => rfl)) (nomark _))))) (pss_cons (ps_set (i := 6) sc_put_all.nd rfl (.inl rfl) (pe_callN ih hr (by rfl) (pa_cons (pv 0) (pa_cons (pe_callN (ok_with_turn T) (hr.mono (by omega)) (by rfl) (pa_cons (pv 0) (pa_cons (pv 1) (pa_cons (pv 5) (pa_cons (pv 3) pa_nil))))) (pa_cons (pv 4) pa_nil)))))
      (pss_one (ps_if (pt_cmp (pc_notN (pv 6)) rfl) (pss_one (ps_ret (pv 6))) pss_nil))) pss_nil)))
      (pss_one (ps_ret pe_non)))))), ?_⟩
    refine T_seq (T_if (WTd.to (VT_t (V_eqLP (V_var rfl) (V_lst0 (α := Pr)))) ?_))
    cases left with
    | nil => exact iteT (T_ret (Wd.to (V_var rfl) rfl))
    | cons b more =>
    rw [decide_eq_false (List.cons_ne_nil b more)]
    refine iteF (T_next (T_seq (T_asg (Wd.to (V_hardest (V_var rfl) (V_var rfl)) ?_))))
    have hin : hrd put b (b :: more) ∈ b :: more := hrd_in put List.mem_cons_self
    have hlt : ((b :: more).filter fun o => !decide (o = hrd put b (b :: more))).length < (b :: more).length := by
      refine List.length_filter_lt_length_iff_exists.mpr ⟨_, hin, ?_⟩
      simp
    have ht := h5 _ hin
    refine T_seq (T_asg (Wd.to (V_lcF1 (enc := eP) (VI_list (V_var rfl)) (by omega) (fun v hv => VT_t (V_neP (V_var rfl) (V_var rfl))) (fun v hv hp => V_var rfl)) ?_))
    have hpl := plc_len put (hrd put b (b :: more))
    refine T_seq (T_for [5] ((VI_list (V_places_for (V_var rfl) (V_var rfl))).to ⟨fun i ss => ∃ y5 y6 y7, ss = [.dat (eN n), .dat (eLTP put), .dat (eLP (b :: more)), .dat (eP (hrd put b (b :: more))), .dat (eLP ((b :: more).filter fun o => !decide (o = hrd put b (b :: more)))), y5, y6, y7] ∧
      ∀ k ∈ (plc put (hrd put b (b :: more))).take i, (if k = 0 ∨ put.getD k [] ≠ put.getD (k - 1) [] then putA n j (put.set k (addP n (put.getD k []) (hrd put b (b :: more)))) ((b :: more).filter fun o => !decide (o = hrd put b (b :: more))) else none) = none, ⟨_, _, _, rfl, fun k hk => by cases hk⟩, ?_, ?_⟩))
    · rintro i d ss' hd ⟨y5, y6, y7, rfl, hno⟩
      obtain ⟨k, hk, _, rfl⟩ := map_get hd
      obtain ⟨k1, k2, k3⟩ := plc_mem (List.mem_of_getElem? hk)
      have step : (plc put (hrd put b (b :: more))).take (i + 1) = (plc put (hrd put b (b :: more))).take i ++ [k] := by
        obtain ⟨hi, e⟩ := List.getElem?_eq_some_iff.mp hk
        rw [← List.take_append_getElem hi, e]
      have hno' : ∀ {z : Option (List (List Pr))}, (if k = 0 ∨ put.getD k [] ≠ put.getD (k - 1) [] then putA n j (put.set k (addP n (put.getD k []) (hrd put b (b :: more)))) ((b :: more).filter fun o => !decide (o = hrd put b (b :: more))) else none) = none →
          ∀ k ∈ (plc put (hrd put b (b :: more))).take (i + 1), (if k = 0 ∨ put.getD k [] ≠ put.getD (k - 1) [] then putA n j (put.set k (addP n (put.getD k []) (hrd put b (b :: more)))) ((b :: more).filter fun o => !decide (o = hrd put b (b :: more))) else none) = none := fun e k' hk' => by
        rw [step] at hk'
        rcases List.mem_append.mp hk' with z | z
        · exact hno k' z
        · rw [List.mem_singleton] at z
          subst z; exact e
      refine WG_name (T_if (WTd.to (VT_or (VT_t (V_eqN (V_var rfl) (V_nat 0))) fun hb => VT_t (V_neTP (l := put.getD k []) (m := put.getD (k - 1) []) (V_ixL (f := eTP) (V_var rfl) (V_var rfl) k3) (V_ixL (f := eTP) (V_var rfl) (V_subN (V_var rfl) (V_nat 1) (by have := of_decide_eq_false hb; omega)) ?_))) ?_))
      · have := of_decide_eq_false hb
        rw [List.getD_eq_getElem?_getD, List.getElem?_eq_getElem (show k - 1 < put.length by omega)]
        rfl
      · by_cases hc : k = 0 ∨ put.getD k [] ≠ put.getD (k - 1) []
        · have hc' : (decide (k = 0) || !decide (put.getD k [] = put.getD (k - 1) [])) = true := by simpa using hc
          rw [hc']
          have hp2 : ∀ l ∈ put.set k (addP n (put.getD k []) (hrd put b (b :: more))), PL n l := fun l hl => by
            rcases set_mem hl with z | z
            · exact h4 l z
            · rw [z]; exact addP_PL (h4 _ (List.mem_of_getElem? k3)) ht.1 ht.2.1 ht.2.2 k2
          refine iteT (T_seq (T_asg (Wd.to (V_put_all (V_var rfl) (V_with_turn (V_var rfl) (V_var rfl) (V_var rfl) (V_var rfl) h2 h3 k3 (h4 _ (List.mem_of_getElem? k3)) ⟨ht.1, ht.2.1, ht.2.2, k2⟩) (V_var rfl) (by omega) h2 (by rw [List.length_set]; exact h3) hp2 (fun t z => h5 t (List.mem_filter.mp z).1) (by omega)) ?_)))
          refine T_if (WTd.to (VT_B (V_notN (V_var rfl))) ?_)
          rw [isND_eOL]
          cases er : putA n j (put.set k (addP n (put.getD k []) (hrd put b (b :: more)))) ((b :: more).filter fun o => !decide (o = hrd put b (b :: more))) with
          | none =>
            refine iteF (T_next ?_)
            exact ⟨_, _, _, rfl, hno' (z := none) (by rw [if_pos hc]; exact er)⟩
          | some p =>
            refine iteT (T_ret (Wd.to (V_var rfl) ?_))
            show Sl.dat _ = Sl.dat _
            congr 1
            show eOL (some p) = eOL ((plc put (hrd put b (b :: more))).findSome? _)
            congr 1
            exact (fs_hit hk hno (by rw [if_pos hc]; exact er)).symm
        · have hc' : (decide (k = 0) || !decide (put.getD k [] = put.getD (k - 1) [])) = false := by
            rw [← Bool.not_eq_true]; simpa using hc
          rw [hc']
          refine iteF (T_next ?_)
          exact ⟨_, _, _, rfl, hno' (z := none) (by rw [if_neg hc])⟩
    · rintro ss' ⟨y5, y6, y7, rfl, hno⟩
      refine T_ret (Wd.to V_non ?_)
      show Sl.dat _ = Sl.dat _
      congr 1
      show eOL none = eOL ((plc put (hrd put b (b :: more))).findSome? _)
      congr 1
      rw [List.length_map, List.take_length] at hno
      exact (List.findSome?_eq_none_iff.mpr hno).symm
theorem ok_put_all {P : Program} {w : World} {K : PySem.W.Frag} {mg : Str → Option Value} {base : Heap} (T : Txt K mg) : Ok P w K mg base 48 "put_all" ["many", "put", "left"] (SpD (Pre_put_all 40)) := (okr_put_all T 40).mono (by decide)
end RO
namespace RO
/-! ### the first row -/
theorem mem_nxT {n : Nat} {r : Rl} {g : List Nat} {t : Nat} : t ∈ nxT n r g ↔ t < n ∧ t ∉ g ∧ ∀ a, a < n → r a t = true → a ∈ g := by
  unfold nxT
  rw [List.mem_filter, List.mem_range]
  constructor
  · rintro ⟨h1, h2⟩
    rw [Bool.and_eq_true] at h2
    refine ⟨h1, by simpa using h2.1, fun a ha hr => ?_⟩
    have := List.all_eq_true.mp h2.2 (a, t) (List.mem_filter.mpr ⟨mem_prs2.mpr ⟨ha, h1, hr⟩, by simp⟩)
    simpa using this
  · rintro ⟨h1, h2, h3⟩
    refine ⟨h1, ?_⟩
    rw [Bool.and_eq_true]
    refine ⟨by simpa using h2, List.all_eq_true.mpr fun p hp => ?_⟩
    obtain ⟨h4, h5⟩ := List.mem_filter.mp hp
    obtain ⟨h6, h7, h8⟩ := mem_prs.mp h4
    have e := of_decide_eq_true h5
    rw [e] at h8
    simpa using h3 p.1 h6 h8
theorem filter_lt {α : Type} {p q : α → Bool} {l : List α} (h : ∀ x ∈ l, p x = true → q x = true) {y : α} (hy : y ∈ l) (h1 : q y = true) (h2 : p y = false) : (l.filter p).length < (l.filter q).length := by
  induction l with
  | nil => cases hy
  | cons a l ih =>
    have hle : ∀ l : List α, (∀ x ∈ l, p x = true → q x = true) → (l.filter p).length ≤ (l.filter q).length := by
      intro l
      induction l with
      | nil => intro _; simp
      | cons a l ih =>
        intro h
        have := ih fun x hx => h x (List.mem_cons_of_mem _ hx)
        rw [List.filter_cons, List.filter_cons]
        have ha := h a List.mem_cons_self
        cases e1 : p a <;> cases e2 : q a
        · simpa using this
        · simp; omega
        · rw [e1, e2] at ha; exact absurd (ha rfl) (by decide)
        · simp; omega
    rw [List.filter_cons, List.filter_cons]
    rcases List.mem_cons.mp hy with z | z
    · subst z
      rw [h1, h2]
      have := hle l fun x hx => h x (List.mem_cons_of_mem _ hx)
      simp; omega
    · have i1 := ih (fun x hx => h x (List.mem_cons_of_mem _ hx)) z
      have ha := h a List.mem_cons_self
      cases e1 : p a <;> cases e2 : q a
      · simpa using i1
      · simp; omega
      · rw [e1, e2] at ha; exact absurd (ha rfl) (by decide)
      · simp; omega
theorem nxT_some {n : Nat} {r : Rl} (h : Po n r) (g : List Nat) : ∀ (k x : Nat), x < n → x ∉ g → ((List.range n).filter fun y => r y x && !decide (y ∈ g)).length ≤ k → ∃ t, t ∈ nxT n r g
  | k, x, hx, hg, hk => by
    by_cases e : ∀ a, a < n → r a x = true → a ∈ g
    · exact ⟨x, mem_nxT.mpr ⟨hx, hg, e⟩⟩
    · have : ∃ a, a < n ∧ r a x = true ∧ a ∉ g := by
        refine Classical.byContradiction fun q => e fun a ha hr => Classical.byContradiction fun z => q ⟨a, ha, hr, z⟩
      obtain ⟨a, ha, hr, hga⟩ := this
      have lt := filter_lt (p := fun y => r y a && !decide (y ∈ g)) (q := fun y => r y x && !decide (y ∈ g)) (l := List.range n) (fun y hy hp => by
        rw [Bool.and_eq_true] at hp ⊢
        exact ⟨h.tr y a x (List.mem_range.mp hy) ha hx hp.1 hr, hp.2⟩) (List.mem_range.mpr ha) (by simp [hr, hga]) (by simp [h.irr a ha])
      match k with
      | 0 => omega
      | k + 1 => exact nxT_some h g k a ha hga (by omega)
def frK (n : Nat) (r : Rl) : Nat → List Nat
  | 0 => []
  | i + 1 => frK n r i ++ [(nxT n r (frK n r i)).headD 0]
def fRow (n : Nat) (r : Rl) : List Nat := frK n r n
theorem frK_len (n : Nat) (r : Rl) : ∀ i, (frK n r i).length = i
  | 0 => rfl
  | i + 1 => by
    show (frK n r i ++ [_]).length = _
    rw [List.length_append, frK_len n r i]; rfl
structure Pfx (n : Nat) (r : Rl) (g : List Nat) : Prop where
  nd : g.Nodup
  lt : ∀ x ∈ g, x < n
  dn : ∀ a b, b ∈ g → a < n → r a b = true → a ∈ g ∧ g.idxOf a < g.idxOf b
theorem free_of {n : Nat} {g : List Nat} (nd : g.Nodup) (h : g.length < n) : ∃ x, x < n ∧ x ∉ g := by
  refine Classical.byContradiction fun q => ?_
  have : (List.range n).length ≤ g.length := nd_len _ _ List.nodup_range fun x hx => Classical.byContradiction fun z => q ⟨x, List.mem_range.mp hx, z⟩
  rw [List.length_range] at this
  omega
theorem frK_get {n : Nat} {r : Rl} (h : Po n r) {i : Nat} (hp : Pfx n r (frK n r i)) (hi : i < n) : (nxT n r (frK n r i))[0]? = some ((nxT n r (frK n r i)).headD 0) ∧ (nxT n r (frK n r i)).headD 0 ∈ nxT n r (frK n r i) := by
  obtain ⟨x, hx, hg⟩ := free_of hp.nd (by rw [frK_len]; exact hi)
  obtain ⟨t, ht⟩ := nxT_some h _ _ x hx hg (Nat.le_refl _)
  cases e : nxT n r (frK n r i) with
  | nil => rw [e] at ht; cases ht
  | cons a l => exact ⟨rfl, List.mem_cons_self⟩
theorem idx_app {a : Nat} {l m : List Nat} (h : a ∈ l) : (l ++ m).idxOf a = l.idxOf a := by
  rw [List.idxOf_append, if_pos h]
theorem idx_lt {a : Nat} {l : List Nat} (h : a ∈ l) : l.idxOf a < l.length := List.idxOf_lt_length_iff.mpr h
theorem frK_pfx {n : Nat} {r : Rl} (h : Po n r) : ∀ i, i ≤ n → Pfx n r (frK n r i)
  | 0, _ => ⟨List.nodup_nil, fun _ hx => (by cases hx), fun _ _ hb => (by cases hb)⟩
  | i + 1, hi => by
    have p := frK_pfx h i (by omega)
    obtain ⟨_, hm⟩ := frK_get h p (by omega)
    obtain ⟨h1, h2, h3⟩ := mem_nxT.mp hm
    have e : frK n r (i + 1) = frK n r i ++ [(nxT n r (frK n r i)).headD 0] := rfl
    rw [e]
    refine ⟨?_, fun x hx => ?_, fun a b hb ha hr => ?_⟩
    · rw [List.nodup_append]
      refine ⟨p.nd, by simp, fun x hx y hy => ?_⟩
      rw [List.mem_singleton] at hy
      subst hy
      exact fun z => h2 (z ▸ hx)
    · rcases List.mem_append.mp hx with z | z
      · exact p.lt x z
      · rw [List.mem_singleton] at z; rw [z]; exact h1
    · rcases List.mem_append.mp hb with z | z
      · obtain ⟨u, v⟩ := p.dn a b z ha hr
        refine ⟨List.mem_append_left _ u, ?_⟩
        rw [idx_app u, idx_app z]; exact v
      · rw [List.mem_singleton] at z
        rw [z] at hr
        have u := h3 a ha hr
        refine ⟨List.mem_append_left _ u, ?_⟩
        rw [idx_app u, z, List.idxOf_append, if_neg h2]
        have := idx_lt u
        omega
theorem perm_range {n : Nat} {g : List Nat} (nd : g.Nodup) (lt : ∀ x ∈ g, x < n) (len : g.length = n) : g.Perm (List.range n) := by
  refine (List.perm_ext_iff_of_nodup nd List.nodup_range).mpr fun a => ⟨fun h => List.mem_range.mpr (lt a h), fun h => ?_⟩
  refine Classical.byContradiction fun z => ?_
  have : (a :: g).length ≤ (List.range n).length := nd_len _ _ (List.nodup_cons.mpr ⟨z, nd⟩) fun x hx => by
    rcases List.mem_cons.mp hx with y | y
    · rw [y]; exact h
    · exact List.mem_range.mpr (lt x y)
  rw [List.length_cons, List.length_range] at this
  omega
theorem fRow_perm {n : Nat} {r : Rl} (h : Po n r) : (fRow n r).Perm (List.range n) := perm_range (frK_pfx h n (Nat.le_refl n)).nd (frK_pfx h n (Nat.le_refl n)).lt (frK_len n r n)
theorem fRow_ext {n : Nat} {r : Rl} (h : Po n r) {a b : Nat} (ha : a < n) (hb : b < n) (hr : r a b = true) : (fRow n r).idxOf a < (fRow n r).idxOf b :=
  ((frK_pfx h n (Nat.le_refl n)).dn a b ((fRow_perm h).mem_iff.mpr (List.mem_range.mpr hb)) ha hr).2
/-! ### the search is sound -/
theorem putA_sound (n : Nat) : ∀ (f : Nat) (put : List (List Pr)) (left : List Pr) (p : List (List Pr)), (∀ l ∈ put, PL n l) → (∀ t ∈ left, t.1 < n ∧ t.2 < n ∧ t.1 ≠ t.2) → putA n f put left = some p →
    p.length = put.length ∧ (∀ l ∈ p, PL n l) ∧ (∀ (i : Nat) l l', put[i]? = some l → p[i]? = some l' → ∀ q ∈ l, q ∈ l') ∧ ∀ t ∈ left, ∃ l ∈ p, (t.2, t.1) ∈ l
  | 0, put, left, p, _, _, e => by cases left <;> cases e
  | f + 1, put, [], p, h1, _, e => by
    cases e
    exact ⟨rfl, h1, fun i l l' a b q hq => by rw [a] at b; cases b; exact hq, fun t ht => by cases ht⟩
  | f + 1, put, b :: more, p, h1, h2, e => by
    have e' : (plc put (hrd put b (b :: more))).findSome? (fun k => if k = 0 ∨ put.getD k [] ≠ put.getD (k - 1) [] then putA n f (put.set k (addP n (put.getD k []) (hrd put b (b :: more)))) ((b :: more).filter fun o => !decide (o = hrd put b (b :: more))) else none) = some p := e
    obtain ⟨k, hk, hf⟩ := List.exists_of_findSome?_eq_some e'
    obtain ⟨k1, k2, k3⟩ := plc_mem hk
    by_cases hc : k = 0 ∨ put.getD k [] ≠ put.getD (k - 1) []
    · rw [if_pos hc] at hf
      have ht := h2 _ (hrd_in put (List.mem_cons_self (a := b) (l := more)))
      have hl := h1 _ (List.mem_of_getElem? k3)
      have hp2 : ∀ l ∈ put.set k (addP n (put.getD k []) (hrd put b (b :: more))), PL n l := fun l hl' => by
        rcases set_mem hl' with z | z
        · exact h1 l z
        · rw [z]; exact addP_PL hl ht.1 ht.2.1 ht.2.2 k2
      obtain ⟨a1, a2, a3, a4⟩ := putA_sound n f _ _ p hp2 (fun t z => h2 t (List.mem_filter.mp z).1) hf
      rw [List.length_set] at a1
      refine ⟨a1, a2, fun i l l' hi hi' q hq => ?_, fun t ht' => ?_⟩
      · by_cases ik : k = i
        · subst ik
          have e1 : (put.set k (addP n (put.getD k []) (hrd put b (b :: more))))[k]? = some (addP n (put.getD k []) (hrd put b (b :: more))) := List.getElem?_set_self k1
          refine a3 k _ _ e1 hi' q ?_
          rw [k3] at hi
          cases hi
          have hq' := hq
          rw [hl.eq] at hq'
          obtain ⟨q1, q2, q3⟩ := mem_prs.mp hq'
          exact (mem_addP (x := q.1) (y := q.2) q1 q2).mpr (adR_sub q3)
        · exact a3 i l l' (by rw [List.getElem?_set_ne ik]; exact hi) hi' q hq
      · by_cases e2 : t = hrd put b (b :: more)
        · have e1 : (put.set k (addP n (put.getD k []) (hrd put b (b :: more))))[k]? = some (addP n (put.getD k []) (hrd put b (b :: more))) := List.getElem?_set_self k1
          have kp : k < p.length := by omega
          refine ⟨p[k], List.getElem_mem kp, a3 k _ _ e1 (List.getElem?_eq_getElem kp) _ ?_⟩
          rw [e2]
          exact (mem_addP ht.2.1 ht.1).mpr adR_self
        · exact a4 t (List.mem_filter.mpr ⟨ht', by simpa using e2⟩)
    · rw [if_neg hc] at hf; cases hf
/-! ### and whole -/
/-- orders that go on from what the rows have, and turn all that is left -/
def Done (n : Nat) (put : List (List Pr)) (left : List Pr) (Q : List Rl) : Prop := Q.length = put.length ∧ (∀ S ∈ Q, Po n S) ∧ (∀ (i : Nat) l S, put[i]? = some l → Q[i]? = some S → ∀ q ∈ l, S q.1 q.2 = true) ∧ ∀ t ∈ left, ∃ S ∈ Q, S t.2 t.1 = true
theorem swap_get {α : Type} {Q : List α} {i k : Nat} {S T : α} (hi : Q[i]? = some S) (hk : Q[k]? = some T) (ne : i ≠ k) (j : Nat) : ((Q.set i T).set k S)[j]? = if j = k then some S else if j = i then some T else Q[j]? := by
  have li := (List.getElem?_eq_some_iff.mp hi).1
  have lk := (List.getElem?_eq_some_iff.mp hk).1
  by_cases e : j = k
  · subst e
    rw [if_pos rfl, List.getElem?_set_self (by rw [List.length_set]; exact lk)]
  · rw [if_neg e, List.getElem?_set_ne (Ne.symm e)]
    by_cases e2 : j = i
    · subst e2
      rw [if_pos rfl, List.getElem?_set_self li]
    · rw [if_neg e2, List.getElem?_set_ne (Ne.symm e2)]
theorem putA_whole (n : Nat) : ∀ (f : Nat) (put : List (List Pr)) (left : List Pr), left.length < f → (∀ l ∈ put, PL n l) → (∀ t ∈ left, t.1 < n ∧ t.2 < n ∧ t.1 ≠ t.2) → (∃ Q, Done n put left Q) → putA n f put left ≠ none
  | 0, _, left, h, _, _, _ => absurd h (Nat.not_lt_zero _)
  | f + 1, put, [], _, _, _, _ => by intro e; cases e
  | f + 1, put, b :: more, hf, h1, h2, ⟨Q0, D0⟩ => by
    intro e
    have e' : (plc put (hrd put b (b :: more))).findSome? (fun k => if k = 0 ∨ put.getD k [] ≠ put.getD (k - 1) [] then putA n f (put.set k (addP n (put.getD k []) (hrd put b (b :: more)))) ((b :: more).filter fun o => !decide (o = hrd put b (b :: more))) else none) = none := e
    have hall := List.findSome?_eq_none_iff.mp e'
    have hin : hrd put b (b :: more) ∈ b :: more := hrd_in put List.mem_cons_self
    have hlt : ((b :: more).filter fun o => !decide (o = hrd put b (b :: more))).length < (b :: more).length := by
      refine List.length_filter_lt_length_iff_exists.mpr ⟨_, hin, ?_⟩
      simp
    have ht := h2 _ hin
    have key : ∀ (i : Nat) (Q : List Rl) (S : Rl), Done n put (b :: more) Q → Q[i]? = some S → S (hrd put b (b :: more)).2 (hrd put b (b :: more)).1 = true → False := by
      intro i
      induction i with
      | zero =>
        intro Q S D hi hS
        have l0 : 0 < put.length := by rw [← D.1]; exact (List.getElem?_eq_some_iff.mp hi).1
        have g0 : put[0]? = some (put.getD 0 []) := by rw [List.getD_eq_getElem?_getD, List.getElem?_eq_getElem l0]; rfl
        have hS2 := D.2.1 S (List.mem_of_getElem? hi)
        have nin : hrd put b (b :: more) ∉ put.getD 0 [] := fun z => by
          have := D.2.2.1 0 _ S g0 hi _ z
          rw [hS2.asym ht.1 ht.2.1 this] at hS
          cases hS
        have hmem : 0 ∈ plc put (hrd put b (b :: more)) := List.mem_filter.mpr ⟨List.mem_range.mpr l0, by simpa using nin⟩
        have hn := hall 0 hmem
        rw [if_pos (.inl rfl)] at hn
        refine putA_whole n f _ _ (by omega) (fun l hl' => ?_) (fun t z => h2 t (List.mem_filter.mp z).1) ⟨Q, ?_, D.2.1, fun j l T hj hT q hq => ?_, fun t z => D.2.2.2 t (List.mem_filter.mp z).1⟩ hn
        · rcases set_mem hl' with z | z
          · exact h1 l z
          · rw [z]; exact addP_PL (h1 _ (List.mem_of_getElem? g0)) ht.1 ht.2.1 ht.2.2 nin
        · rw [List.length_set]; exact D.1
        · by_cases e0 : 0 = j
          · subst e0
            rw [List.getElem?_set_self l0] at hj
            cases hj
            rw [hi] at hT
            cases hT
            obtain ⟨q1, q2, q3⟩ := mem_prs.mp hq
            exact adR_least hS2 (fun x y hx hy hxy => D.2.2.1 0 _ S g0 hi (x, y) (inL_iff.mp hxy)) ht.1 ht.2.1 hS q1 q2 q3
          · rw [List.getElem?_set_ne e0] at hj
            exact D.2.2.1 j l T hj hT q hq
      | succ i ih =>
        intro Q S D hi hS
        have l0 : i + 1 < put.length := by rw [← D.1]; exact (List.getElem?_eq_some_iff.mp hi).1
        have g0 : put[i + 1]? = some (put.getD (i + 1) []) := by rw [List.getD_eq_getElem?_getD, List.getElem?_eq_getElem l0]; rfl
        have g1 : put[i]? = some (put.getD i []) := by rw [List.getD_eq_getElem?_getD, List.getElem?_eq_getElem (show i < put.length by omega)]; rfl
        have hS2 := D.2.1 S (List.mem_of_getElem? hi)
        have nin : hrd put b (b :: more) ∉ put.getD (i + 1) [] := fun z => by
          have := D.2.2.1 (i + 1) _ S g0 hi _ z
          rw [hS2.asym ht.1 ht.2.1 this] at hS
          cases hS
        by_cases sm : put.getD (i + 1) [] = put.getD i []
        · have lq : i < Q.length := by rw [D.1]; omega
          obtain ⟨T, hT⟩ : ∃ T, Q[i]? = some T := ⟨_, List.getElem?_eq_getElem lq⟩
          have sg := swap_get hT hi (show i ≠ i + 1 by omega)
          refine ih ((Q.set i S).set (i + 1) T) S ⟨?_, fun U hU => ?_, fun j l U hj hU q hq => ?_, fun t z => ?_⟩ ?_ hS
          · rw [List.length_set, List.length_set]; exact D.1
          · rcases set_mem hU with z | z
            · rcases set_mem z with y | y
              · exact D.2.1 U y
              · rw [y]; exact hS2
            · rw [z]; exact D.2.1 T (List.mem_of_getElem? hT)
          · rw [sg j] at hU
            by_cases c1 : j = i + 1
            · rw [if_pos c1] at hU
              cases hU
              rw [c1, g0] at hj
              cases hj
              rw [sm] at hq
              exact D.2.2.1 i _ T g1 hT q hq
            · rw [if_neg c1] at hU
              by_cases c2 : j = i
              · rw [if_pos c2] at hU
                cases hU
                rw [c2, g1] at hj
                cases hj
                rw [← sm] at hq
                exact D.2.2.1 (i + 1) _ S g0 hi q hq
              · rw [if_neg c2] at hU
                exact D.2.2.1 j l U hj hU q hq
          · obtain ⟨U, hU, hu⟩ := D.2.2.2 t z
            obtain ⟨j, hj⟩ := List.mem_iff_getElem?.mp hU
            refine ⟨U, ?_, hu⟩
            by_cases c1 : j = i + 1
            · rw [c1, hi] at hj
              cases hj
              refine List.mem_of_getElem? (i := i) ?_
              rw [sg i, if_neg (by omega), if_pos rfl]
            · by_cases c2 : j = i
              · rw [c2, hT] at hj
                cases hj
                refine List.mem_of_getElem? (i := i + 1) ?_
                rw [sg (i + 1), if_pos rfl]
              · refine List.mem_of_getElem? (i := j) ?_
                rw [sg j, if_neg c1, if_neg c2]; exact hj
          · rw [sg i, if_neg (by omega), if_pos rfl]
        · have hmem : i + 1 ∈ plc put (hrd put b (b :: more)) := List.mem_filter.mpr ⟨List.mem_range.mpr l0, by simpa using nin⟩
          have hn := hall (i + 1) hmem
          rw [if_pos (.inr sm)] at hn
          refine putA_whole n f _ _ (by omega) (fun l hl' => ?_) (fun t z => h2 t (List.mem_filter.mp z).1) ⟨Q, ?_, D.2.1, fun j l T hj hT q hq => ?_, fun t z => D.2.2.2 t (List.mem_filter.mp z).1⟩ hn
          · rcases set_mem hl' with z | z
            · exact h1 l z
            · rw [z]; exact addP_PL (h1 _ (List.mem_of_getElem? g0)) ht.1 ht.2.1 ht.2.2 nin
          · rw [List.length_set]; exact D.1
          · by_cases e0 : i + 1 = j
            · subst e0
              rw [List.getElem?_set_self l0] at hj
              cases hj
              rw [hi] at hT
              cases hT
              obtain ⟨q1, q2, q3⟩ := mem_prs.mp hq
              exact adR_least hS2 (fun x y hx hy hxy => D.2.2.1 (i + 1) _ S g0 hi (x, y) (inL_iff.mp hxy)) ht.1 ht.2.1 hS q1 q2 q3
            · rw [List.getElem?_set_ne e0] at hj
              exact D.2.2.1 j l T hj hT q hq
    obtain ⟨S, hS, hs⟩ := D0.2.2.2 _ hin
    obtain ⟨i, hi⟩ := List.mem_iff_getElem?.mp hS
    exact key i Q0 S D0 hi hs
end RO
namespace RO
open PySem PySem.Spec PyProof.Rows L2
local macro_rules | `(tactic| walk_at "ln") => `(tactic| (first | assumption | omega | (simp only [List.mem_range, List.length_range, List.length_map, List.length_append, List.length_cons, List.length_nil] at *; omega)))
section
variable {K : PySem.W.Frag} {ss : List Sl} {te : TE} {k : Ks}
/-- x = list(y): an own list from here on -/
theorem T_newCp {i : Nat} (h : W te ss fun x => ∃ ds, (x = .list ds ∨ x = .tuple ds) ∧ k.nx (ss.set i (.own (.lst ds)))) : Tt (tAsg (tCB (rListQ K) (tCons te tNil)) (gName i)) ss k := fun nw mt F H σ D C p =>
  h F H nw mt σ C.fh C.sl _ fun v F2 H2 d ⟨ds, e, hk⟩ g dv => by
    have C2 := C.grow g
    have key : ∀ (a : Addr) (xs : List V), H2 a = none → ds.length ≤ 100000 → DnAll F2 xs ds → k.nx (ss.set i (.own (.lst ds))) → D.nx (σ.set i (some (.ref a))) (upd H2 a (.lst xs)) := fun a xs ha hl hd hk => by
      have hn : nw a := by
        by_cases z : nw a
        · exact z
        · exact absurd ha (C2.al a z)
      have hF : F2 a = none := Gr.fresh g.fh ha
      refine p.nx F2 (upd H2 a (.lst xs)) _ _ hk ((C.gs g).trans (Gs.of C2.al (Gr.new' g.fh ha))) ⟨(Gr.new' (M := M0) g.fh ha).fh, C2.sl.newO i hF hn ha g.fh ⟨hl, xs, upd_same, hd⟩, fun b n => ?_, C.ov⟩
      exact (Gr.new' (M := M0) (o := .lst xs) g.fh ha).dm b (C2.al b n)
    rcases e with rfl | rfl
    · obtain ⟨b, ys, rfl, h1, hl, hd⟩ := inv_lst dv
      exact ⟨b, ys, rfl, .inl (SqL.of (g.fh _ _ h1)), fun l hl' => key l ys hl' hl hd hk⟩
    · obtain ⟨b, ys, rfl, h1, hl, hd⟩ := inv_tup dv
      exact ⟨b, ys, rfl, .inr (SqT.of (g.fh _ _ h1)), fun l hl' => key l ys hl' hl hd hk⟩
end
def Pre_first_row_of : List PyData → (Sl → Prop) → Prop := fun ds R => ∃ (n : Nat), ∃ (r : Rl), (n ≤ 6) ∧ (Po n r) ∧ ds = [eO n r] ∧ R = one (eTN (fRow n r))
theorem V_first_row_of {E : XK} {ss : List Sl} {t0 : TE} {n : Nat} {r : Rl} (k0 : Wd t0 ss (eO n r)) (h1 : n ≤ 6 := by walk_at "ln") (h2 : Po n r := by walk_at "ln") : Wd (tCall (SpD Pre_first_row_of) [] E (tCons t0 tNil)) ss (eTN (fRow n r)) := W_call (WA_cons (k0.to (WA_nil ⟨_, ⟨n, r, h1, h2, rfl, rfl⟩, fun s hs => ⟨_, hs, rfl⟩⟩)))
theorem ok_first_row_of {P : Program} {w : World} {K : PySem.W.Frag} {mg : Str → Option Value} {base : Heap} (T : Txt K mg) : Ok P w K mg base 2 "first_row_of" ["order"] (SpD Pre_first_row_of) := by
  obtain ⟨f, fd, F, bb, m⟩ := T.d_first_row_of
  refine ⟨f, fd, m, F.kp, bb, fnD F sc_first_row_of (fun ds R h => by obtain ⟨n, r, _, _, rfl, _⟩ := h; rfl) fun cdv A outer s H E ds R hr h => ?_⟩
  obtain ⟨n, r, h1, h2, rfl, rfl⟩ := h
  refine ⟨_, (pss_cons (ps_set (i := 1) sc_first_row_of.nd rfl (.inl rfl) (pe_lst pa_nil))
      (pss_cons (ps_while PassesOwn.never (pt_cmpR op_lt (pe_callB c_len (by rfl) T.b_len (by decide +kernel) (pa_cons (pv 1) pa_nil)) (pe_ix (kx_tup K) (pv 0) pe_int (fun _ _ => rfl)) (nomark _)) (pss_one (ps_expr (pe_bm PySem.F.plainAttrs_list PySem.F.slot_list_append PySem.F.type_list_append mt_append (pv 1) (pa_cons (pe_ix (kx_list K) (pe_callN (ok_next_things T) (hr.mono (by decide)) (by rfl) (pa_cons (pv 0) (pa_cons (pv 1) pa_nil))) pe_int (fun _ _ => rfl)) pa_nil)))))
      (pss_one (ps_ret (pe_callTy c_tupleR (by rfl) T.b_tuple (by decide +kernel) (pa_cons (pv 1) pa_nil)))))), ?_⟩
  refine T_seq (T_newL (WA_nil ⟨by show 0 ≤ 100000; omega, ?_⟩))
  refine T_seq (T_while (fun m ss => ∃ i, m = n - i ∧ i ≤ n ∧ ss = [.dat (eO n r), .own (.lst ((frK n r i).map eN))]) n ⟨0, rfl, Nat.zero_le n, rfl⟩ ?_)
  rintro m ss' ⟨i, rfl, hi, rfl⟩
  refine WTd.to (VT_fz (VT_t (V_ltN (V_lenL (f := eN) (V_var rfl)) (V_o0 (V_var rfl))))) ?_
  rw [frK_len]
  by_cases e : i < n
  · rw [decide_eq_true e]
    obtain ⟨g1, g2⟩ := frK_get h2 (frK_pfx h2 i hi) e
    refine iteT (T_app rfl ?_ (Wd.to (V_fz (V_ixL (f := eN) (V_next_things (V_var rfl) (V_var rfl) h1) (V_nat 0) g1)) ?_))
    · rw [List.length_map, frK_len]; omega
    · exact ⟨n - (i + 1), by omega, i + 1, rfl, e, by dsimp only [List.set]; rw [show frK n r (i + 1) = frK n r i ++ [(nxT n r (frK n r i)).headD 0] from rfl, List.map_append]; rfl⟩
  · rw [decide_eq_false e]
    have e' : i = n := by omega
    subst e'
    exact iteF (T_frz 1 rfl (T_ret (Wd.to (V_tupleR (V_var rfl)) rfl)))
def eOR : Option (List (List Nat)) → PyData
  | none => .none
  | some p => eLR p
theorem sh_ok {n : Nat} {r : Rl} {t : Pr} (h : t ∈ prs n (shR n r)) : t.1 < n ∧ t.2 < n ∧ t.1 ≠ t.2 := by
  obtain ⟨h1, h2, h3⟩ := mem_prs.mp h
  refine ⟨h1, h2, fun e => ?_⟩
  unfold shR apR at h3
  rw [e] at h3
  simp at h3
/-- the rows by search -/
def rbs (n : Nat) (r : Rl) (c : Nat) : Option (List (List Nat)) := (putA n 40 (List.replicate c (prs n r)) (prs n (shR n r))).map fun p => p.map fun l => fRow n (inL l)
def Pre_rows_by_search : List PyData → (Sl → Prop) → Prop := fun ds R => ∃ (n : Nat), ∃ (r : Rl), ∃ (c : Nat), (n ≤ 6) ∧ (Po n r) ∧ (c ≤ 8) ∧ ds = [eO n r, eN c] ∧ R = one (eOR (rbs n r c))
theorem V_rows_by_search {E : XK} {ss : List Sl} {t0 t1 : TE} {n : Nat} {r : Rl} {c : Nat} (k0 : Wd t0 ss (eO n r)) (k1 : Wd t1 ss (eN c)) (h1 : n ≤ 6 := by walk_at "ln") (h2 : Po n r := by walk_at "ln") (h3 : c ≤ 8 := by walk_at "ln") : Wd (tCall (SpD Pre_rows_by_search) [] E (tCons t0 (tCons t1 tNil))) ss (eOR (rbs n r c)) := W_call (WA_cons (k0.to (WA_cons (k1.to (WA_nil ⟨_, ⟨n, r, c, h1, h2, h3, rfl, rfl⟩, fun s hs => ⟨_, hs, rfl⟩⟩)))))
theorem ok_rows_by_search {P : Program} {w : World} {K : PySem.W.Frag} {mg : Str → Option Value} {base : Heap} (T : Txt K mg) : Ok P w K mg base 49 "rows_by_search" ["order", "count"] (SpD Pre_rows_by_search) := by
  obtain ⟨f, fd, F, bb, m⟩ := T.d_rows_by_search
  refine ⟨f, fd, m, F.kp, bb, fnD F sc_rows_by_search (fun ds R h => by obtain ⟨n, r, c, _, _, _, rfl, _⟩ := h; rfl) fun cdv A outer s H E ds R hr h => ?_⟩
  obtain ⟨n, r, c, h1, h2, h3, rfl, rfl⟩ := h
  refine ⟨_, (pss_cons (ps_set (i := 2) sc_rows_by_search.nd rfl (.inl rfl) (pe_callN (ok_put_all T) (hr.mono (by decide)) (by rfl) (pa_cons (pe_ix (kx_tup K) (pv 0) pe_int (fun _ _ => rfl)) (pa_cons (pe_op op_rep (pe_lst (pa_cons (pe_ix (kx_tup K) (pv 0) pe_int (fun _ _ => rfl)) pa_nil)) (pv 1)) (pa_cons (pe_callN (ok_sharp_of T) (hr.mono (by decide)) (by rfl) (pa_cons (pv 0) pa_nil)) pa_nil)))))
      (pss_cons (ps_if (pt_cmp (pc_isN (pv 2)) rfl) (pss_one (ps_ret pe_non)) pss_nil)
      (pss_one (ps_ret (pe_lc (own := [("pairs", 3)]) (g := gName 3) (tt := tYes) rfl sc_rows_by_search.nd (pi_list (pv 2)) (blkOk_by (own := [("pairs", 3)]) (N := n_rows_by_search) (sc := defScope s_rows_by_search) (by decide +kernel)) (fun _ _ _ _ _ => (pg_name (i := 3) sc_rows_by_search.nd rfl (.inl rfl))) (fun _ _ _ _ _ => pts_nil) (fun _ _ _ _ _ => (pe_callN (ok_first_row_of T) (hr.mono (by decide)) (by rfl) (pa_cons (pe_tup (pa_cons (pe_ix (kx_tup K) (pv 0) pe_int (fun _ _ => rfl)) (pa_cons (pv 3) pa_nil))) pa_nil)))))))), ?_⟩
  have hb := prs36 (n := n) (R := shR n r) h1
  have hPL : ∀ l ∈ List.replicate c (prs n r), PL n l := fun l hl => by
    rw [(List.mem_replicate.mp hl).2]
    exact PL.of h2
  refine T_seq (T_asg (Wd.to (V_put_all (j := 40) (V_o0 (V_var rfl)) (V_rep (f := eTP) (V_lst1 (f := eTP) (V_o1 (V_var rfl))) (V_var rfl) (by omega)) (V_sharp_of (V_var rfl) h1) (by omega) h1 (by rw [List.length_replicate]; omega) hPL (fun t ht => sh_ok ht) (by omega)) ?_))
  refine T_seq (T_if (WTd.to (VT_B (V_isN (V_var rfl))) ?_))
  rw [isND_eOL]
  unfold rbs
  cases er : putA n 40 (List.replicate c (prs n r)) (prs n (shR n r)) with
  | none => exact iteT (T_ret (Wd.to V_non rfl))
  | some p =>
    obtain ⟨p1, p2, p3, p4⟩ := putA_sound n _ _ _ p hPL (fun t ht => sh_ok ht) er
    rw [List.length_replicate] at p1
    refine iteF (T_next (T_ret (Wd.to (V_lcM1 (enc := eTP) (gg := fun l => eTN (fRow n (inL l))) (VI_list (V_var rfl)) (by omega) fun v hv => ?_) ?_)))
    · refine V_first_row_of (r := inL v) (V_order (V_o0 (V_var rfl)) ?_) h1 (p2 v hv).po
      rw [← (p2 v hv).eq]
      exact V_var rfl
    · show Sl.dat (.list (p.map _)) = Sl.dat (.list ((p.map _).map eTN))
      rw [List.map_map]
      rfl
/-- what row_behind gathers -/
def rbP (n : Nat) (r : Rl) (chain : List Nat) : List Pr := prs n r ++ chain.flatMap fun l => ((List.range n).filter fun t => apR r t l).map fun t => (t, l)
theorem ap_len {n : Nat} {r : Rl} {l : Nat} (hn : n ≤ 6) (hl : l < n) : ((List.range n).filter fun t => apR r t l).length ≤ 5 := by
  refine Nat.le_trans (nd_len _ ((List.range n).filter fun a => !decide (a = l)) (List.nodup_range.filter _) fun x hx => ?_) (off_len n hn l hl)
  obtain ⟨h1, h2⟩ := List.mem_filter.mp hx
  refine List.mem_filter.mpr ⟨h1, ?_⟩
  unfold apR at h2
  by_cases e : x = l
  · rw [e] at h2; simp at h2
  · simp [e]
theorem rb_len {n : Nat} {r : Rl} (hn : n ≤ 6) : ∀ (c : List Nat), (∀ l ∈ c, l < n) → (c.flatMap fun l => ((List.range n).filter fun t => apR r t l).map fun t => (t, l)).length ≤ c.length * 5
  | [], _ => by simp
  | a :: c, h => by
    have ih := rb_len (r := r) hn c fun l hl => h l (List.mem_cons_of_mem _ hl)
    have := ap_len (r := r) hn (h a List.mem_cons_self)
    rw [List.flatMap_cons, List.length_append, List.length_map, List.length_cons]
    omega
abbrev rbR (n : Nat) (r : Rl) (chain : List Nat) : Rl := clo n (inL (rbP n r chain))
def Pre_row_behind : List PyData → (Sl → Prop) → Prop := fun ds R => ∃ (n : Nat), ∃ (r : Rl), ∃ (chain : List Nat), (n ≤ 6) ∧ (Po n r) ∧ (chain.length ≤ 6) ∧ (∀ l ∈ chain, l < n) ∧ (∀ a, a < n → rbR n r chain a a = false) ∧ ds = [eO n r, eLN chain] ∧ R = one (eTN (fRow n (rbR n r chain)))
theorem V_row_behind {E : XK} {ss : List Sl} {t0 t1 : TE} {n : Nat} {r : Rl} {chain : List Nat} (k0 : Wd t0 ss (eO n r)) (k1 : Wd t1 ss (eLN chain)) (h1 : n ≤ 6 := by walk_at "ln") (h2 : Po n r := by walk_at "ln") (h3 : chain.length ≤ 6 := by walk_at "ln") (h4 : ∀ l ∈ chain, l < n := by walk_at "ln") (h5 : ∀ a, a < n → rbR n r chain a a = false := by walk_at "ln") : Wd (tCall (SpD Pre_row_behind) [] E (tCons t0 (tCons t1 tNil))) ss (eTN (fRow n (rbR n r chain))) := W_call (WA_cons (k0.to (WA_cons (k1.to (WA_nil ⟨_, ⟨n, r, chain, h1, h2, h3, h4, h5, rfl, rfl⟩, fun s hs => ⟨_, hs, rfl⟩⟩)))))
theorem ok_row_behind {P : Program} {w : World} {K : PySem.W.Frag} {mg : Str → Option Value} {base : Heap} (T : Txt K mg) : Ok P w K mg base 3 "row_behind" ["order", "chain"] (SpD Pre_row_behind) := by
  obtain ⟨f, fd, F, bb, m⟩ := T.d_row_behind
  refine ⟨f, fd, m, F.kp, bb, fnD F sc_row_behind (fun ds R h => by obtain ⟨n, r, chain, _, _, _, _, _, rfl, _⟩ := h; rfl) fun cdv A outer s H E ds R hr h => ?_⟩
  obtain ⟨n, r, chain, h1, h2, h3, h4, h5, rfl, rfl⟩ := h
  refine ⟨_, (pss_cons (ps_set (i := 2) sc_row_behind.nd rfl (.inl rfl) (pe_callTy c_list (by rfl) T.b_list (by decide +kernel) (pa_cons (pe_ix (kx_tup K) (pv 0) pe_int (fun _ _ => rfl)) pa_nil)))
      (pss_cons (ps_for PassesOwn.never rfl (pi_list (pv 1)) (pg_name (i := 3) sc_row_behind.nd rfl (.inr rfl)) (pss_one (ps_expr (pe_bm PySem.F.plainAttrs_list PySem.F.slot_list_extend PySem.F.type_list_extend mt_extend (pv 2) (pa_cons (pe_lc (own := [("thing", 4)]) (g := gName 4)  rfl sc_row_behind.nd (pi_range1 rfl T.b_range (pa_cons (pe_ix (kx_tup K) (pv 0) pe_int (fun _ _ => rfl)) pa_nil)) (blkOk_by (own := [("thing", 4)]) (N := n_row_behind) (sc := defScope s_row_behind) (by decide +kernel)) (fun _ _ _ _ _ => (pg_name (i := 4) sc_row_behind.nd rfl (.inl rfl))) (fun _ _ _ _ _ => pts_one (pt_val (pe_callN (ok_are_apart T) (hr.mono (by decide)) (by rfl) (pa_cons (pv 0) (pa_cons (pv 4) (pa_cons (pv 3) pa_nil)))))) (fun _ _ _ _ _ => (pe_tup (pa_cons (pv 4) (pa_cons (pv 3) pa_nil))))) pa_nil)))))
      (pss_one (ps_ret (pe_callN (ok_first_row_of T) (hr.mono (by decide)) (by rfl) (pa_cons (pe_tup (pa_cons (pe_ix (kx_tup K) (pv 0) pe_int (fun _ _ => rfl)) (pa_cons (pe_callN (ok_closed T) (hr.mono (by decide)) (by rfl) (pa_cons (pe_ix (kx_tup K) (pv 0) pe_int (fun _ _ => rfl)) (pa_cons (pv 2) pa_nil))) pa_nil))) pa_nil)))))), ?_⟩
  have hb := irr_len h1 h2.irr
  have hlen : ∀ i, (prs n r ++ (chain.take i).flatMap fun l => ((List.range n).filter fun t => apR r t l).map fun t => (t, l)).length ≤ 60 := fun i => by
    have := rb_len (r := r) h1 (chain.take i) fun l hl => h4 l (List.mem_of_mem_take hl)
    rw [List.length_append]
    rw [List.length_take] at this
    omega
  refine T_seq (T_newCp (Wd.to (V_o1 (V_var rfl)) ⟨_, .inr rfl, ?_⟩))
  refine T_seq (T_for [3] ((VI_list (V_var rfl)).to ⟨fun i ss => ∃ y3 y4, ss = [.dat (eO n r), .dat (eLN chain), .own (.lst ((prs n r ++ (chain.take i).flatMap fun l => ((List.range n).filter fun t => apR r t l).map fun t => (t, l)).map eP)), y3, y4], ⟨.no, .no, ?_⟩, ?_, ?_⟩))
  · simp [slots]
  · rintro i d ss' hd ⟨y3, y4, rfl⟩
    obtain ⟨l, hl, _, rfl⟩ := map_get hd
    have hln := h4 l (List.mem_of_getElem? hl)
    have step : chain.take (i + 1) = chain.take i ++ [l] := by
      obtain ⟨hi, e⟩ := List.getElem?_eq_some_iff.mp hl
      rw [← List.take_append_getElem hi, e]
    have hi1 := hlen (i + 1)
    rw [step, List.flatMap_append, List.flatMap_singleton, ← List.append_assoc, List.length_append] at hi1
    refine WG_name (T_ext rfl (Wd.to (V_lcF1 (enc := eN) (VI_rng (V_o0 (V_var rfl)) (by omega)) (by rw [List.length_range]; omega) (fun v hv => VT_B (V_are_apart (V_var rfl) (V_var rfl) (V_var rfl) (List.mem_range.mp hv) hln)) (fun v hv hp => V_pair (V_var rfl) (V_var rfl))) ⟨_, rfl, ?_, ?_⟩))
    · rw [List.length_map] at hi1
      rw [List.length_map, List.length_map]
      omega
    · dsimp only
      rw [step, List.flatMap_append, List.flatMap_singleton]
      refine ⟨.dat (eN l), y4, ?_⟩
      simp [List.map_append, List.map_map, Function.comp_def]
  · rintro ss' ⟨y3, y4, rfl⟩
    have hf := hlen chain.length
    rw [List.take_length] at hf
    rw [List.length_map, List.take_length]
    refine T_frz 2 rfl (T_ret (Wd.to (V_first_row_of (r := rbR n r chain) (V_order (V_o0 (V_var rfl)) (V_closed (n := n) (ps := rbP n r chain) (V_o0 (V_var rfl)) (V_var rfl) h1 (by show (rbP n r chain).length < 64; unfold rbP; omega) ?_ h5)) h1 ⟨h5, fun a b c ha hb hc u v => clo_tr hb u v⟩) rfl))
    intro p hp
    rcases List.mem_append.mp hp with z | z
    · exact ⟨(mem_prs.mp z).1, (mem_prs.mp z).2.1⟩
    · obtain ⟨l, hl, hz⟩ := List.mem_flatMap.mp z
      obtain ⟨t, ht, rfl⟩ := List.mem_map.mp hz
      exact ⟨List.mem_range.mp (List.mem_filter.mp ht).1, h4 l hl⟩
end RO
namespace RO
open PySem PySem.Spec PyProof.Rows L2
local macro_rules | `(tactic| walk_at "ln") => `(tactic| (first | assumption | omega | (simp only [List.mem_range, List.length_range, List.length_map, List.length_append, List.length_cons, List.length_nil] at *; omega)))
abbrev kys (kvs : List (Pr × PyData)) : List Pr := kvs.map (·.1)
theorem kys_app (kvs : List (Pr × PyData)) (x : Pr × PyData) : kys (kvs ++ [x]) = kys kvs ++ [x.1] := List.map_append
theorem kys_cons (kvs : List (Pr × PyData)) (x : Pr × PyData) : kys (x :: kvs) = x.1 :: kys kvs := rfl
/-- what came_from knows at each moment -/
structure Came (l : List Pr) (s : Pr) (kvs : List (Pr × PyData)) : Prop where
  nd : (kys kvs).Nodup
  sub : ∀ q ∈ kys kvs, q ∈ l
  hd : kvs[0]? = some (s, .none)
  par : ∀ (i : Nat) q d, kvs[i + 1]? = some (q, d) → ∃ (j : Nat) (p : Pr) (e : PyData), j ≤ i ∧ kvs[j]? = some (p, e) ∧ d = eP p ∧ fcB l p q = true
/-- all that the first i ones force have come -/
def Past (l : List Pr) (kvs : List (Pr × PyData)) (i : Nat) : Prop := ∀ j p e, j < i → kvs[j]? = some (p, e) → ∀ q ∈ l, fcB l p q = true → q ∈ kys kvs
theorem Came.len {l : List Pr} {s : Pr} {kvs : List (Pr × PyData)} (h : Came l s kvs) : kvs.length ≤ l.length := by
  have := nd_len _ l h.nd h.sub
  rwa [List.length_map] at this
theorem Came.add {l : List Pr} {s : Pr} {kvs : List (Pr × PyData)} (h : Came l s kvs) {j : Nat} {p q : Pr} {e : PyData} (hj : kvs[j]? = some (p, e)) (hq : q ∈ l) (hf : fcB l p q = true) (hn : q ∉ kys kvs) : Came l s (kvs ++ [(q, eP p)]) where
  nd := by
    rw [kys_app, List.nodup_append]
    refine ⟨h.nd, by simp, fun a ha b hb => ?_⟩
    simp only [List.mem_singleton] at hb
    exact fun z => hn (by rw [← hb, ← z]; exact ha)
  sub a ha := by
    rw [kys_app] at ha
    rcases List.mem_append.mp ha with z | z
    · exact h.sub a z
    · simp only [List.mem_singleton] at z
      rw [z]; exact hq
  hd := by
    have : 0 < kvs.length := (List.getElem?_eq_some_iff.mp h.hd).1
    rw [List.getElem?_append_left this]; exact h.hd
  par i a d hi := by
    by_cases hlt : i + 1 < kvs.length
    · rw [List.getElem?_append_left hlt] at hi
      obtain ⟨k, p', e', h1, h2, h3, h4⟩ := h.par i a d hi
      exact ⟨k, p', e', h1, by rw [List.getElem?_append_left (by omega)]; exact h2, h3, h4⟩
    · have hl : i + 1 = kvs.length := by
        have := (List.getElem?_eq_some_iff.mp hi).1
        rw [List.length_append, List.length_singleton] at this
        omega
      rw [hl, List.getElem?_append_right (Nat.le_refl _), Nat.sub_self] at hi
      cases hi
      have hjl := (List.getElem?_eq_some_iff.mp hj).1
      exact ⟨j, p, e, by omega, by rw [List.getElem?_append_left hjl]; exact hj, rfl, hf⟩
theorem Past.add {l : List Pr} {kvs : List (Pr × PyData)} {i : Nat} (h : Past l kvs i) (hi : i ≤ kvs.length) (x : Pr × PyData) : Past l (kvs ++ [x]) i := fun j p e hj hg q hq hf => by
  rw [List.getElem?_append_left (by omega)] at hg
  rw [kys_app]
  exact List.mem_append_left _ (h j p e hj hg q hq hf)
theorem vl_at {l : List Pr} {s : Pr} {kvs : List (Pr × PyData)} (h : Came l s kvs) {i : Nat} {q : Pr} {d : PyData} (hi : kvs[i]? = some (q, d)) : vl kvs q = some d := by
  have nd := h.nd
  clear h
  induction kvs generalizing i with
  | nil => cases hi
  | cons a kvs ih =>
    rw [vl_cons]
    cases i with
    | zero => cases hi; exact if_pos rfl
    | succ i =>
      have hi' : kvs[i]? = some (q, d) := by simpa using hi
      rw [kys_cons, List.nodup_cons] at nd
      rw [if_neg (fun z => nd.1 (by rw [z]; exact List.mem_map.mpr ⟨_, List.mem_of_getElem? hi', rfl⟩))]
      exact ih hi' nd.2
def Pre_came_from : List PyData → (Sl → Prop) → Prop := fun ds R => ∃ (l : List Pr) (s : Pr), l.length ≤ 100 ∧ s ∈ l ∧ ds = [eLP l, eP s] ∧ R = fun v => ∃ kvs, v = .own (.dT kvs) ∧ Came l s kvs ∧ Past l kvs kvs.length
theorem ok_came_from {P : Program} {w : World} {K : PySem.W.Frag} {mg : Str → Option Value} {base : Heap} (T : Txt K mg) : Ok P w K mg base 3 "came_from" ["some", "start"] (SpD Pre_came_from) := by
  obtain ⟨f, fd, F, bb, m⟩ := T.d_came_from
  refine ⟨f, fd, m, F.kp, bb, fnD F sc_came_from (fun ds R h => by obtain ⟨l, s, _, _, rfl, _⟩ := h; rfl) fun cdv A outer s H E ds R hr h => ?_⟩
  obtain ⟨l, s0, h1, h2, rfl, rfl⟩ := h
  refine ⟨_, (pss_cons (ps_set (i := 2) sc_came_from.nd rfl (.inl rfl) (pe_disp1T (hu_of hr) (pv 1) pe_non))
      (pss_cons (ps_set (i := 3) sc_came_from.nd rfl (.inl rfl) (pe_lst (pa_cons (pv 1) pa_nil)))
      (pss_cons (ps_set (i := 4) sc_came_from.nd rfl (.inl rfl) pe_int)
      (pss_cons (ps_while PassesOwn.never (pt_cmpR op_lt (pv 4) (pe_callB c_len (by rfl) T.b_len (by decide +kernel) (pa_cons (pv 3) pa_nil)) (nomark _)) (pss_cons (ps_for PassesOwn.never rfl (pi_list (pe_callN (ok_forced_of T) (hr.mono (by decide)) (by rfl) (pa_cons (pv 0) (pa_cons (pe_ix (kx_list K) (pv 3) (pv 4) (fun _ _ => rfl)) pa_nil)))) (pg_name (i := 5) sc_came_from.nd rfl (.inl rfl)) (pss_one (ps_if (pt_cmp (pc_dnotin (hu_of hr) (pv 5) (pv 2))) (pss_cons (ps_dput (hu_of hr) (pv 2) (pv 5) (pe_ix (kx_list K) (pv 3) (pv 4) (fun _ _ => rfl)) rfl)
      (pss_one (ps_expr (pe_bm PySem.F.plainAttrs_list PySem.F.slot_list_append PySem.F.type_list_append mt_append (pv 3) (pa_cons (pv 5) pa_nil))))) pss_nil)))
      (pss_one (ps_set (i := 4) sc_came_from.nd rfl (.inl rfl) (pe_op op_add (pv 4) pe_int)))))
      (pss_one (ps_ret (pv 2))))))), ?_⟩
  have c0 : Came l s0 [(s0, .none)] := ⟨by simp, fun q hq => by simp at hq; rw [hq]; exact h2, rfl, fun i q d hi => by simp at hi⟩
  refine T_seq (T_dispT (Wd.to (V_var rfl) (Wd.to V_non ⟨s0, rfl, ?_⟩)))
  refine T_seq (T_newL (WA_cons (Wd.to (V_var rfl) (WA_nil ⟨by show 1 ≤ 100000; omega, ?_⟩))))
  refine T_seq (T_asg (Wd.to (V_nat 0) ?_))
  refine T_seq (T_while (fun mm ss => ∃ i kvs y5, mm = l.length - i ∧ i ≤ kvs.length ∧ Came l s0 kvs ∧ Past l kvs i ∧ ss = [.dat (eLP l), .dat (eP s0), .own (.dT kvs), .own (.lst ((kys kvs).map eP)), .dat (eN i), y5]) l.length ⟨0, [(s0, .none)], .no, rfl, Nat.zero_le _, c0, fun j p e hj => absurd hj (Nat.not_lt_zero j), rfl⟩ ?_)
  rintro mm ss' ⟨i, kvs, y5, rfl, hi, hc, hp, rfl⟩
  have hlen := hc.len
  refine WTd.to (VT_fz (VT_t (V_ltN (V_var rfl) (V_lenL (f := eP) (V_var rfl))))) ?_
  rw [List.length_map]
  by_cases e : i < kvs.length
  · rw [decide_eq_true e]
    obtain ⟨⟨p, pe⟩, hpi⟩ : ∃ x, kvs[i]? = some x := ⟨_, List.getElem?_eq_getElem e⟩
    have hrow : ∀ {kvs' : List (Pr × PyData)}, kvs'[i]? = some (p, pe) → ((kys kvs').map eP)[i]? = some (eP p) := fun h => by
      rw [List.getElem?_map, List.getElem?_map, h]; rfl
    refine iteT (T_seq (T_for [5] (WId.to (VI_list (V_forced_of (V_var rfl) (W_ixO rfl (.inl rfl) (Wd.to (V_var rfl) ⟨i, _, rfl, hrow hpi, rfl⟩)) (by omega))) ⟨fun j ss => ∃ kvs' y5, Came l s0 kvs' ∧ Past l kvs' i ∧ kvs'[i]? = some (p, pe) ∧ (∀ q ∈ (l.filter (fcB l p)).take j, q ∈ kys kvs') ∧
      ss = [.dat (eLP l), .dat (eP s0), .own (.dT kvs'), .own (.lst ((kys kvs').map eP)), .dat (eN i), y5], ⟨kvs, y5, hc, hp, hpi, fun q hq => (by cases hq), rfl⟩, ?_, ?_⟩)))
    · rintro j d ss' hd ⟨kvs', y5, hc', hp', hpi', hall, rfl⟩
      obtain ⟨q, hq, _, rfl⟩ := map_get hd
      have hlen' := hc'.len
      have hqm := List.mem_filter.mp (List.mem_of_getElem? hq)
      have step : (l.filter (fcB l p)).take (j + 1) = (l.filter (fcB l p)).take j ++ [q] := by
        obtain ⟨hi, e⟩ := List.getElem?_eq_some_iff.mp hq
        rw [← List.take_append_getElem hi, e]
      refine WG_name (T_if (WT_B (W_dninT rfl (.inl rfl) (Wd.to (V_var rfl) ⟨q, rfl, _, rfl, ?_⟩))))
      by_cases hin : q ∈ kys kvs'
      · rw [decide_eq_true hin]
        refine iteF (T_next ⟨kvs', _, hc', hp', hpi', fun q' hq' => ?_, rfl⟩)
        rw [step] at hq'
        rcases List.mem_append.mp hq' with z | z
        · exact hall q' z
        · rw [List.mem_singleton] at z; rw [z]; exact hin
      · rw [decide_eq_false hin]
        refine iteT (T_seq (T_dputT rfl (by omega) (W_ixO rfl (.inl rfl) (Wd.to (V_var rfl) ⟨i, _, rfl, hrow hpi', Wd.to (V_var rfl) ⟨q, rfl, ?_⟩⟩))))
        rw [vl_new hin]
        refine T_app rfl (by rw [List.length_map, List.length_map]; omega) (Wd.to (V_var rfl) ⟨kvs' ++ [(q, eP p)], .dat (eP q), hc'.add hpi' hqm.1 hqm.2 hin, hp'.add (by have := (List.getElem?_eq_some_iff.mp hpi').1; omega) _, ?_, fun q' hq' => ?_, ?_⟩)
        · rw [List.getElem?_append_left (List.getElem?_eq_some_iff.mp hpi').1]; exact hpi'
        · rw [kys_app]
          rw [step] at hq'
          rcases List.mem_append.mp hq' with z | z
          · exact List.mem_append_left _ (hall q' z)
          · exact List.mem_append_right _ z
        · rw [kys_app, List.map_append]; rfl
    · rintro ss' ⟨kvs', y5, hc', hp', hpi', hall, rfl⟩
      have hil := (List.getElem?_eq_some_iff.mp hpi').1
      have hlen' := hc'.len
      refine T_asg (Wd.to (V_addN (V_var rfl) (V_nat 1)) ⟨l.length - (i + 1), by omega, i + 1, kvs', y5, rfl, hil, hc', fun j p' e' hj hg q hq hf => ?_, rfl⟩)
      by_cases hji : j = i
      · subst hji
        rw [hpi'] at hg
        cases hg
        refine hall q ?_
        rw [List.length_map, List.take_length]
        exact List.mem_filter.mpr ⟨hq, hf⟩
      · exact hp' j p' e' (by omega) hg q hq hf
  · rw [decide_eq_false e]
    have e' : i = kvs.length := by omega
    subst e'
    exact iteF (T_retO rfl ⟨kvs, rfl, hc, hp⟩)
end RO
namespace RO
open PySem PySem.Spec PyProof.Rows L2
local macro_rules | `(tactic| walk_at "ln") => `(tactic| (first | assumption | omega | (simp only [List.mem_range, List.length_range, List.length_map, List.length_append, List.length_cons, List.length_nil] at *; omega)))
/-! ### what comes of a turn by forcing -/
inductive Rch (l : List Pr) (s : Pr) : Pr → Prop
  | refl : Rch l s s
  | step {p q : Pr} : Rch l s p → q ∈ l → fcB l p q = true → Rch l s q
theorem came_rch {l : List Pr} {s : Pr} {kvs : List (Pr × PyData)} (h : Came l s kvs) (hp : Past l kvs kvs.length) {q : Pr} : q ∈ kys kvs ↔ Rch l s q := by
  constructor
  · intro hq
    have key : ∀ (i : Nat) (q : Pr) (d : PyData), kvs[i]? = some (q, d) → Rch l s q := by
      intro i
      induction i using Nat.strongRecOn with
      | _ i ih =>
        intro q d hi
        cases i with
        | zero =>
          rw [h.hd] at hi
          cases hi
          exact .refl
        | succ i =>
          obtain ⟨j, p, e, h1, h2, h3, h4⟩ := h.par i q d hi
          exact .step (ih j (by omega) p e h2) (h.sub q (List.mem_map.mpr ⟨_, List.mem_of_getElem? hi, rfl⟩)) h4
    obtain ⟨x, hx, rfl⟩ := List.mem_map.mp hq
    obtain ⟨i, hi⟩ := List.mem_iff_getElem?.mp hx
    exact key i x.1 x.2 hi
  · intro hq
    induction hq with
    | refl => exact List.mem_map.mpr ⟨_, List.mem_of_getElem? h.hd, rfl⟩
    | step _ hq hf ih =>
      obtain ⟨x, hx, rfl⟩ := List.mem_map.mp ih
      obtain ⟨i, hi⟩ := List.mem_iff_getElem?.mp hx
      exact hp i x.1 x.2 (List.getElem?_eq_some_iff.mp hi).1 hi _ hq hf
/-- the turns of an order -/
abbrev trn (n : Nat) (r : Rl) : List Pr := prs n (apR r)
/-- a knot: a turn that forces its reverse -/
def Knot (n : Nat) (r : Rl) : Prop := ∃ t ∈ trn n r, Rch (trn n r) t (t.2, t.1)
def eOP : Option (List Pr) → PyData
  | none => .none
  | some p => eLP p
def Pre_knot_of : List PyData → (Sl → Prop) → Prop := fun ds R => ∃ (n : Nat), ∃ (r : Rl), (n ≤ 6) ∧ ds = [eO n r] ∧ R = (fun v => ∃ d, v = .dat d ∧ (fun d => ∃ o : Option (List Pr), d = eOP o ∧ (o = none ↔ ¬ Knot n r)) d)
theorem W_knot_of {E : XK} {ss : List Sl} {t0 : TE} {P : PyData → Prop} {n : Nat} {r : Rl} (k0 : Wd t0 ss (eO n r)) (hk : ∀ d, (fun d => ∃ o : Option (List Pr), d = eOP o ∧ (o = none ↔ ¬ Knot n r)) d → P d) (h1 : n ≤ 6 := by walk_at "ln") : W (tCall (SpD Pre_knot_of) [] E (tCons t0 tNil)) ss P := W_call (WA_cons (k0.to (WA_nil ⟨_, ⟨n, r, h1, rfl, rfl⟩, fun s hs => (by obtain ⟨d, rfl, g⟩ := hs; exact ⟨d, rfl, hk d g⟩)⟩)))
theorem ok_knot_of {P : Program} {w : World} {K : PySem.W.Frag} {mg : Str → Option Value} {base : Heap} (T : Txt K mg) : Ok P w K mg base 4 "knot_of" ["order"] (SpD Pre_knot_of) := by
  obtain ⟨f, fd, F, bb, m⟩ := T.d_knot_of
  refine ⟨f, fd, m, F.kp, bb, fnD F sc_knot_of (fun ds R h => by obtain ⟨n, r, _, rfl, _⟩ := h; rfl) fun cdv A outer s H E ds R hr h => ?_⟩
  obtain ⟨n, r, h1, rfl, rfl⟩ := h
  refine ⟨_, (pss_cons (ps_set (i := 1) sc_knot_of.nd rfl (.inl rfl) (pe_callN (ok_all_turns T) (hr.mono (by decide)) (by rfl) (pa_cons (pv 0) pa_nil)))
      (pss_cons (ps_for PassesOwn.never rfl (pi_list (pv 1)) (pg_tup rfl (pgs_cons (pg_name (i := 2) sc_knot_of.nd rfl (.inl rfl)) (pgs_cons (pg_name (i := 3) sc_knot_of.nd rfl (.inl rfl)) pgs_nil))) (pss_cons (ps_set (i := 4) sc_knot_of.nd rfl (.inl rfl) (pe_callN (ok_came_from T) (hr.mono (by decide)) (by rfl) (pa_cons (pv 1) (pa_cons (pe_tup (pa_cons (pv 2) (pa_cons (pv 3) pa_nil))) pa_nil))))
      (pss_one (ps_if (pt_cmp (pc_din (hu_of hr) (pe_tup (pa_cons (pv 3) (pa_cons (pv 2) pa_nil))) (pv 4))) (pss_cons (ps_set (i := 5) sc_knot_of.nd rfl (.inl rfl) (pe_lst (pa_cons (pe_tup (pa_cons (pv 3) (pa_cons (pv 2) pa_nil))) pa_nil)))
      (pss_cons (ps_while PassesOwn.never (pt_cmp (pc_notN (pe_dget (hu_of hr) (pv 4) (pe_ix (kx_list K) (pv 5) pe_int (fun _ _ => rfl)) (fun _ _ => rfl))) rfl) (pss_one (ps_expr (pe_bm PySem.F.plainAttrs_list PySem.F.slot_list_insert PySem.F.type_list_insert mt_insert (pv 5) (pa_cons pe_int (pa_cons (pe_dget (hu_of hr) (pv 4) (pe_ix (kx_list K) (pv 5) pe_int (fun _ _ => rfl)) (fun _ _ => rfl)) pa_nil))))))
      (pss_one (ps_ret (pv 5))))) pss_nil))))
      (pss_one (ps_ret pe_non)))), ?_⟩
  have hl : (trn n r).length ≤ 36 := prs36 (n := n) (R := apR r) h1
  refine T_seq (T_asg (Wd.to (V_all_turns (V_var rfl) h1) ?_))
  refine T_seq (T_for [2, 3] ((VI_list (V_var rfl)).to ⟨fun i ss => ∃ y2 y3 y4 y5, (∀ t ∈ (trn n r).take i, ¬ Rch (trn n r) t (t.2, t.1)) ∧ ss = [.dat (eO n r), .dat (eLP (trn n r)), y2, y3, y4, y5], ⟨_, _, _, _, fun t ht => (by cases ht), rfl⟩, ?_, ?_⟩))
  · rintro i d ss' hd ⟨y2, y3, y4, y5, hno, rfl⟩
    obtain ⟨t, ht, _, rfl⟩ := map_get hd
    have htm := List.mem_of_getElem? ht
    have step : (trn n r).take (i + 1) = (trn n r).take i ++ [t] := by
      obtain ⟨hi, e⟩ := List.getElem?_eq_some_iff.mp ht
      rw [← List.take_append_getElem hi, e]
    refine WG_tup ⟨_, _, rfl, ?_⟩
    refine T_seq (T_callO (WA_cons (Wd.to (V_var rfl) (WA_cons (Wd.to (V_pair (V_var rfl) (V_var rfl)) (WA_nil ⟨_, ⟨trn n r, t, by omega, htm, rfl, rfl⟩, ?_⟩))))))
    rintro _ ⟨kvs, rfl, hc, hp⟩
    refine ⟨_, rfl, ?_⟩
    refine T_if (WT_B (W_dinT rfl (.inl rfl) (Wd.to (V_pair (V_var rfl) (V_var rfl)) ⟨(t.2, t.1), rfl, _, rfl, ?_⟩)))
    have hrev := came_rch hc hp (q := (t.2, t.1))
    by_cases hin : (t.2, t.1) ∈ kys kvs
    · have hk : Knot n r := ⟨t, htm, hrev.mp hin⟩
      rw [decide_eq_true hin]
      refine iteT (T_seq (T_newL (WA_cons (Wd.to (V_pair (V_var rfl) (V_var rfl)) (WA_nil ⟨by show 1 ≤ 100000; omega, ?_⟩)))))
      obtain ⟨x, hx, hx1⟩ := List.mem_map.mp hin
      obtain ⟨i0, hi0⟩ := List.mem_iff_getElem?.mp hx
      have hlen := hc.len
      have i0l := (List.getElem?_eq_some_iff.mp hi0).1
      refine T_seq (T_while (fun mm ss => ∃ q dq lk, kvs[mm]? = some (q, dq) ∧ mm + lk.length < 200 ∧ ss = [.dat (eO n r), .dat (eLP (trn n r)), .dat (eN t.1), .dat (eN t.2), .own (.dT kvs), .own (.lst ((q :: lk).map eP))]) i0 ⟨(t.2, t.1), x.2, [], by rw [← hx1]; exact hi0, by show i0 + 0 < 200; omega, rfl⟩ ?_)
      rintro mm ss' ⟨q, dq, lk, hq, hmm, rfl⟩
      have hvl := vl_at hc hq
      have hget : W (tDGet (tVar 4) (tOp (rIxL (cxOf CX0 P w K mg base n_knot_of (Str.ofString "knot_of") (defScope s_knot_of) f cdv A outer s H E).nox.K) (tVar 5) (tC (.int 0)))) [.dat (eO n r), .dat (eLP (trn n r)), .dat (eN t.1), .dat (eN t.2), .own (.dT kvs), .own (.lst ((q :: lk).map eP))] (fun x => x = dq) :=
        W_dgetT rfl (.inl rfl) (W_ixO rfl (.inl rfl) (Wd.to (V_nat 0) ⟨0, eP q, rfl, rfl, q, dq, rfl, hvl, rfl⟩))
      refine WT_B (W_notN (hget.imp fun x ex => ⟨_, rfl, ?_⟩))
      subst ex
      cases mm with
      | zero =>
        rw [hc.hd] at hq
        cases hq
        exact iteF (T_frz 5 rfl (T_ret (Wd.to (V_var rfl) ⟨_, rfl, some _, rfl, by simp [hk]⟩)))
      | succ mm =>
        obtain ⟨j, p, e, h1', h2', h3', h4'⟩ := hc.par mm q _ hq
        subst h3'
        refine iteT (T_ins0 rfl (by rw [List.length_map, List.length_cons]; omega) (hget.imp fun x ex => ?_))
        subst ex
        exact ⟨j, by omega, p, e, q :: lk, h2', by rw [List.length_cons]; omega, rfl⟩
    · rw [decide_eq_false hin]
      refine iteF (T_next ⟨_, _, _, _, fun t' ht' => ?_, rfl⟩)
      rw [step] at ht'
      rcases List.mem_append.mp ht' with z | z
      · exact hno t' z
      · rw [List.mem_singleton] at z
        rw [z]
        exact fun hr => hin (hrev.mpr hr)
  · rintro ss' ⟨y2, y3, y4, y5, hno, rfl⟩
    rw [List.length_map, List.take_length] at hno
    refine T_ret (Wd.to V_non ⟨_, rfl, none, rfl, by simp only [true_iff]; exact fun ⟨t, h1, h2⟩ => hno t h1 h2⟩)
/-- how turns are chosen -/
inductive Cho : List Pr → List Pr → Prop
  | nil : Cho [] []
  | step {a : Pr} {l some rest : List Pr} : some.Nodup → (∀ q, q ∈ some ↔ Rch (a :: l) a q) → Cho ((a :: l).filter fun p => !decide (p ∈ some) && !decide ((p.2, p.1) ∈ some)) rest → Cho (a :: l) (some ++ rest)
end RO
namespace RO
open PySem PySem.Spec PyProof.Rows L2
local macro_rules | `(tactic| walk_at "ln") => `(tactic| (first | assumption | omega | (simp only [List.mem_range, List.length_range, List.length_map, List.length_append, List.length_cons, List.length_nil] at *; omega)))
abbrev lft (l some : List Pr) : List Pr := l.filter fun p => !decide (p ∈ some) && !decide ((p.2, p.1) ∈ some)
def Pre_chosen : List PyData → (Sl → Prop) → Prop := fun ds R => ∃ (n : Nat), ∃ (r : Rl), (n ≤ 6) ∧ ds = [eO n r] ∧ R = (fun v => ∃ d, v = .dat d ∧ (fun d => ∃ l : List Pr, d = eLP l ∧ l.length ≤ 36 ∧ Cho (trn n r) l) d)
theorem W_chosen {E : XK} {ss : List Sl} {t0 : TE} {P : PyData → Prop} {n : Nat} {r : Rl} (k0 : Wd t0 ss (eO n r)) (hk : ∀ d, (fun d => ∃ l : List Pr, d = eLP l ∧ l.length ≤ 36 ∧ Cho (trn n r) l) d → P d) (h1 : n ≤ 6 := by walk_at "ln") : W (tCall (SpD Pre_chosen) [] E (tCons t0 tNil)) ss P := W_call (WA_cons (k0.to (WA_nil ⟨_, ⟨n, r, h1, rfl, rfl⟩, fun s hs => (by obtain ⟨d, rfl, g⟩ := hs; exact ⟨d, rfl, hk d g⟩)⟩)))
theorem ok_chosen {P : Program} {w : World} {K : PySem.W.Frag} {mg : Str → Option Value} {base : Heap} (T : Txt K mg) : Ok P w K mg base 4 "chosen" ["order"] (SpD Pre_chosen) := by
  obtain ⟨f, fd, F, bb, m⟩ := T.d_chosen
  refine ⟨f, fd, m, F.kp, bb, fnD F sc_chosen (fun ds R h => by obtain ⟨n, r, _, rfl, _⟩ := h; rfl) fun cdv A outer s H E ds R hr h => ?_⟩
  obtain ⟨n, r, h1, rfl, rfl⟩ := h
  refine ⟨_, (pss_cons (ps_set (i := 1) sc_chosen.nd rfl (.inl rfl) (pe_callN (ok_all_turns T) (hr.mono (by decide)) (by rfl) (pa_cons (pv 0) pa_nil)))
      (pss_cons (ps_set (i := 2) sc_chosen.nd rfl (.inl rfl) (pe_lst pa_nil))
      (pss_cons (ps_while PassesOwn.never (pt_cmpR (k_ne K hr) (pv 1) (pe_lst pa_nil) (nomark _)) (pss_cons (ps_set (i := 3) sc_chosen.nd rfl (.inr rfl) (pe_callTy (call_list_dT rfl) (by rfl) T.b_list (by decide +kernel) (pa_cons (pe_callN (ok_came_from T) (hr.mono (by decide)) (by rfl) (pa_cons (pv 1) (pa_cons (pe_ix (kx_list K) (pv 1) pe_int (fun _ _ => rfl)) pa_nil))) pa_nil)))
      (pss_cons (ps_expr (pe_bm PySem.F.plainAttrs_list PySem.F.slot_list_extend PySem.F.type_list_extend mt_extend (pv 2) (pa_cons (pv 3) pa_nil)))
      (pss_one (ps_setLc (i := 1) (own := [("a", 4), ("b", 5)]) (g := gTup K 2 (gCons (gName 4) (gCons (gName 5) gNil)))  rfl sc_chosen.nd rfl rfl (sw_true rfl rfl rfl (by decide +kernel))  (pi_list (pv 1)) (blkOk_by (own := [("a", 4), ("b", 5)]) (N := n_chosen) (sc := defScope s_chosen) (by decide +kernel)) (fun _ _ _ _ _ => (pg_tup rfl (pgs_cons (pg_name (i := 4) sc_chosen.nd rfl (.inl rfl)) (pgs_cons (pg_name (i := 5) sc_chosen.nd rfl (.inl rfl)) pgs_nil)))) (fun _ _ _ _ _ => pts_one (PW.pt (pw_and (pt_cmpR (k_nin K hr) (pe_tup (pa_cons (pv 4) (pa_cons (pv 5) pa_nil))) (pv 3) (by rfl)) (pw_and1 (pt_cmpR (k_nin K hr) (pe_tup (pa_cons (pv 5) (pa_cons (pv 4) pa_nil))) (pv 3) (by rfl)))))) (fun _ _ _ _ _ => (pe_tup (pa_cons (pv 4) (pa_cons (pv 5) pa_nil)))))))))
      (pss_one (ps_ret (pv 2)))))), ?_⟩
  have hl : (trn n r).length ≤ 36 := prs36 (n := n) (R := apR r) h1
  refine T_seq (T_asg (Wd.to (V_all_turns (V_var rfl) h1) ?_))
  refine T_seq (T_newL (WA_nil ⟨by show 0 ≤ 100000; omega, ?_⟩))
  refine T_seq (T_while (fun mm ss => ∃ l fd y3 y4 y5, mm = l.length ∧ l.Nodup ∧ l.length + fd.length ≤ 36 ∧ (∀ rest, Cho l rest → Cho (trn n r) (fd ++ rest)) ∧ ss = [.dat (eO n r), .dat (eLP l), .own (.lst (fd.map eP)), y3, y4, y5]) (trn n r).length ⟨trn n r, [], _, _, _, rfl, prs_nodup n _, hl, fun rest h => h, rfl⟩ ?_)
  rintro mm ss' ⟨l, fd, y3, y4, y5, rfl, hnd, hlen, hch, rfl⟩
  refine WTd.to (VT_t (V_neLP (V_var rfl) (V_lst0 (α := Pr)))) ?_
  cases l with
  | nil => exact iteF (T_frz 2 rfl (T_ret (Wd.to (V_var rfl) ⟨_, rfl, fd, rfl, by simpa using hlen, by have := hch [] .nil; rwa [List.append_nil] at this⟩)))
  | cons a l =>
    rw [decide_eq_false (List.cons_ne_nil a l)]
    refine iteT (T_seq (T_asg (W_listDT (WA_cons (Wd.to (V_var rfl) (WA_cons (Wd.to (V_ixL (f := eP) (V_var rfl) (V_nat 0) (show (a :: l)[0]? = some a from rfl)) (WA_nil ⟨_, ⟨a :: l, a, by omega, List.mem_cons_self, rfl, rfl⟩, ?_⟩))))))))
    rintro _ ⟨kvs, rfl, hc, hp⟩
    have hkl := hc.len
    refine ⟨kvs, rfl, by omega, ?_⟩
    have hsome : ∀ q, q ∈ kys kvs ↔ Rch (a :: l) a q := fun q => came_rch hc hp
    have hsub := hc.sub
    have hdis : (kys kvs ++ lft (a :: l) (kys kvs)).length ≤ (a :: l).length := by
      refine nd_len _ _ ?_ fun x hx => ?_
      · rw [List.nodup_append]
        refine ⟨hc.nd, hnd.filter _, fun x hx y hy e => ?_⟩
        have := (List.mem_filter.mp hy).2
        rw [← e] at this
        simp [hx] at this
      · rcases List.mem_append.mp hx with z | z
        · exact hsub x z
        · exact (List.mem_filter.mp z).1
    rw [List.length_append] at hdis
    have hkp : 0 < (kys kvs).length := List.length_pos_of_mem ((hsome a).mpr .refl)
    have hk2 : (kys kvs).length = kvs.length := List.length_map _
    rw [show (PyData.list (kvs.map fun q => eP q.1)) = eLP (kys kvs) from by unfold eLP kys; rw [List.map_map]; rfl]
    refine T_seq (T_ext rfl (Wd.to (V_var rfl) ⟨_, rfl, by rw [List.length_map, List.length_map]; omega, ?_⟩))
    refine T_asg (Wd.to (V_lcF2 (pp := fun p => !decide (p ∈ kys kvs) && !decide ((p.2, p.1) ∈ kys kvs)) (gg := eP) (VI_list (V_var rfl)) (by omega) (fun v hv => VT_and (VT_t (V_ninLP (V_pair (V_var rfl) (V_var rfl)) (V_var rfl))) fun hb => VT_t (V_ninLP (V_pair (V_var rfl) (V_var rfl)) (V_var rfl))) (fun v hv hp => V_pair (V_var rfl) (V_var rfl))) ?_)
    refine ⟨(lft (a :: l) (kys kvs)).length, by omega, lft (a :: l) (kys kvs), fd ++ kys kvs, .dat (eLP (kys kvs)), y4, y5, rfl, hnd.filter _, by rw [List.length_append]; omega, fun rest h => ?_, ?_⟩
    · rw [List.append_assoc]
      exact hch _ (.step hc.nd hsome h)
    · rw [List.map_append]; rfl
/-! ### points -/
abbrev cntB (l : List Pr) (t : Nat) : Nat := (l.filter fun p => decide (p.2 = t)).length
abbrev cntA (l : List Pr) (t : Nat) : Nat := (l.filter fun p => decide (p.1 = t)).length
def pbL (n : Nat) (r : Rl) (l : List Pr) : List Pr := (List.range n).map fun t => (cntB (prs n r) t + cntB l t, cntB (prs n r) t + cntA l t)
def Pre_points_by : List PyData → (Sl → Prop) → Prop := fun ds R => ∃ (n : Nat), ∃ (r : Rl), ∃ (l : List Pr), (n ≤ 6) ∧ (l.length ≤ 36) ∧ ds = [eO n r, eLP l] ∧ R = one (eLP (pbL n r l))
theorem V_points_by {E : XK} {ss : List Sl} {t0 t1 : TE} {n : Nat} {r : Rl} {l : List Pr} (k0 : Wd t0 ss (eO n r)) (k1 : Wd t1 ss (eLP l)) (h1 : n ≤ 6 := by walk_at "ln") (h2 : l.length ≤ 36 := by walk_at "ln") : Wd (tCall (SpD Pre_points_by) [] E (tCons t0 (tCons t1 tNil))) ss (eLP (pbL n r l)) := W_call (WA_cons (k0.to (WA_cons (k1.to (WA_nil ⟨_, ⟨n, r, l, h1, h2, rfl, rfl⟩, fun s hs => ⟨_, hs, rfl⟩⟩)))))
theorem ok_points_by {P : Program} {w : World} {K : PySem.W.Frag} {mg : Str → Option Value} {base : Heap} (T : Txt K mg) : Ok P w K mg base 1 "points_by" ["order", "some"] (SpD Pre_points_by) := by
  obtain ⟨f, fd, F, bb, m⟩ := T.d_points_by
  refine ⟨f, fd, m, F.kp, bb, fnD F sc_points_by (fun ds R h => by obtain ⟨n, r, l, _, _, rfl, _⟩ := h; rfl) fun cdv A outer s H E ds R hr h => ?_⟩
  obtain ⟨n, r, l, h1, h2, rfl, rfl⟩ := h
  refine ⟨_, (pss_cons (ps_set (i := 2) sc_points_by.nd rfl (.inl rfl) (pe_lst pa_nil))
      (pss_cons (ps_for PassesOwn.never rfl (pi_range1 rfl T.b_range (pa_cons (pe_ix (kx_tup K) (pv 0) pe_int (fun _ _ => rfl)) pa_nil)) (pg_name (i := 3) sc_points_by.nd rfl (.inr rfl)) (pss_cons (ps_set (i := 4) sc_points_by.nd rfl (.inl rfl) (pe_callB c_len (by rfl) T.b_len (by decide +kernel) (pa_cons (pe_lc (own := [("a", 7), ("b", 8)]) (g := gTup K 2 (gCons (gName 7) (gCons (gName 8) gNil)))  rfl sc_points_by.nd (pi_tup (pe_ix (kx_tup K) (pv 0) pe_int (fun _ _ => rfl))) (blkOk_by (own := [("a", 7), ("b", 8)]) (N := n_points_by) (sc := defScope s_points_by) (by decide +kernel)) (fun _ _ _ _ _ => (pg_tup rfl (pgs_cons (pg_name (i := 7) sc_points_by.nd rfl (.inl rfl)) (pgs_cons (pg_name (i := 8) sc_points_by.nd rfl (.inl rfl)) pgs_nil)))) (fun _ _ _ _ _ => pts_one (pt_cmpR (k_eq K hr) (pv 8) (pv 3) (nomark _))) (fun _ _ _ _ _ => pe_int)) pa_nil)))
      (pss_cons (ps_set (i := 5) sc_points_by.nd rfl (.inl rfl) (pe_callB c_len (by rfl) T.b_len (by decide +kernel) (pa_cons (pe_lc (own := [("a", 7), ("b", 8)]) (g := gTup K 2 (gCons (gName 7) (gCons (gName 8) gNil)))  rfl sc_points_by.nd (pi_list (pv 1)) (blkOk_by (own := [("a", 7), ("b", 8)]) (N := n_points_by) (sc := defScope s_points_by) (by decide +kernel)) (fun _ _ _ _ _ => (pg_tup rfl (pgs_cons (pg_name (i := 7) sc_points_by.nd rfl (.inl rfl)) (pgs_cons (pg_name (i := 8) sc_points_by.nd rfl (.inl rfl)) pgs_nil)))) (fun _ _ _ _ _ => pts_one (pt_cmpR (k_eq K hr) (pv 8) (pv 3) (nomark _))) (fun _ _ _ _ _ => pe_int)) pa_nil)))
      (pss_cons (ps_set (i := 6) sc_points_by.nd rfl (.inl rfl) (pe_callB c_len (by rfl) T.b_len (by decide +kernel) (pa_cons (pe_lc (own := [("a", 7), ("b", 8)]) (g := gTup K 2 (gCons (gName 7) (gCons (gName 8) gNil)))  rfl sc_points_by.nd (pi_list (pv 1)) (blkOk_by (own := [("a", 7), ("b", 8)]) (N := n_points_by) (sc := defScope s_points_by) (by decide +kernel)) (fun _ _ _ _ _ => (pg_tup rfl (pgs_cons (pg_name (i := 7) sc_points_by.nd rfl (.inl rfl)) (pgs_cons (pg_name (i := 8) sc_points_by.nd rfl (.inl rfl)) pgs_nil)))) (fun _ _ _ _ _ => pts_one (pt_cmpR (k_eq K hr) (pv 7) (pv 3) (nomark _))) (fun _ _ _ _ _ => pe_int)) pa_nil)))
      (pss_one (ps_expr (pe_bm PySem.F.plainAttrs_list PySem.F.slot_list_append PySem.F.type_list_append mt_append (pv 2) (pa_cons (pe_tup (pa_cons (pe_op op_add (pv 4) (pv 5)) (pa_cons (pe_op op_add (pv 4) (pv 6)) pa_nil))) pa_nil))))))))
      (pss_one (ps_ret (pv 2))))), ?_⟩
  have hl : (prs n r).length ≤ 36 := prs36 (n := n) (R := r) h1
  refine T_seq (T_newL (WA_nil ⟨by show 0 ≤ 100000; omega, ?_⟩))
  refine T_seq (T_for [3] ((VI_rng (V_o0 (V_var rfl)) (by walk_at "ln")).to ⟨fun i ss => ∃ y3 y4 y5 y6 y7 y8, ss = [.dat (eO n r), .dat (eLP l), .own (.lst (((List.range i).map fun t => (cntB (prs n r) t + cntB l t, cntB (prs n r) t + cntA l t)).map eP)), y3, y4, y5, y6, y7, y8], ⟨_, _, _, _, _, _, rfl⟩, ?_, ?_⟩))
  · rintro i d ss' hd ⟨y3, y4, y5, y6, y7, y8, rfl⟩
    obtain ⟨hi, rfl⟩ := rng_turn hd
    refine WG_name ?_
    refine T_seq (T_asg (Wd.to (V_lenL (f := fun _ : Pr => eN 1) (V_lcF2 (VI_tup (V_o1 (V_var rfl))) (by omega) (fun v hv => VT_t (V_eqN (V_var rfl) (V_var rfl))) (fun v hv hp => V_nat 1))) ?_))
    refine T_seq (T_asg (Wd.to (V_lenL (f := fun _ : Pr => eN 1) (V_lcF2 (VI_list (V_var rfl)) (by omega) (fun v hv => VT_t (V_eqN (V_var rfl) (V_var rfl))) (fun v hv hp => V_nat 1))) ?_))
    refine T_seq (T_asg (Wd.to (V_lenL (f := fun _ : Pr => eN 1) (V_lcF2 (VI_list (V_var rfl)) (by omega) (fun v hv => VT_t (V_eqN (V_var rfl) (V_var rfl))) (fun v hv hp => V_nat 1))) ?_))
    refine T_app rfl (by rw [List.length_map, List.length_map, List.length_range]; omega) (Wd.to (V_pair (V_addN (V_var rfl) (V_var rfl)) (V_addN (V_var rfl) (V_var rfl))) ?_)
    refine ⟨.dat (eN i), .dat (eN (cntB (prs n r) i)), .dat (eN (cntB l i)), .dat (eN (cntA l i)), y7, y8, ?_⟩
    rw [List.range_succ, List.map_append, List.map_append]
    rfl
  · rintro ss' ⟨y3, y4, y5, y6, y7, y8, rfl⟩
    rw [List.length_map, List.length_range]
    exact T_frz 2 rfl (T_ret (Wd.to (V_var rfl) rfl))
end RO
namespace RO
open PySem PySem.Spec PyProof.Rows L2
local macro_rules | `(tactic| walk_at "ln") => `(tactic| (first | assumption | omega | (simp only [List.mem_range, List.length_range, List.length_map, List.length_append, List.length_cons, List.length_nil] at *; omega)))
/-! ### rows by points -/
def sdO (i : Nat) (p : Pr) : Nat := if i = 0 then p.1 else p.2
theorem V_pS {K : PySem.W.Frag} {ss : List Sl} {te tb : TE} {p : Pr} {i : Nat} (h : Wd te ss (eP p)) (hi : Wd tb ss (eN i)) (h2 : i < 2) : Wd (tOp (rIxT K) te tb) ss (eN (sdO i p)) := W_ixT (h.to (hi.to ⟨_, i, _, rfl, rfl, by
  match i, h2 with
  | 0, _ => rfl
  | 1, _ => rfl, rfl⟩))
def rwB (pts : List Pr) (i : Nat) : List Nat := (List.range pts.length).map fun k => (pts.map (sdO i)).idxOf k
def Pre_rows_by : List PyData → (Sl → Prop) → Prop := fun ds R => ∃ (pts : List Pr), (pts.length ≤ 6) ∧ (∀ i, i < 2 → (pts.map (sdO i)).Perm (List.range pts.length)) ∧ ds = [eLP pts] ∧ R = one (eLR [rwB pts 0, rwB pts 1])
theorem V_rows_by {E : XK} {ss : List Sl} {t0 : TE} {pts : List Pr} (k0 : Wd t0 ss (eLP pts)) (h1 : pts.length ≤ 6 := by walk_at "ln") (h2 : ∀ i, i < 2 → (pts.map (sdO i)).Perm (List.range pts.length) := by walk_at "ln") : Wd (tCall (SpD Pre_rows_by) [] E (tCons t0 tNil)) ss (eLR [rwB pts 0, rwB pts 1]) := W_call (WA_cons (k0.to (WA_nil ⟨_, ⟨pts, h1, h2, rfl, rfl⟩, fun s hs => ⟨_, hs, rfl⟩⟩)))
theorem ok_rows_by {P : Program} {w : World} {K : PySem.W.Frag} {mg : Str → Option Value} {base : Heap} (T : Txt K mg) : Ok P w K mg base 1 "rows_by" ["points"] (SpD Pre_rows_by) := by
  obtain ⟨f, fd, F, bb, m⟩ := T.d_rows_by
  refine ⟨f, fd, m, F.kp, bb, fnD F sc_rows_by (fun ds R h => by obtain ⟨pts, _, _, rfl, _⟩ := h; rfl) fun cdv A outer s H E ds R hr h => ?_⟩
  obtain ⟨pts, h1, h2, rfl, rfl⟩ := h
  refine ⟨_, (pss_cons (ps_set (i := 1) sc_rows_by.nd rfl (.inl rfl) (pe_lst pa_nil))
      (pss_cons (ps_for PassesOwn.never rfl (pi_range1 rfl T.b_range (pa_cons pe_int pa_nil)) (pg_name (i := 2) sc_rows_by.nd rfl (.inr rfl)) (pss_cons (ps_set (i := 3) sc_rows_by.nd rfl (.inr rfl) (pe_lc (own := [("point", 4)]) (g := gName 4) (tt := tYes) rfl sc_rows_by.nd (pi_list (pv 0)) (blkOk_by (own := [("point", 4)]) (N := n_rows_by) (sc := defScope s_rows_by) (by decide +kernel)) (fun _ _ _ _ _ => (pg_name (i := 4) sc_rows_by.nd rfl (.inl rfl))) (fun _ _ _ _ _ => pts_nil) (fun _ _ _ _ _ => (pe_ix (kx_tup K) (pv 4) (pv 2) (fun _ _ => rfl)))))
      (pss_one (ps_expr (pe_bm PySem.F.plainAttrs_list PySem.F.slot_list_append PySem.F.type_list_append mt_append (pv 1) (pa_cons (pe_callTy c_tupleR (by rfl) T.b_tuple (by decide +kernel) (pa_cons (pe_lc (own := [("place", 5)]) (g := gName 5) (tt := tYes) rfl sc_rows_by.nd (pi_range1 rfl T.b_range (pa_cons (pe_callB c_len (by rfl) T.b_len (by decide +kernel) (pa_cons (pv 0) pa_nil)) pa_nil)) (blkOk_by (own := [("place", 5)]) (N := n_rows_by) (sc := defScope s_rows_by) (by decide +kernel)) (fun _ _ _ _ _ => (pg_name (i := 5) sc_rows_by.nd rfl (.inl rfl))) (fun _ _ _ _ _ => pts_nil) (fun _ _ _ _ _ => (pe_bmK K PySem.F.plainAttrs_list PySem.F.slot_list_index PySem.F.type_list_index (k_lindex K hr) (pv 3) (pa_cons (pv 5) pa_nil)))) pa_nil)) pa_nil))))))
      (pss_one (ps_ret (pv 1))))), ?_⟩
  refine T_seq (T_newL (WA_nil ⟨by show 0 ≤ 100000; omega, ?_⟩))
  refine T_seq (T_for [2] (WId.to (VI_rng (V_nat 2) (by omega)) ⟨fun i ss => ∃ y2 y3 y4 y5, ss = [.dat (eLP pts), .own (.lst (((List.range i).map (rwB pts)).map eTN)), y2, y3, y4, y5], ⟨_, _, _, _, rfl⟩, ?_, ?_⟩))
  · rintro i d ss' hd ⟨y2, y3, y4, y5, rfl⟩
    obtain ⟨hi, rfl⟩ := rng_turn hd
    refine WG_name ?_
    refine T_seq (T_asg (Wd.to (V_lcM1 (enc := eP) (gg := fun p => eN (sdO i p)) (VI_list (V_var rfl)) (by omega) fun v hv => V_pS (V_var rfl) (V_var rfl) hi) ?_))
    rw [show (PyData.list (pts.map fun p => eN (sdO i p))) = eLN (pts.map (sdO i)) from by unfold eLN; rw [List.map_map]; rfl]
    refine T_app rfl (by rw [List.length_map, List.length_map, List.length_range]; omega) (Wd.to (V_tupleR (l := rwB pts i) (Wd.cast (V_lcM1 (enc := eN) (gg := fun k => eN ((pts.map (sdO i)).idxOf k)) (VI_rng (V_lenL (f := eP) (V_var rfl)) (by omega)) (by rw [List.length_range]; omega) fun v hv => V_lindex (V_var rfl) (V_var rfl) (idx_ok ((h2 i hi).mem_iff.mpr hv))) ?_)) ?_)
    · unfold eLN rwB
      rw [List.map_map]; rfl
    · refine ⟨.dat (eN i), .dat (eLN (pts.map (sdO i))), y4, y5, ?_⟩
      rw [List.range_succ, List.map_append, List.map_append]
      rfl
  · rintro ss' ⟨y2, y3, y4, y5, rfl⟩
    rw [List.length_map, List.length_range]
    exact T_frz 1 rfl (T_ret (Wd.to (V_var rfl) rfl))
/-! ### crossing turns -/
def crB (r : Rl) (p q : Pr) : Bool := (decide (p.1 = q.2) || r p.1 q.2) && (decide (q.1 = p.2) || r q.1 p.2)
structure Crs (n : Nat) (r : Rl) (l : List Pr) : Prop where
  tn : ∀ t ∈ l, t ∈ trn n r
  cr : l.Pairwise fun p q => crB r p q = true
def Pre_most_from (j : Nat) : List PyData → (Sl → Prop) → Prop := fun ds R => ∃ (n : Nat), ∃ (r : Rl), ∃ (fd left : List Pr), (left.length < j) ∧ (n ≤ 6) ∧ (Crs n r fd) ∧ (∀ t ∈ left, t ∈ trn n r) ∧ (∀ p ∈ fd, ∀ q ∈ left, crB r p q = true) ∧ (fd.length + left.length ≤ 100) ∧ ds = [eO n r, eLP fd, eLP left] ∧ R = (fun v => ∃ d, v = .dat d ∧ (fun d => ∃ l : List Pr, d = eLP l ∧ l.length ≤ 100 ∧ Crs n r l) d)
theorem W_most_from {j : Nat} {E : XK} {ss : List Sl} {t0 t1 t2 : TE} {P : PyData → Prop} {n : Nat} {r : Rl} {fd left : List Pr} (k0 : Wd t0 ss (eO n r)) (k1 : Wd t1 ss (eLP fd)) (k2 : Wd t2 ss (eLP left)) (hk : ∀ d, (fun d => ∃ l : List Pr, d = eLP l ∧ l.length ≤ 100 ∧ Crs n r l) d → P d) (h1 : left.length < j := by walk_at "ln") (h2 : n ≤ 6 := by walk_at "ln") (h3 : Crs n r fd := by walk_at "ln") (h4 : ∀ t ∈ left, t ∈ trn n r := by walk_at "ln") (h5 : ∀ p ∈ fd, ∀ q ∈ left, crB r p q = true := by walk_at "ln") (h6 : fd.length + left.length ≤ 100 := by walk_at "ln") : W (tCall (SpD (Pre_most_from j)) [] E (tCons t0 (tCons t1 (tCons t2 tNil)))) ss P := W_call (WA_cons (k0.to (WA_cons (k1.to (WA_cons (k2.to (WA_nil ⟨_, ⟨n, r, fd, left, h1, h2, h3, h4, h5, h6, rfl, rfl⟩, fun s hs => (by obtain ⟨d, rfl, g⟩ := hs; exact ⟨d, rfl, hk d g⟩)⟩)))))))
theorem okr_most_from {P : Program} {w : World} {K : PySem.W.Frag} {mg : Str → Option Value} {base : Heap} (T : Txt K mg) : ∀ j : Nat, Ok P w K mg base (3 + j) "most_from" ["order", "found", "left"] (SpD (Pre_most_from j))
  | 0 => by
    obtain ⟨f, fd, F, bb, m⟩ := T.d_most_from
    refine ⟨f, fd, m, F.kp, bb, fnD (k := 2) F sc_most_from (fun ds R h => by obtain ⟨n, r, fd, left, _, _, _, _, _, _, rfl, _⟩ := h; rfl) fun cdv A outer s H E ds R hr h => ?_⟩
    obtain ⟨n, r, fd, left, h1, h2, h3, h4, h5, h6, rfl, rfl⟩ := h
    exact absurd h1 (Nat.not_lt_zero _)
  | j + 1 => by
    obtain ⟨f, fd, F, bb, m⟩ := T.d_most_from
    refine ⟨f, fd, m, F.kp, bb, fnD (k := 3 + j) F sc_most_from (fun ds R h => by obtain ⟨n, r, fd, left, _, _, _, _, _, _, rfl, _⟩ := h; rfl) fun cdv A outer s H E ds R hr h => ?_⟩
    have ih := okr_most_from (P := P) (w := w) (base := base) T j
    obtain ⟨n, r, fd, left, h1, h2, h3, h4, h5, h6, rfl, rfl⟩ := h
    refine ⟨_, (pss_cons (ps_set (i := 3) sc_most_from.nd rfl (.inl rfl) (pv 1))
      (pss_cons (ps_for PassesOwn.never rfl (pi_enum rfl T.b_enumerate (pa_cons (pv 2) pa_nil)) (pg_tup rfl (pgs_cons (pg_name (i := 4) sc_most_from.nd rfl (.inl rfl)) (pgs_cons (pg_name (i := 5) sc_most_from.nd rfl (.inr rfl)) pgs_nil))) (pss_cons (ps_if (pt_cmpR op_le (pe_op op_sub (pe_op op_add (pe_callB c_len (by rfl) T.b_len (by decide +kernel) (pa_cons (pv 1) pa_nil)) (pe_callB c_len (by rfl) T.b_len (by decide +kernel) (pa_cons (pv 2) pa_nil))) (pv 4)) (pe_callB c_len (by rfl) T.b_len (by decide +kernel) (pa_cons (pv 3) pa_nil)) (nomark _)) (pss_one (ps_ret (pv 3))) pss_nil)
      (pss_cons (ps_setLc (i := 6) (own := [("other", 8)]) (g := gName 8)  rfl sc_most_from.nd rfl rfl (sw_true rfl rfl rfl (by decide +kernel))  (pi_list (pe_slice sl_list (pv 2) (po_some (pe_op op_add (pv 4) pe_int)) po_none)) (blkOk_by (own := [("other", 8)]) (N := n_most_from) (sc := defScope s_most_from) (by decide +kernel)) (fun _ _ _ _ _ => (pg_name (i := 8) sc_most_from.nd rfl (.inl rfl))) (fun _ _ _ _ _ => pts_one (pt_val (pe_callN (ok_are_crossing T) (hr.mono (by omega)) (by rfl) (pa_cons (pv 0) (pa_cons (pv 5) (pa_cons (pv 8) pa_nil)))))) (fun _ _ _ _ _ => (pv 8)))
      (pss_cons (ps_set (i := 7) sc_most_from.nd rfl (.inl rfl) (pe_callN ih hr (by rfl) (pa_cons (pv 0) (pa_cons (pe_op op_cat (pv 1) (pe_lst (pa_cons (pv 5) pa_nil))) (pa_cons (pv 6) pa_nil)))))
      (pss_one (ps_if (pt_cmpR op_gt (pe_callB c_len (by rfl) T.b_len (by decide +kernel) (pa_cons (pv 7) pa_nil)) (pe_callB c_len (by rfl) T.b_len (by decide +kernel) (pa_cons (pv 3) pa_nil)) (nomark _)) (pss_one (ps_set (i := 3) sc_most_from.nd rfl (.inl rfl) (pv 7))) pss_nil))))))
      (pss_one (ps_ret (pv 3))))), ?_⟩
    refine T_seq (T_asg (Wd.to (V_var rfl) ?_))
    refine T_seq (T_for [4, 5] (WId.to (VI_enum (V_var rfl)) ⟨fun i ss => ∃ b y4 y5 y6 y7 y8, Crs n r b ∧ b.length ≤ 100 ∧ ss = [.dat (eO n r), .dat (eLP fd), .dat (eLP left), .dat (eLP b), y4, y5, y6, y7, y8], ⟨fd, _, _, _, _, _, h3, by omega, rfl⟩, ?_, ?_⟩))
    · rintro i d ss' hd ⟨b, y4, y5, y6, y7, y8, hb, hbl, rfl⟩
      obtain ⟨i', hi', _, rfl⟩ := map_get hd
      have hlt : i < (left.map eP).length := by
        have := (List.getElem?_eq_some_iff.mp hi').1
        rwa [List.length_range] at this
      rw [List.getElem?_range hlt] at hi'
      cases hi'
      rw [List.length_map] at hlt
      obtain ⟨t, ht⟩ : ∃ t, left[i]? = some t := ⟨_, List.getElem?_eq_getElem hlt⟩
      have htm := List.mem_of_getElem? ht
      have hg : (left.map eP).getD i .none = eP t := by
        rw [List.getD_eq_getElem?_getD, List.getElem?_map, ht]; rfl
      rw [hg]
      obtain ⟨t1, t2, t3⟩ := mem_prs.mp (h4 t htm)
      refine WG_tup ⟨_, _, rfl, ?_⟩
      refine T_seq (T_if (WTd.to (VT_t (V_leN (V_subN (V_addN (V_lenL (f := eP) (V_var rfl)) (V_lenL (f := eP) (V_var rfl))) (V_var rfl) (by omega)) (V_lenL (f := eP) (V_var rfl)))) ?_))
      cases e : decide (fd.length + left.length - i ≤ b.length) with
      | true => exact iteT (T_ret (Wd.to (V_var rfl) ⟨_, rfl, b, rfl, hbl, hb⟩))
      | false =>
        refine iteF (T_next ?_)
        have hdr : ∀ q ∈ left.drop (i + 1), q ∈ left := fun q hq => List.mem_of_mem_drop hq
        refine T_seq (T_asg (Wd.to (V_lcF1 (enc := eP) (pp := fun q => crB r t q) (gg := eP) (VI_list (V_drop (f := eP) (V_var rfl) (V_addN (V_var rfl) (V_nat 1)) (by omega))) (by rw [List.length_drop]; omega) (fun v hv => VT_B (V_are_crossing (V_var rfl) (V_var rfl) (V_var rfl) ⟨t1, (mem_prs.mp (h4 v (hdr v hv))).2.1⟩ ⟨(mem_prs.mp (h4 v (hdr v hv))).1, t2⟩)) (fun v hv hp => V_var rfl)) ?_))
        have hln : ((left.drop (i + 1)).filter fun q => crB r t q).length + i < left.length := by
          have := List.length_filter_le (fun q => crB r t q) (left.drop (i + 1))
          rw [List.length_drop] at this
          omega
        refine T_seq (T_asg (W_most_from (V_var rfl) (V_cat (V_var rfl) (V_lst1 (f := eP) (V_var rfl)) (by show fd.length + 1 ≤ _; omega)) (V_var rfl) (hk := ?_) (by omega) h2 ?_ ?_ ?_ (by rw [List.length_append]; show fd.length + 1 + _ ≤ _; omega)))
        · rintro _ ⟨lg, rfl, hlg, hcl⟩
          refine T_if (WTd.to (VT_t (V_gtN (V_lenL (f := eP) (V_var rfl)) (V_lenL (f := eP) (V_var rfl)))) ?_)
          cases e2 : decide (b.length < lg.length) with
          | true => exact iteT (T_asg (Wd.to (V_var rfl) ⟨lg, .dat (eN i), .dat (eP t), _, _, y8, hcl, hlg, rfl⟩))
          | false => exact iteF (T_next ⟨b, _, _, _, _, _, hb, hbl, rfl⟩)
        · refine ⟨fun q hq => ?_, ?_⟩
          · rcases List.mem_append.mp hq with z | z
            · exact h3.tn q z
            · rw [List.mem_singleton] at z; rw [z]; exact h4 t htm
          · rw [List.pairwise_append]
            refine ⟨h3.cr, by simp, fun p hp q hq => ?_⟩
            rw [List.mem_singleton] at hq
            rw [hq]; exact h5 p hp t htm
        · exact fun q hq => h4 q (hdr q (List.mem_filter.mp hq).1)
        · intro p hp q hq
          obtain ⟨q1, q2⟩ := List.mem_filter.mp hq
          rcases List.mem_append.mp hp with z | z
          · exact h5 p z q (hdr q q1)
          · rw [List.mem_singleton] at z; rw [z]; exact q2
    · rintro ss' ⟨b, y4, y5, y6, y7, y8, hb, hbl, rfl⟩
      exact T_ret (Wd.to (V_var rfl) ⟨_, rfl, b, rfl, hbl, hb⟩)
theorem ok_most_from {P : Program} {w : World} {K : PySem.W.Frag} {mg : Str → Option Value} {base : Heap} (T : Txt K mg) : Ok P w K mg base 48 "most_from" ["order", "found", "left"] (SpD (Pre_most_from 40)) := (okr_most_from T 40).mono (by decide)
def Pre_most_cross : List PyData → (Sl → Prop) → Prop := fun ds R => ∃ (n : Nat), ∃ (r : Rl), (G6 n r) ∧ ds = [eO n r] ∧ R = (fun v => ∃ d, v = .dat d ∧ (fun d => ∃ l : List Pr, d = eLP l ∧ l.length ≤ 100 ∧ Crs n r l) d)
theorem W_most_cross {E : XK} {ss : List Sl} {t0 : TE} {P : PyData → Prop} {n : Nat} {r : Rl} (k0 : Wd t0 ss (eO n r)) (hk : ∀ d, (fun d => ∃ l : List Pr, d = eLP l ∧ l.length ≤ 100 ∧ Crs n r l) d → P d) (h1 : G6 n r := by walk_at "ln") : W (tCall (SpD Pre_most_cross) [] E (tCons t0 tNil)) ss P := W_call (WA_cons (k0.to (WA_nil ⟨_, ⟨n, r, h1, rfl, rfl⟩, fun s hs => (by obtain ⟨d, rfl, g⟩ := hs; exact ⟨d, rfl, hk d g⟩)⟩)))
theorem ok_most_cross {P : Program} {w : World} {K : PySem.W.Frag} {mg : Str → Option Value} {base : Heap} (T : Txt K mg) : Ok P w K mg base 49 "most_cross" ["order"] (SpD Pre_most_cross) := by
  obtain ⟨f, fd, F, bb, m⟩ := T.d_most_cross
  refine ⟨f, fd, m, F.kp, bb, fnD F sc_most_cross (fun ds R h => by obtain ⟨n, r, _, rfl, _⟩ := h; rfl) fun cdv A outer s H E ds R hr h => ?_⟩
  obtain ⟨n, r, h1, rfl, rfl⟩ := h
  refine ⟨_, (pss_cons (ps_expr (pe_callN (ok_need_order T) (hr.mono (by decide)) (by rfl) (pa_cons (pv 0) pa_nil)))
      (pss_one (ps_ret (pe_callN (ok_most_from T) (hr.mono (by decide)) (by rfl) (pa_cons (pv 0) (pa_cons (pe_lst pa_nil) (pa_cons (pe_callN (ok_sharp_of T) (hr.mono (by decide)) (by rfl) (pa_cons (pv 0) pa_nil)) pa_nil))))))), ?_⟩
  have hn := h1.2.1
  have hb := prs36 (n := n) (R := shR n r) hn
  refine T_seq (T_drop (Wd.to (V_need_order (V_var rfl)) ?_))
  refine T_ret (W_most_from (j := 40) (left := prs n (shR n r)) (fd := []) (V_var rfl) (V_lst0 (f := eP)) (V_sharp_of (V_var rfl) hn) (hk := ?_) (by omega) hn ⟨fun t ht => (by cases ht), .nil⟩ (fun t ht => ?_) (fun p hp => (by cases hp)) (by show 0 + _ ≤ _; omega))
  · rintro _ ⟨l, rfl, h, h'⟩
    exact ⟨_, rfl, l, rfl, h, h'⟩
  · obtain ⟨a, b, c⟩ := mem_prs.mp ht
    refine mem_prs.mpr ⟨a, b, ?_⟩
    unfold shR at c
    rw [Bool.and_eq_true] at c
    exact c.1
/-! ### things named anew -/
def anL (n : Nat) (r : Rl) (names : List Nat) : List Pr := (prs n r).map fun p => (names.getD p.1 0, names.getD p.2 0)
def Pre_law_anew : List PyData → (Sl → Prop) → Prop := fun ds R => ∃ (n : Nat), ∃ (r : Rl), ∃ (names : List Nat), (n ≤ 6) ∧ (Po n r) ∧ (names.Perm (List.range n)) ∧ ds = [eO n r, eTN names] ∧ R = one (eO n (inL (anL n r names)))
theorem V_law_anew {E : XK} {ss : List Sl} {t0 t1 : TE} {n : Nat} {r : Rl} {names : List Nat} (k0 : Wd t0 ss (eO n r)) (k1 : Wd t1 ss (eTN names)) (h1 : n ≤ 6 := by walk_at "ln") (h2 : Po n r := by walk_at "ln") (h3 : names.Perm (List.range n) := by walk_at "ln") : Wd (tCall (SpD Pre_law_anew) [] E (tCons t0 (tCons t1 tNil))) ss (eO n (inL (anL n r names))) := W_call (WA_cons (k0.to (WA_cons (k1.to (WA_nil ⟨_, ⟨n, r, names, h1, h2, h3, rfl, rfl⟩, fun s hs => ⟨_, hs, rfl⟩⟩)))))
theorem ok_law_anew {P : Program} {w : World} {K : PySem.W.Frag} {mg : Str → Option Value} {base : Heap} (T : Txt K mg) : Ok P w K mg base 1 "_law_anew" ["order", "names"] (SpD Pre_law_anew) := by
  obtain ⟨f, fd, F, bb, m⟩ := T.d_law_anew
  refine ⟨f, fd, m, F.kp, bb, fnD F sc_law_anew (fun ds R h => by obtain ⟨n, r, names, _, _, _, rfl, _⟩ := h; rfl) fun cdv A outer s H E ds R hr h => ?_⟩
  obtain ⟨n, r, names, h1, h2, h3, rfl, rfl⟩ := h
  refine ⟨_, (pss_one (ps_ret (pe_tup (pa_cons (pe_ix (kx_tup K) (pv 0) pe_int (fun _ _ => rfl)) (pa_cons (pe_callTy c_tuple (by rfl) T.b_tuple (by decide +kernel) (pa_cons (pe_callB (cr_sortT (d := 2) (B := 64) (by decide)) (by rfl) T.b_sorted (by decide +kernel) (pa_cons (pe_lc (own := [("a", 2), ("b", 3)]) (g := gTup K 2 (gCons (gName 2) (gCons (gName 3) gNil))) (tt := tYes) rfl sc_law_anew.nd (pi_tup (pe_ix (kx_tup K) (pv 0) pe_int (fun _ _ => rfl))) (blkOk_by (own := [("a", 2), ("b", 3)]) (N := n_law_anew) (sc := defScope s_law_anew) (by decide +kernel)) (fun _ _ _ _ _ => (pg_tup rfl (pgs_cons (pg_name (i := 2) sc_law_anew.nd rfl (.inl rfl)) (pgs_cons (pg_name (i := 3) sc_law_anew.nd rfl (.inl rfl)) pgs_nil)))) (fun _ _ _ _ _ => pts_nil) (fun _ _ _ _ _ => (pe_tup (pa_cons (pe_ix (kx_tup K) (pv 1) (pv 2) (fun _ _ => rfl)) (pa_cons (pe_ix (kx_tup K) (pv 1) (pv 3) (fun _ _ => rfl)) pa_nil))))) pa_nil)) pa_nil)) pa_nil))))), ?_⟩
  have hl := irr_len h1 h2.irr
  have hnl : names.length = n := by have := h3.length_eq; rwa [List.length_range] at this
  have hget : ∀ {a}, a < n → names[a]? = some (names.getD a 0) := fun ha => by
    rw [List.getD_eq_getElem?_getD, List.getElem?_eq_getElem (by omega)]; rfl
  have hlt : ∀ {a}, a < n → names.getD a 0 < n := fun ha => List.mem_range.mp (h3.mem_iff.mp (List.mem_of_getElem? (hget ha)))
  have hinj : ∀ {a b}, a < n → b < n → names.getD a 0 = names.getD b 0 → a = b := fun {a b} ha hb e => by
    have nd : names.Nodup := h3.nodup_iff.mpr List.nodup_range
    have h1' := hget ha
    have h2' := hget hb
    rw [e, ← h2'] at h1'
    exact (List.getElem?_inj (by omega) nd).mp h1'
  refine T_ret (Wd.to (V_order (R := inL (anL n r names)) (V_o0 (V_var rfl)) (V_tuple (V_sortedP (n := n) (l := anL n r names) (Wd.cast (V_lcM2 (gg := fun p => eP (names.getD p.1 0, names.getD p.2 0)) (VI_tup (V_o1 (V_var rfl))) (by omega) fun v hv => V_pair (V_ixR (V_var rfl) (V_var rfl) (hget (mem_prs.mp hv).1)) (V_ixR (V_var rfl) (V_var rfl) (hget (mem_prs.mp hv).2.1))) ?_) ⟨?_, by omega, ?_, ?_⟩))) rfl)
  · unfold eLP anL; rw [List.map_map]; rfl
  · unfold anL; rw [List.length_map]; omega
  · intro p hp
    obtain ⟨q, hq, rfl⟩ := List.mem_map.mp hp
    exact ⟨hlt (mem_prs.mp hq).1, hlt (mem_prs.mp hq).2.1⟩
  · unfold anL
    rw [List.nodup_iff_pairwise_ne, List.pairwise_map]
    refine (List.Pairwise.and_mem.mp (prs_nodup n r)).imp fun {p q} ⟨hp, hq, hne⟩ e => hne ?_
    obtain ⟨p1, p2, _⟩ := mem_prs.mp hp
    obtain ⟨q1, q2, _⟩ := mem_prs.mp hq
    exact Prod.ext (hinj p1 q1 (Prod.mk.inj e).1) (hinj p2 q2 (Prod.mk.inj e).2)
end RO
namespace RO
open PySem PySem.Spec PyProof.Rows L2
local macro_rules | `(tactic| walk_at "ln") => `(tactic| (first | assumption | omega | (simp only [List.mem_range, List.length_range, List.length_map, List.length_append, List.length_cons, List.length_nil] at *; omega)))
/-- whether a thing may go behind some that are apart -/
def mayB (r : Rl) (s : List Nat) (t : Nat) : Bool := (decide (s = []) || decide (s.getLast?.getD 0 < t)) && s.all fun o => apR r o t
def nxL (n : Nat) (r : Rl) (row : List (List Nat)) : List (List Nat) := row.flatMap fun s => ((List.range n).filter (mayB r s)).map fun t => s ++ [t]
def stg (n : Nat) (r : Rl) : Nat → List (List Nat)
  | 0 => [[]]
  | k + 1 => nxL n r (stg n r k)
structure Asc (n k : Nat) (s : List Nat) : Prop where
  len : s.length = k
  up : s.Pairwise (· < ·)
  lt : ∀ x ∈ s, x < n
theorem asc_last {n k : Nat} {s : List Nat} (h : Asc n k s) {t : Nat} (hm : (decide (s = []) || decide (s.getLast?.getD 0 < t)) = true) : ∀ x ∈ s, x < t := by
  intro x hx
  cases s with
  | nil => cases hx
  | cons a l =>
    have h1 : (a :: l).getLast?.getD 0 < t := by simpa using hm
    have hne : (a :: l) ≠ [] := List.cons_ne_nil a l
    rw [List.getLast?_eq_some_getLast hne] at h1
    have h1 : (a :: l).getLast hne < t := h1
    rw [← List.dropLast_concat_getLast hne] at hx
    rcases List.mem_append.mp hx with z | z
    · have u := h.up
      rw [← List.dropLast_concat_getLast hne, List.pairwise_append] at u
      have := u.2.2 x z _ (List.mem_singleton.mpr rfl)
      omega
    · rw [List.mem_singleton] at z; omega
theorem may_lt {n k : Nat} {r : Rl} {s : List Nat} (h : Asc n k s) {t : Nat} (ht : t < n) (hm : mayB r s t = true) : k ≤ t ∧ Asc n (k + 1) (s ++ [t]) := by
  unfold mayB at hm
  rw [Bool.and_eq_true] at hm
  have key := asc_last h hm.1
  refine ⟨?_, ⟨by rw [List.length_append, h.len]; rfl, ?_, fun x hx => ?_⟩⟩
  · have := nd_len s (List.range t) (h.up.imp fun h => Nat.ne_of_lt h) fun x hx => List.mem_range.mpr (key x hx)
    rwa [List.length_range, h.len] at this
  · rw [List.pairwise_append]
    refine ⟨h.up, by simp, fun x hx y hy => ?_⟩
    rw [List.mem_singleton] at hy; rw [hy]; exact key x hx
  · rcases List.mem_append.mp hx with z | z
    · exact h.lt x z
    · rw [List.mem_singleton] at z; rw [z]; exact ht
theorem stg_asc (n : Nat) (r : Rl) : ∀ k, ∀ s ∈ stg n r k, Asc n k s
  | 0, s, h => by
    have h : s ∈ [[]] := h
    rw [List.mem_singleton] at h
    subst h
    exact ⟨rfl, .nil, fun x hx => by cases hx⟩
  | k + 1, s, h => by
    obtain ⟨s', h1, h2⟩ := List.mem_flatMap.mp h
    obtain ⟨t, ht, rfl⟩ := List.mem_map.mp h2
    obtain ⟨a, b⟩ := List.mem_filter.mp ht
    exact (may_lt (stg_asc n r k s' h1) (List.mem_range.mp a) b).2
theorem fil_from {n k : Nat} {p : Nat → Bool} (h : ∀ t, t < n → p t = true → k ≤ t) : ((List.range n).filter p).length ≤ n - k := by
  refine Nat.le_trans (nd_len _ ((List.range (n - k)).map (· + k)) (List.nodup_range.filter _) fun x hx => ?_) (by simp)
  obtain ⟨a, b⟩ := List.mem_filter.mp hx
  have a' := List.mem_range.mp a
  have := h x a' b
  exact List.mem_map.mpr ⟨x - k, List.mem_range.mpr (by omega), by omega⟩
theorem nxL_len {n k : Nat} {r : Rl} (hn : n ≤ 6) : ∀ (row : List (List Nat)), (∀ s ∈ row, Asc n k s) → (nxL n r row).length ≤ row.length * (6 - k)
  | [], _ => by simp [nxL]
  | s :: row, h => by
    have ih := nxL_len (r := r) hn row fun s hs => h s (List.mem_cons_of_mem _ hs)
    have h1 := fil_from (n := n) (k := k) (p := mayB r s) fun t ht hm => (may_lt (h s List.mem_cons_self) ht hm).1
    unfold nxL at ih ⊢
    rw [List.flatMap_cons, List.length_append, List.length_map, List.length_cons, Nat.succ_mul]
    omega
def fb : Nat → Nat
  | 0 => 1
  | k + 1 => fb k * (6 - k)
theorem fb_le : ∀ k, k ≤ 7 → fb k ≤ 720 := by decide
theorem stg_len {n : Nat} {r : Rl} (hn : n ≤ 6) : ∀ k, (stg n r k).length ≤ fb k
  | 0 => Nat.le_refl 1
  | k + 1 => Nat.le_trans (nxL_len hn _ (stg_asc n r k)) (Nat.mul_le_mul_right _ (stg_len hn k))
theorem stg_end {n : Nat} {r : Rl} (hn : n ≤ 6) {k : Nat} (h : stg n r k ≠ []) : k ≤ 6 := by
  obtain ⟨s, hs⟩ := List.exists_mem_of_ne_nil _ h
  have a := stg_asc n r k s hs
  have := nd_len s (List.range n) (a.up.imp fun h => Nat.ne_of_lt h) fun x hx => List.mem_range.mpr (a.lt x hx)
  rw [List.length_range, a.len] at this
  omega
def flS (n : Nat) (r : Rl) (k : Nat) : List (List Nat) := (List.range k).flatMap (stg n r)
theorem flS_succ (n : Nat) (r : Rl) (k : Nat) : flS n r (k + 1) = flS n r k ++ stg n r k := by
  unfold flS
  rw [List.range_succ, List.flatMap_append, List.flatMap_singleton]
theorem flS_len {n : Nat} {r : Rl} (hn : n ≤ 6) : ∀ k, k ≤ 7 → (flS n r k).length ≤ k * 720
  | 0, _ => by simp [flS]
  | k + 1, h => by
    have := flS_len (r := r) hn k (by omega)
    have := stg_len (r := r) hn k
    have := fb_le k (by omega)
    rw [flS_succ, List.length_append]
    omega
theorem flS_stop {n : Nat} {r : Rl} {k : Nat} (h : stg n r k = []) : ∀ j, flS n r (k + j) = flS n r k ∧ stg n r (k + j) = []
  | 0 => ⟨rfl, h⟩
  | j + 1 => by
    obtain ⟨a, b⟩ := flS_stop h j
    refine ⟨?_, ?_⟩
    · show flS n r (k + j + 1) = _
      rw [flS_succ, b, a, List.append_nil]
    · show nxL n r (stg n r (k + j)) = []
      rw [b]; rfl
def Pre_apart_lists : List PyData → (Sl → Prop) → Prop := fun ds R => ∃ (n : Nat), ∃ (r : Rl), (n ≤ 6) ∧ ds = [eO n r] ∧ R = one (eLLN (flS n r 7))
theorem V_apart_lists {E : XK} {ss : List Sl} {t0 : TE} {n : Nat} {r : Rl} (k0 : Wd t0 ss (eO n r)) (h1 : n ≤ 6 := by walk_at "ln") : Wd (tCall (SpD Pre_apart_lists) [] E (tCons t0 tNil)) ss (eLLN (flS n r 7)) := W_call (WA_cons (k0.to (WA_nil ⟨_, ⟨n, r, h1, rfl, rfl⟩, fun s hs => ⟨_, hs, rfl⟩⟩)))
theorem ok_apart_lists {P : Program} {w : World} {K : PySem.W.Frag} {mg : Str → Option Value} {base : Heap} (T : Txt K mg) : Ok P w K mg base 2 "apart_lists" ["order"] (SpD Pre_apart_lists) := by
  obtain ⟨f, fd, F, bb, m⟩ := T.d_apart_lists
  refine ⟨f, fd, m, F.kp, bb, fnD F sc_apart_lists (fun ds R h => by obtain ⟨n, r, _, rfl, _⟩ := h; rfl) fun cdv A outer s H E ds R hr h => ?_⟩
  obtain ⟨n, r, h1, rfl, rfl⟩ := h
  refine ⟨_, (pss_cons (ps_set (i := 1) sc_apart_lists.nd rfl (.inl rfl) (pe_lst pa_nil))
      (pss_cons (ps_set (i := 2) sc_apart_lists.nd rfl (.inl rfl) (pe_lst (pa_cons (pe_lst pa_nil) pa_nil)))
      (pss_cons (ps_while PassesOwn.never (pt_cmpR (k_ne K hr) (pv 2) (pe_lst pa_nil) (nomark _)) (pss_cons (ps_set (i := 3) sc_apart_lists.nd rfl (.inl rfl) (pe_lst pa_nil))
      (pss_cons (ps_for PassesOwn.never rfl (pi_list (pv 2)) (pg_name (i := 4) sc_apart_lists.nd rfl (.inl rfl)) (pss_one (ps_for PassesOwn.never rfl (pi_range1 rfl T.b_range (pa_cons (pe_ix (kx_tup K) (pv 0) pe_int (fun _ _ => rfl)) pa_nil)) (pg_name (i := 5) sc_apart_lists.nd rfl (.inr rfl)) (pss_one (ps_if (PW.pt (pw_or (pt_cmpR (k_eq K hr) (pv 4) (pe_lst pa_nil) (nomark _)) (pw_or1 (pt_cmpR op_gt (pv 5) (pe_ix (kx_list K) (pv 4) (pe_un un_neg pe_int) (fun _ _ => rfl)) (nomark _))))) (pss_one (ps_if (pt_val (pe_callB (cr_all rfl) (by rfl) T.b_all (by decide +kernel) (pa_cons (pe_lc (own := [("one", 6)]) (g := gName 6) (tt := tYes) rfl sc_apart_lists.nd (pi_list (pv 4)) (blkOk_by (own := [("one", 6)]) (N := n_apart_lists) (sc := defScope s_apart_lists) (by decide +kernel)) (fun _ _ _ _ _ => (pg_name (i := 6) sc_apart_lists.nd rfl (.inl rfl))) (fun _ _ _ _ _ => pts_nil) (fun _ _ _ _ _ => (pe_callN (ok_are_apart T) (hr.mono (by decide)) (by rfl) (pa_cons (pv 0) (pa_cons (pv 6) (pa_cons (pv 5) pa_nil)))))) pa_nil))) (pss_one (ps_expr (pe_bm PySem.F.plainAttrs_list PySem.F.slot_list_append PySem.F.type_list_append mt_append (pv 3) (pa_cons (pe_op op_cat (pv 4) (pe_lst (pa_cons (pv 5) pa_nil))) pa_nil)))) pss_nil)) pss_nil)))))
      (pss_cons (ps_expr (pe_bm PySem.F.plainAttrs_list PySem.F.slot_list_extend PySem.F.type_list_extend mt_extend (pv 1) (pa_cons (pv 2) pa_nil)))
      (pss_one (ps_set (i := 2) sc_apart_lists.nd rfl (.inl rfl) (pv 3)))))))
      (pss_one (ps_ret (pv 1)))))), ?_⟩
  refine T_seq (T_newL (WA_nil ⟨by show 0 ≤ 100000; omega, ?_⟩))
  refine T_seq (T_asg (Wd.to (V_lst1 (f := eLN) (v := []) (V_lst0 (f := eN))) ?_))
  refine T_seq (T_while (fun mm ss => ∃ k y3 y4 y5 y6, mm = 7 - k ∧ k ≤ 7 ∧ ss = [.dat (eO n r), .own (.lst ((flS n r k).map eLN)), .dat (eLLN (stg n r k)), y3, y4, y5, y6]) 7 ⟨0, _, _, _, _, rfl, by omega, rfl⟩ ?_)
  rintro mm ss' ⟨k, y3, y4, y5, y6, rfl, hk, rfl⟩
  refine WTd.to (VT_t (V_neG (V_var rfl) (V_lst0 (α := Nat) (f := eN)) ?_ ?_)) ?_
  · exact (DL_eLLN _).sh
  · rfl
  rw [show PyData.eqv (eLLN (stg n r k)) (.list (([] : List Nat).map eN)) = decide (stg n r k = []) from eqv_nil _ _]
  by_cases e : stg n r k = []
  · rw [decide_eq_true e]
    have hfin : flS n r 7 = flS n r k := by
      have := (flS_stop e (7 - k)).1
      rwa [show k + (7 - k) = 7 by omega] at this
    refine iteF (T_frz 1 rfl (T_ret (Wd.to (V_var rfl) ?_)))
    rw [← hfin]
  · rw [decide_eq_false e]
    have hk6 := stg_end (r := r) (by omega) e
    have hsl := stg_len (r := r) h1 k
    have hf7 := fb_le k hk
    have hfl := flS_len (r := r) h1 k hk
    have hasc := stg_asc n r k
    have htake : ∀ i, ((nxL n r ((stg n r k).take i)).length ≤ 5000) := fun i => by
      have h2 := nxL_len (r := r) (k := k) h1 ((stg n r k).take i) fun s hs => hasc s (List.mem_of_mem_take hs)
      have h3 : ((stg n r k).take i).length ≤ 720 := by rw [List.length_take]; omega
      have h4 := Nat.mul_le_mul h3 (show 6 - k ≤ 6 by omega)
      omega
    refine iteT (T_seq (T_newL (WA_nil ⟨by show 0 ≤ 100000; omega, ?_⟩)))
    refine T_seq (T_for [4] ((VI_list (V_var rfl)).to ⟨fun i ss => ∃ y4 y5 y6, ss = [.dat (eO n r), .own (.lst ((flS n r k).map eLN)), .dat (eLLN (stg n r k)), .own (.lst ((nxL n r ((stg n r k).take i)).map eLN)), y4, y5, y6], ⟨_, _, _, rfl⟩, ?_, ?_⟩))
    · rintro i d ss' hd ⟨y4, y5, y6, rfl⟩
      obtain ⟨s, hs, _, rfl⟩ := map_get hd
      have hsa := hasc s (List.mem_of_getElem? hs)
      have hi := htake i
      have step : nxL n r ((stg n r k).take (i + 1)) = nxL n r ((stg n r k).take i) ++ ((List.range n).filter (mayB r s)).map fun t => s ++ [t] := by
        obtain ⟨hi, e⟩ := List.getElem?_eq_some_iff.mp hs
        unfold nxL
        rw [← List.take_append_getElem hi, e, List.flatMap_append, List.flatMap_singleton]
      have hsl6 : s.length ≤ 6 := by rw [hsa.len]; omega
      refine WG_name (T_for [5] ((VI_rng (V_o0 (V_var rfl)) (by walk_at "ln")).to ⟨fun j ss => ∃ y5 y6, ss = [.dat (eO n r), .own (.lst ((flS n r k).map eLN)), .dat (eLLN (stg n r k)), .own (.lst ((nxL n r ((stg n r k).take i) ++ ((List.range j).filter (mayB r s)).map fun t => s ++ [t]).map eLN)), .dat (eLN s), y5, y6], ⟨y5, y6, by simp⟩, ?_, ?_⟩))
      · rintro j d ss' hd ⟨y5, y6, rfl⟩
        obtain ⟨hj, rfl⟩ := rng_turn hd
        refine WG_name (T_if (WTd.to (VT_or (VT_t (V_eqLN (V_var rfl) (V_lst0 (α := Nat) (f := eN)))) fun hb => VT_t (V_gtN (V_var rfl) (V_ixLast (f := eN) (v := s.getLast?.getD 0) (V_var rfl) ?_))) ?_))
        · have hne : s ≠ [] := fun z => by rw [decide_eq_true z] at hb; cases hb
          rw [List.getLast?_eq_some_getLast hne]; rfl
        cases e1 : (decide (s = []) || decide (s.getLast?.getD 0 < j)) with
        | false =>
          refine iteF (T_next ?_)
          dsimp only
          rw [fr_no (p := mayB r s) (by unfold mayB; rw [e1]; rfl)]
          exact ⟨_, _, rfl⟩
        | true =>
          refine iteT (T_if (WTd.to (VT_B (V_all (V_lcM1 (enc := eN) (VI_list (V_var rfl)) (by omega) fun v hv => V_are_apart (V_var rfl) (V_var rfl) (V_var rfl) (hsa.lt v hv) hj))) ?_))
          cases e2 : s.all fun o => apR r o j with
          | false =>
            refine iteF (T_next ?_)
            dsimp only
            rw [fr_no (p := mayB r s) (by unfold mayB; rw [e1, e2]; rfl)]
            exact ⟨_, _, rfl⟩
          | true =>
            refine iteT (T_app rfl ?_ (Wd.to (V_cat (V_var rfl) (V_lst1 (f := eN) (V_var rfl)) (by show s.length + 1 ≤ _; omega)) ?_))
            · have := fr_len (mayB r s) j
              rw [List.length_map, List.length_append, List.length_map]
              omega
            · dsimp only
              rw [fr_yes (p := mayB r s) (by unfold mayB; rw [e1, e2]; rfl)]
              refine ⟨.dat (eN j), y6, ?_⟩
              simp
      · rintro ss' ⟨y5, y6, rfl⟩
        rw [List.length_map, List.length_range, ← step]
        exact ⟨_, _, _, rfl⟩
    · rintro ss' ⟨y4, y5, y6, rfl⟩
      rw [List.length_map, List.take_length]
      refine T_frz 3 rfl (T_seq (T_ext rfl (Wd.to (V_var rfl) ⟨_, rfl, by rw [List.length_map, List.length_map]; omega, ?_⟩)))
      refine T_asg (Wd.to (V_var rfl) ⟨7 - (k + 1), by omega, k + 1, .dat (eLLN (nxL n r (stg n r k))), y4, y5, y6, rfl, by omega, ?_⟩)
      rw [flS_succ, List.map_append]
      rfl
def mxL (l : List (List Nat)) : List Nat := l.foldl (fun b s => if b.length < s.length then s else b) []
theorem mxL_take {l : List (List Nat)} {i : Nat} {s : List Nat} (h : l[i]? = some s) : mxL (l.take (i + 1)) = if (mxL (l.take i)).length < s.length then s else mxL (l.take i) := by
  obtain ⟨hi, e⟩ := List.getElem?_eq_some_iff.mp h
  unfold mxL
  rw [← List.take_append_getElem hi, e, List.foldl_append]
  rfl
def Pre_most_apart : List PyData → (Sl → Prop) → Prop := fun ds R => ∃ (n : Nat), ∃ (r : Rl), (G6 n r) ∧ ds = [eO n r] ∧ R = one (eLN (mxL (flS n r 7)))
theorem V_most_apart {E : XK} {ss : List Sl} {t0 : TE} {n : Nat} {r : Rl} (k0 : Wd t0 ss (eO n r)) (h1 : G6 n r := by walk_at "ln") : Wd (tCall (SpD Pre_most_apart) [] E (tCons t0 tNil)) ss (eLN (mxL (flS n r 7))) := W_call (WA_cons (k0.to (WA_nil ⟨_, ⟨n, r, h1, rfl, rfl⟩, fun s hs => ⟨_, hs, rfl⟩⟩)))
theorem ok_most_apart {P : Program} {w : World} {K : PySem.W.Frag} {mg : Str → Option Value} {base : Heap} (T : Txt K mg) : Ok P w K mg base 5 "most_apart" ["order"] (SpD Pre_most_apart) := by
  obtain ⟨f, fd, F, bb, m⟩ := T.d_most_apart
  refine ⟨f, fd, m, F.kp, bb, fnD F sc_most_apart (fun ds R h => by obtain ⟨n, r, _, rfl, _⟩ := h; rfl) fun cdv A outer s H E ds R hr h => ?_⟩
  obtain ⟨n, r, h1, rfl, rfl⟩ := h
  refine ⟨_, (pss_cons (ps_expr (pe_callN (ok_need_order T) (hr.mono (by decide)) (by rfl) (pa_cons (pv 0) pa_nil)))
      (pss_cons (ps_set (i := 1) sc_most_apart.nd rfl (.inl rfl) (pe_lst pa_nil))
      (pss_cons (ps_for PassesOwn.never rfl (pi_list (pe_callN (ok_apart_lists T) (hr.mono (by decide)) (by rfl) (pa_cons (pv 0) pa_nil))) (pg_name (i := 2) sc_most_apart.nd rfl (.inl rfl)) (pss_one (ps_if (pt_cmpR op_gt (pe_callB c_len (by rfl) T.b_len (by decide +kernel) (pa_cons (pv 2) pa_nil)) (pe_callB c_len (by rfl) T.b_len (by decide +kernel) (pa_cons (pv 1) pa_nil)) (nomark _)) (pss_one (ps_set (i := 1) sc_most_apart.nd rfl (.inl rfl) (pv 2))) pss_nil)))
      (pss_one (ps_ret (pv 1)))))), ?_⟩
  have hn := h1.2.1
  refine T_seq (T_drop (Wd.to (V_need_order (V_var rfl)) ?_))
  refine T_seq (T_asg (Wd.to (V_lst0 (f := eN)) ?_))
  refine T_seq (T_for [2] ((VI_list (V_apart_lists (V_var rfl) hn)).to ⟨fun i ss => ∃ y2, ss = [.dat (eO n r), .dat (eLN (mxL ((flS n r 7).take i))), y2], ⟨_, rfl⟩, ?_, ?_⟩))
  · rintro i d ss' hd ⟨y2, rfl⟩
    obtain ⟨s, hs, _, rfl⟩ := map_get hd
    have step := mxL_take hs
    refine WG_name (T_if (WTd.to (VT_t (V_gtN (V_lenL (f := eN) (V_var rfl)) (V_lenL (f := eN) (V_var rfl)))) ?_))
    by_cases e : (mxL ((flS n r 7).take i)).length < s.length
    · rw [if_pos e] at step
      rw [decide_eq_true e]
      exact iteT (T_asg (Wd.to (V_var rfl) ⟨.dat (eLN s), by rw [step]; rfl⟩))
    · rw [if_neg e] at step
      rw [decide_eq_false e]
      exact iteF (T_next ⟨.dat (eLN s), by rw [step]; rfl⟩)
  · rintro ss' ⟨y2, rfl⟩
    rw [List.length_map, List.take_length]
    exact T_ret (Wd.to (V_var rfl) rfl)
end RO
namespace RO
open PySem PySem.Spec PyProof.Rows L2
local macro_rules | `(tactic| walk_at "ln") => `(tactic| (first | assumption | omega | (simp only [List.mem_range, List.length_range, List.length_map, List.length_append, List.length_cons, List.length_nil] at *; omega)))
section
variable {κ β : Type} [DecidableEq κ]
theorem vl_map (k k' : κ) (v : β) : ∀ kvs : List (κ × β), vl (kvs.map fun kv => if kv.1 = k then (kv.1, v) else kv) k' = if k' = k then (vl kvs k').map fun _ => v else vl kvs k'
  | [] => by by_cases e : k' = k <;> simp [vl, e]
  | q :: kvs => by
    rw [List.map_cons, vl_cons, vl_cons, vl_map k k' v kvs]
    by_cases h : q.1 = k
    · rw [if_pos h]
      by_cases e : q.1 = k'
      · rw [if_pos e, if_pos e, if_pos (e.symm.trans h)]; rfl
      · rw [if_neg e, if_neg e]
    · rw [if_neg h]
      by_cases e : q.1 = k'
      · rw [if_pos e, if_pos e, if_neg (fun z => h (e.trans z))]
      · rw [if_neg e, if_neg e]
theorem vl_app (k k' : κ) (v : β) : ∀ kvs : List (κ × β), vl (kvs ++ [(k, v)]) k' = match vl kvs k' with | some x => some x | none => if k = k' then some v else none
  | [] => by
    show vl [(k, v)] k' = _
    rw [vl_cons]; rfl
  | q :: kvs => by
    rw [List.cons_append, vl_cons, vl_cons, vl_app k k' v kvs]
    by_cases e : q.1 = k'
    · rw [if_pos e, if_pos e]
    · rw [if_neg e, if_neg e]
theorem vl_pu (kvs : List (κ × β)) (k k' : κ) (v : β) : vl (pu kvs k v) k' = if k' = k then some v else vl kvs k' := by
  unfold pu
  by_cases h : (kvs.any fun kv => decide (kv.1 = k)) = true
  · rw [if_pos h, vl_map]
    by_cases e : k' = k
    · subst e
      rw [if_pos rfl, if_pos rfl]
      rw [← vl_isSome] at h
      cases q : vl kvs k' with
      | none => rw [q] at h; cases h
      | some x => rfl
    · rw [if_neg e, if_neg e]
  · rw [if_neg h, vl_app]
    by_cases e : k' = k
    · subst e
      rw [if_pos rfl, if_pos rfl]
      rw [← vl_isSome] at h
      cases q : vl kvs k' with
      | none => rfl
      | some x => rw [q] at h; exact absurd rfl h
    · rw [if_neg e, if_neg (fun z => e z.symm)]
      cases vl kvs k' <;> rfl
theorem nd_pu {kvs : List (κ × β)} (h : (kvs.map (·.1)).Nodup) (k : κ) (v : β) : ((pu kvs k v).map (·.1)).Nodup := by
  unfold pu
  by_cases e : (kvs.any fun kv => decide (kv.1 = k)) = true
  · rw [if_pos e, List.map_map]
    have : (kvs.map ((fun x : κ × β => x.1) ∘ fun kv => if kv.1 = k then (kv.1, v) else kv)) = kvs.map (·.1) := List.map_congr_left fun q _ => by
      show (if q.1 = k then (q.1, v) else q).1 = q.1
      by_cases z : q.1 = k
      · rw [if_pos z]
      · rw [if_neg z]
    rw [this]; exact h
  · rw [if_neg e, List.map_append, List.nodup_append]
    refine ⟨h, by simp, fun a ha b hb => ?_⟩
    simp only [List.map_cons, List.map_nil, List.mem_singleton] at hb
    intro z
    rw [z, hb] at ha
    refine e ?_
    obtain ⟨q, h1, h2⟩ := List.mem_map.mp ha
    exact List.any_eq_true.mpr ⟨q, h1, by simpa using h2⟩
theorem vl_mem {kvs : List (κ × β)} {k : κ} : k ∈ kvs.map (·.1) ↔ ∃ v, vl kvs k = some v := by
  have := vl_some_iff kvs k
  constructor
  · intro h
    rw [decide_eq_true h] at this
    exact Option.isSome_iff_exists.mp this
  · rintro ⟨v, hv⟩
    rw [hv] at this
    exact of_decide_eq_true this.symm
end
/-- later things and what is ahead of them -/
structure Mtc (n : Nat) (r : Rl) (m : List (Nat × Nat)) : Prop where
  nd : (m.map (·.1)).Nodup
  ok : ∀ k v, vl m k = some v → k < n ∧ v < n ∧ r v k = true
def Inj (m : List (Nat × Nat)) : Prop := ∀ k1 k2 v, vl m k1 = some v → vl m k2 = some v → k1 = k2
structure Snk (n : Nat) (sn : List Nat) : Prop where
  nd : sn.Nodup
  lt : ∀ x ∈ sn, x < n
theorem Snk.len {n : Nat} {sn : List Nat} (h : Snk n sn) : sn.length ≤ n := by
  have := nd_len sn (List.range n) h.nd fun x hx => List.mem_range.mpr (h.lt x hx)
  rwa [List.length_range] at this
theorem Mtc.len {n : Nat} {r : Rl} {m : List (Nat × Nat)} (h : Mtc n r m) : m.length ≤ n := by
  have := nd_len (m.map (·.1)) (List.range n) h.nd fun x hx => by
    obtain ⟨v, hv⟩ := vl_mem.mp hx
    exact List.mem_range.mpr (h.ok x v hv).1
  rwa [List.length_range, List.length_map] at this
theorem Mtc.put {n : Nat} {r : Rl} {m : List (Nat × Nat)} (h : Mtc n r m) {k v : Nat} (hk : k < n) (hv : v < n) (hr : r v k = true) : Mtc n r (pu m k v) := ⟨nd_pu h.nd k v, fun k' v' e => by
  rw [vl_pu] at e
  by_cases z : k' = k
  · rw [if_pos z] at e; cases e; rw [z]; exact ⟨hk, hv, hr⟩
  · rw [if_neg z] at e; exact h.ok k' v' e⟩
structure PreA (j n : Nat) (r : Rl) (t : Nat) (sn : List Nat) (m : List (Nat × Nat)) : Prop where
  n6 : n ≤ 6
  tn : t < n
  sk : Snk n sn
  fu : n < sn.length + j
  mt : Mtc n r m
  ij : Inj m
  ts : ∀ k, vl m k = some t → k ∈ sn
structure PostA (n : Nat) (r : Rl) (t : Nat) (sn : List Nat) (m : List (Nat × Nat)) (b : Bool) (sn' : List Nat) (m' : List (Nat × Nat)) : Prop where
  sk : Snk n sn'
  sub : ∀ x ∈ sn, x ∈ sn'
  no : b = false → m' = m
  mt : b = true → Mtc n r m'
  kp : b = true → ∀ k ∈ sn, vl m' k = vl m k
  un : b = true → ∀ v, v ≠ t → ∀ k1 k2, vl m' k1 = some v → vl m' k2 = some v → k1 = k2
  at' : b = true → ∃ k0, k0 ∉ sn ∧ ∀ k, vl m' k = some t → k = k0 ∨ k ∈ sn
  vs : b = true → ∀ k v, vl m' k = some v → v = t ∨ ∃ k', vl m k' = some v
def SpA (j : Nat) : Sp := fun vs H Q _ => ∃ (F : Hp) (v0 : V) (n : Nat) (r : Rl) (t : Nat) (sn : List Nat) (m : List (Nat × Nat)) (ps pm : Addr), Same F H ∧ vs = [v0, .int (t : Nat), .ref ps, .ref pm] ∧ Dn F v0 (eO n r) ∧ F ps = none ∧ F pm = none ∧ ps ≠ pm ∧
  cOk F H ps (.lst (sn.map eN)) ∧ cOk F H pm (.dK m) ∧ PreA j n r t sn m ∧ ∀ b F2 H2 sn' m', PostA n r t sn m b sn' m' → Gr (fun a => a = ps ∨ a = pm) F H F2 H2 → cOk F2 H2 ps (.lst (sn'.map eN)) → cOk F2 H2 pm (.dK m') → Q (.bl b) H2
/-- the test with the call in it -/
theorem T_augIf {ss : List Sl} {k : Ks} {n : Nat} {r : Rl} {t l j : Nat} {sn : List Nat} {m : List (Nat × Nat)} {ps pm : Addr} {E : XK} {t1 t2 : TS} (hs : ss = [.dat (eO n r), .dat (eN t), .par ps (.lst (sn.map eN)), .par pm (.dK m), .dat (eN l)])
    (hno : l ∉ m.map (·.1) → Tt t1 ss k) (hyes : ∀ t', vl m l = some t' → PreA j n r t' sn m ∧ ∀ b sn' m', PostA n r t' sn m b sn' m' → if b = true then Tt t1 [.dat (eO n r), .dat (eN t), .par ps (.lst (sn'.map eN)), .par pm (.dK m'), .dat (eN l)] k else Tt t2 [.dat (eO n r), .dat (eN t), .par ps (.lst (sn'.map eN)), .par pm (.dK m'), .dat (eN l)] k) :
    Tt (tIfS (tOr (tB (tDNotIn (tVar 4) (tVar 3))) (tB (tCall (SpA j) [] E (tCons (tVar 0) (tCons (tDGet (tVar 3) (tVar 4)) (tCons (tVar 2) (tCons (tVar 3) tNil))))))) t1 t2) ss k := fun nw mt F H σ D C p => by
  subst hs
  refine (WT_B (W_dninK (kvs := m) (P := fun d => ∃ c, d = .bool c ∧ c = !decide (l ∈ m.map (·.1))) rfl (.inr ⟨_, rfl⟩) (Wd.to (V_var rfl) ⟨l, rfl, _, rfl, rfl⟩))) F H nw mt σ C.fh C.sl _ fun c F1 H1 hc g1 => ?_
  have C1 := C.grow g1
  have p1 := p.step (C.gs g1)
  subst hc
  by_cases hin : l ∈ m.map (·.1)
  · rw [decide_eq_true hin]
    refine iteF ?_
    obtain ⟨t', ht'⟩ := vl_mem.mp hin
    obtain ⟨pre, post⟩ := hyes t' ht'
    obtain ⟨v0, e0, d0⟩ := C1.sl.ok 0 _ rfl
    obtain ⟨ps', e2, hFs, ⟨hms, es⟩, cs⟩ := C1.sl.ok 2 _ rfl
    obtain ⟨pm', e3, hFm, ⟨hmm, em⟩, cm⟩ := C1.sl.ok 3 _ rfl
    subst es em
    have hne : ps' ≠ pm' := fun z => C1.sl.dj 2 3 _ _ ps' (by decide) rfl rfl rfl rfl e2 (by rw [e3, z])
    refine ⟨v0, e0, (W_dgetK (kvs := m) (P := fun x => x = eN t') rfl (.inr ⟨_, rfl⟩) (Wd.to (V_var rfl) ⟨l, t', rfl, ht', rfl⟩)) F1 H1 nw mt σ C1.fh C1.sl _ fun x F3 H3 d3 hd3 g3 dx => ?_⟩
    subst hd3
    cases inv_int dx
    have C3 := C1.grow g3
    have p3 := p1.step (C1.gs g3)
    obtain ⟨_, e2', hFs3, _, cs3⟩ := C3.sl.ok 2 _ rfl
    obtain ⟨_, e3', hFm3, _, cm3⟩ := C3.sl.ok 3 _ rfl
    rw [e2] at e2'; cases e2'
    rw [e3] at e3'; cases e3'
    refine ⟨.ref ps', e2, .ref pm', e3, F3, v0, n, r, t', sn, m, ps', pm', C3.fh, rfl, d0.mono g3.ff, hFs3, hFm3, hne, cs3, cm3, pre, fun b F4 H4 sn' m' hpost g4 c4s c4m => ?_⟩
    obtain ⟨gs, C4⟩ := C3.callM (ss2 := [.dat (eO n r), .dat (eN t), .par ps' (.lst (sn'.map eN)), .par pm' (.dK m'), .dat (eN l)]) g4 (fun a z => z.elim (fun z => by rw [z]; exact .inr hms) fun z => by rw [z]; exact .inr hmm) (fun a z => z.elim (fun z => by rw [z]; exact cOk_nt c4s) fun z => by rw [z]; exact cOk_nt c4m) rfl (fun i s hi => by
      match i, hi with
      | 0, hi => cases hi; exact .inl ⟨rfl, fun _ _ z => by cases z⟩
      | 1, hi => cases hi; exact .inl ⟨rfl, fun _ _ z => by cases z⟩
      | 2, hi => cases hi; exact .inr ⟨ps', _, rfl, e2, c4s, rfl⟩
      | 3, hi => cases hi; exact .inr ⟨pm', _, rfl, e3, c4m, rfl⟩
      | 4, hi => cases hi; exact .inl ⟨rfl, fun _ _ z => by cases z⟩
      | i + 5, hi => simp at hi)
    have key := post b sn' m' hpost
    refine ⟨b, rfl, ?_⟩
    cases b with
    | true => exact iteT (key nw mt F4 H4 σ D C4 (p3.step gs))
    | false => exact iteF (key nw mt F4 H4 σ D C4 (p3.step gs))
  · rw [decide_eq_false hin]
    exact iteT (iteT (hno hin nw mt F1 H1 σ D C1 p1))

theorem post_new {n : Nat} {r : Rl} {t l : Nat} {sn sni : List Nat} {m : List (Nat × Nat)} {j : Nat} (pre : PreA j n r t sn m) (hk : Snk n (sni ++ [l])) (hsub : ∀ x ∈ sn, x ∈ sni) (hl : l < n) (hr : r t l = true) (hin : l ∉ m.map (·.1)) : PostA n r t sn m true (sni ++ [l]) (pu m l t) := by
  have nl : l ∉ sn := fun z => by
    have := hk.nd
    rw [List.nodup_append] at this
    exact this.2.2 l (hsub l z) l (List.mem_singleton.mpr rfl) rfl
  have nv : vl m l = none := by
    cases e : vl m l with
    | none => rfl
    | some v => exact absurd (vl_mem.mpr ⟨v, e⟩) hin
  refine ⟨hk, fun x hx => List.mem_append_left _ (hsub x hx), fun z => (by cases z), fun _ => pre.mt.put hl pre.tn hr, fun _ k hk => ?_, fun _ v hv k1 k2 e1 e2 => ?_, fun _ => ⟨l, nl, fun k e => ?_⟩, fun _ k v e => ?_⟩
  · rw [vl_pu, if_neg (fun z => nl (by rw [← z]; exact hk))]
  · rw [vl_pu] at e1 e2
    by_cases z1 : k1 = l
    · rw [if_pos z1] at e1; cases e1; exact absurd rfl hv
    · by_cases z2 : k2 = l
      · rw [if_pos z2] at e2; cases e2; exact absurd rfl hv
      · rw [if_neg z1] at e1
        rw [if_neg z2] at e2
        exact pre.ij k1 k2 v e1 e2
  · rw [vl_pu] at e
    by_cases z : k = l
    · exact .inl z
    · rw [if_neg z] at e; exact .inr (pre.ts k e)
  · rw [vl_pu] at e
    by_cases z : k = l
    · rw [if_pos z] at e; cases e; exact .inl rfl
    · rw [if_neg z] at e; exact .inr ⟨k, e⟩
theorem post_rec {n : Nat} {r : Rl} {t t' l : Nat} {sn sni sn1 : List Nat} {m m1 : List (Nat × Nat)} {j : Nat} (pre : PreA j n r t sn m) (hk : Snk n (sni ++ [l])) (hsub : ∀ x ∈ sn, x ∈ sni) (hl : l < n) (hr : r t l = true) (ht : vl m l = some t')
    (po : PostA n r t' (sni ++ [l]) m true sn1 m1) : PostA n r t sn m true sn1 (pu m1 l t) := by
  have nl : l ∉ sn := fun z => by
    have := hk.nd
    rw [List.nodup_append] at this
    exact this.2.2 l (hsub l z) l (List.mem_singleton.mpr rfl) rfl
  have net : t ≠ t' := fun z => nl (pre.ts l (by rw [z]; exact ht))
  have sub2 : ∀ x ∈ sn, x ∈ sni ++ [l] := fun x hx => List.mem_append_left _ (hsub x hx)
  have kl : vl m1 l = some t' := by rw [po.kp rfl l (List.mem_append_right _ (List.mem_singleton.mpr rfl))]; exact ht
  obtain ⟨k0, hk0, hat⟩ := po.at' rfl
  refine ⟨po.sk, fun x hx => po.sub x (sub2 x hx), fun z => (by cases z), fun _ => (po.mt rfl).put hl pre.tn hr, fun _ k hk' => ?_, fun _ v hv k1 k2 e1 e2 => ?_, fun _ => ⟨l, nl, fun k e => ?_⟩, fun _ k v e => ?_⟩
  · rw [vl_pu, if_neg (fun z => nl (by rw [← z]; exact hk'))]
    exact po.kp rfl k (sub2 k hk')
  · rw [vl_pu] at e1 e2
    by_cases z1 : k1 = l
    · rw [if_pos z1] at e1; cases e1; exact absurd rfl hv
    · by_cases z2 : k2 = l
      · rw [if_pos z2] at e2; cases e2; exact absurd rfl hv
      · rw [if_neg z1] at e1
        rw [if_neg z2] at e2
        by_cases ev : v = t'
        · subst ev
          have one : ∀ k, k ≠ l → vl m1 k = some v → k = k0 := fun k hkl e => by
            rcases hat k e with z | z
            · exact z
            · have e' := po.kp rfl k z
              rw [e] at e'
              exact absurd (pre.ij k l v e'.symm ht) hkl
          rw [one k1 z1 e1, one k2 z2 e2]
        · exact po.un rfl v ev k1 k2 e1 e2
  · rw [vl_pu] at e
    by_cases z : k = l
    · exact .inl z
    · rw [if_neg z] at e
      refine .inr ?_
      rcases po.vs rfl k t e with y | ⟨k', hk'⟩
      · exact absurd y net
      · have hs := pre.ts k' hk'
        have e' := po.kp rfl k' (sub2 k' hs)
        rw [hk'] at e'
        rw [po.un rfl t net k k' e e']
        exact hs
  · rw [vl_pu] at e
    by_cases z : k = l
    · rw [if_pos z] at e; cases e; exact .inl rfl
    · rw [if_neg z] at e
      rcases po.vs rfl k v e with y | y
      · rw [y]; exact .inr ⟨l, ht⟩
      · exact .inr y
theorem okr_augmented {P : Program} {w : World} {K : PySem.W.Frag} {mg : Str → Option Value} {base : Heap} (T : Txt K mg) : ∀ j : Nat, Ok P w K mg base (1 + 1 + j) "augmented" ["order", "thing", "seen", "matched"] (SpA j)
  | 0 => by
    obtain ⟨f, fd, F, bb, m⟩ := T.d_augmented
    refine ⟨f, fd, m, F.kp, bb, fnM (k := 1) F sc_augmented (fun vs H Q E h => by obtain ⟨_, _, _, _, _, _, _, _, _, _, rfl, _⟩ := h; rfl) fun cdv A outer s H E vs Q hr h => ?_⟩
    obtain ⟨_, _, n, r, t, sn, m, _, _, _, _, _, _, _, _, _, _, pre, _⟩ := h
    have := pre.sk.len
    have := pre.fu
    omega
  | j + 1 => by
    obtain ⟨f, fd, F, bb, m⟩ := T.d_augmented
    refine ⟨f, fd, m, F.kp, bb, fnM (k := 1 + 1 + j) F sc_augmented (fun vs H Q E h => by obtain ⟨_, _, _, _, _, _, _, _, _, _, rfl, _⟩ := h; rfl) fun cdv A outer s H E vs Q hr h => ?_⟩
    have ih := okr_augmented (P := P) (w := w) (base := base) T j
    obtain ⟨F0, v0, n, r, t, sn, m, ps, pm, e, rfl, dv, hFs, hFm, hne, cs, cm, pre, q⟩ := h
    refine ⟨_, F0, fun a => a = ps ∨ a = pm, [.dat (eO n r), .dat (eN t), .par ps (.lst (sn.map eN)), .par pm (.dK m), .no], { nx := fun _ => False, rt := fun s ss => ∃ b sn' m' y, s = .dat (.bool b) ∧ PostA n r t sn m b sn' m' ∧ ss = [.dat (eO n r), .dat (eN t), .par ps (.lst (sn'.map eN)), .par pm (.dK m'), y] }, (pss_cons (ps_for PassesOwn.never rfl (pi_range1 rfl T.b_range (pa_cons (pe_ix (kx_tup K) (pv 0) pe_int (fun _ _ => rfl)) pa_nil)) (pg_name (i := 4) sc_augmented.nd rfl (.inl rfl)) (pss_one (ps_if (PW.pt (pw_and (pt_cmpR (k_in K hr) (pe_tup (pa_cons (pv 1) (pa_cons (pv 4) pa_nil))) (pe_ix (kx_tup K) (pv 0) pe_int (fun _ _ => rfl)) (by rfl)) (pw_and1 (pt_cmpR (k_nin K hr) (pv 4) (pv 2) (by rfl))))) (pss_cons (ps_expr (pe_bm PySem.F.plainAttrs_list PySem.F.slot_list_append PySem.F.type_list_append mt_append (pv 2) (pa_cons (pv 4) pa_nil)))
      (pss_one (ps_if (PW.pt (pw_or (pt_cmp (pc_dnotin (hu_of hr) (pv 4) (pv 3))) (pw_or1 (pt_val (pe_callN ih hr (by rfl) (pa_cons (pv 0) (pa_cons (pe_dget (hu_of hr) (pv 3) (pv 4) (fun _ _ => rfl)) (pa_cons (pv 2) (pa_cons (pv 3) pa_nil))))))))) (pss_cons (ps_dput (hu_of hr) (pv 3) (pv 4) (pv 1) rfl)
      (pss_one (ps_ret pe_bl))) pss_nil))) pss_nil)))
      (pss_one (ps_ret pe_bl))), e, ?_, ?_, ?_, ?_, ?_, fun ss z => z, fun ss z => z⟩
    · refine ⟨rfl, fun i s hi => ?_, fun i j' s s' p hij e1 e2 o1 o2 h1 h2 => ?_⟩
      · match i, hi with
        | 0, hi => cases hi; exact ⟨v0, rfl, dv⟩
        | 1, hi => cases hi; exact ⟨_, rfl, .int _⟩
        | 2, hi => cases hi; exact ⟨ps, rfl, hFs, ⟨.inl rfl, rfl⟩, cs⟩
        | 3, hi => cases hi; exact ⟨pm, rfl, hFm, ⟨.inr rfl, rfl⟩, cm⟩
        | 4, hi => cases hi; trivial
        | i + 5, hi => simp at hi
      · have two : ∀ (i : Nat) (s : Sl), [Sl.dat (eO n r), .dat (eN t), .par ps (.lst (sn.map eN)), .par pm (.dK m), .no][i]? = some s → isO s = true → i = 2 ∨ i = 3 := fun i s hi ho => by
          match i, hi with
          | 0, hi => cases hi; cases ho
          | 1, hi => cases hi; cases ho
          | 2, hi => exact .inl rfl
          | 3, hi => exact .inr rfl
          | 4, hi => cases hi; cases ho
          | i + 5, hi => simp at hi
        rcases two i s e1 o1 with rfl | rfl <;> rcases two j' s' e2 o2 with rfl | rfl
        · exact hij rfl
        · have h1' : some (some (V.ref ps)) = some (some (V.ref p)) := h1
          have h2' : some (some (V.ref pm)) = some (some (V.ref p)) := h2
          cases h1'; cases h2'; exact hne rfl
        · have h1' : some (some (V.ref pm)) = some (some (V.ref p)) := h1
          have h2' : some (some (V.ref ps)) = some (some (V.ref p)) := h2
          cases h1'; cases h2'; exact hne rfl
        · exact hij rfl
    · exact fun a z => z.elim (fun z => by rw [z]; exact cOk_ne cs) fun z => by rw [z]; exact cOk_ne cm
    · have n6 := pre.n6
      have hpr : (prs n r).length ≤ 36 := prs36 n6
      refine T_seq (T_for [4] ((VI_rng (V_o0 (V_var rfl)) (by walk_at "ln")).to ⟨fun i ss => ∃ sni y4, Snk n sni ∧ (∀ x ∈ sn, x ∈ sni) ∧ ss = [.dat (eO n r), .dat (eN t), .par ps (.lst (sni.map eN)), .par pm (.dK m), y4], ⟨sn, _, pre.sk, fun x hx => hx, rfl⟩, ?_, ?_⟩))
      · rintro i d ss' hd ⟨sni, y4, hk, hsub, rfl⟩
        obtain ⟨hi, rfl⟩ := rng_turn hd
        refine WG_name (T_if (WTd.to (VT_fz (VT_and (VT_t (V_inTP (l := prs n r) (V_pair (V_var rfl) (V_var rfl)) (V_o1 (V_var rfl)))) fun hb => VT_t (V_ninLN (l := sni) (V_var rfl) (V_var rfl)))) ?_))
        by_cases hc : (t, i) ∈ prs n r ∧ i ∉ sni
        · rw [decide_eq_true hc.1, decide_eq_false hc.2]
          have hr := (mem_prs2.mp hc.1).2.2
          have hk2 : Snk n (sni ++ [i]) := ⟨by
            rw [List.nodup_append]
            refine ⟨hk.nd, by simp, fun a ha b hb z => ?_⟩
            rw [List.mem_singleton] at hb
            rw [z, hb] at ha
            exact hc.2 ha, fun x hx => by
            rcases List.mem_append.mp hx with z | z
            · exact hk.lt x z
            · rw [List.mem_singleton] at z; rw [z]; exact hi⟩
          have hkl := hk.len
          have hml := pre.mt.len
          refine iteT (T_seq (T_appP rfl (by rw [List.length_map]; omega) (Wd.to (V_var rfl) ?_)))
          have hsnl : sn.length ≤ sni.length := nd_len _ _ pre.sk.nd hsub
          refine T_augIf (sn := sni ++ [i]) (m := m) (by rw [List.map_append]; rfl) (fun hin => ?_) fun t' ht' => ⟨⟨n6, (pre.mt.ok i t' ht').2.1, hk2, by have := pre.fu; rw [List.length_append, List.length_singleton]; omega, pre.mt, pre.ij, fun k hk' => by rw [pre.ij k i t' hk' ht']; exact List.mem_append_right _ (List.mem_singleton.mpr rfl)⟩, fun b sn1 m1 po => ?_⟩
          · refine T_seq (T_dputKP (kvs := m) rfl (by omega) (Wd.to (V_var rfl) (Wd.to (V_var rfl) ⟨i, t, rfl, rfl, T_ret (Wd.to V_bl ⟨true, sni ++ [i], pu m i t, .dat (eN i), rfl, post_new pre hk2 hsub hi hr hin, ?_⟩)⟩)))
            rw [List.map_append]; rfl
          · cases b with
            | true =>
              refine iteT (T_seq (T_dputKP (kvs := m1) rfl (by have := (po.mt rfl).len; omega) (Wd.to (V_var rfl) (Wd.to (V_var rfl) ⟨i, t, rfl, rfl, T_ret (Wd.to V_bl ⟨true, sn1, pu m1 i t, .dat (eN i), rfl, post_rec pre hk2 hsub hi hr ht' po, rfl⟩)⟩))))
            | false =>
              obtain rfl := po.no rfl
              exact iteF (T_next ⟨sn1, _, po.sk, fun x hx => po.sub x (List.mem_append_left _ (hsub x hx)), rfl⟩)
        · have hc' : (decide ((t, i) ∈ prs n r) && !decide (i ∈ sni)) = false := by
            rw [← Bool.not_eq_true]
            simpa using hc
          rw [hc']
          exact iteF (T_next ⟨sni, _, hk, hsub, rfl⟩)
      · rintro ss' ⟨sni, y4, hk, hsub, rfl⟩
        exact T_ret (Wd.to V_bl ⟨false, sni, m, y4, rfl, ⟨hk, hsub, fun _ => rfl, fun z => (by cases z), fun z => (by cases z), fun z => (by cases z), fun z => (by cases z), fun z => (by cases z)⟩, rfl⟩)
    · exact fun F2 H2 σ ss z _ _ => z.elim
    · rintro F2 H2 σ ss v s ⟨b, sn', m', y, rfl, po, rfl⟩ g S hv
      obtain rfl := inv_bl hv
      obtain ⟨ps', _, _, ⟨_, rfl⟩, c1⟩ := S.ok 2 _ rfl
      obtain ⟨pm', _, _, ⟨_, rfl⟩, c2⟩ := S.ok 3 _ rfl
      exact q b F2 H2 sn' m' po g c1 c2
theorem ok_augmented {P : Program} {w : World} {K : PySem.W.Frag} {mg : Str → Option Value} {base : Heap} (T : Txt K mg) : Ok P w K mg base 13 "augmented" ["order", "thing", "seen", "matched"] (SpA 8) := (okr_augmented T 8).mono (by decide)
end RO
namespace RO
open PySem PySem.Spec PyProof.Rows L2
local macro_rules | `(tactic| walk_at "ln") => `(tactic| (first | assumption | omega | (simp only [List.mem_range, List.length_range, List.length_map, List.length_append, List.length_cons, List.length_nil] at *; omega)))
/-- the dict turned about -/
def nxD (m : List (Nat × Nat)) : List (Nat × Nat) := m.foldl (fun acc q => pu acc q.2 q.1) []
theorem nxD_take {m : List (Nat × Nat)} {i : Nat} {q : Nat × Nat} (h : m[i]? = some q) : nxD (m.take (i + 1)) = pu (nxD (m.take i)) q.2 q.1 := by
  obtain ⟨hi, e⟩ := List.getElem?_eq_some_iff.mp h
  unfold nxD
  rw [← List.take_append_getElem hi, e, List.foldl_append]
  rfl
theorem pu_len {κ β : Type} [DecidableEq κ] (kvs : List (κ × β)) (k : κ) (v : β) : (pu kvs k v).length ≤ kvs.length + 1 := by
  unfold pu
  by_cases e : (kvs.any fun kv => decide (kv.1 = k)) = true
  · rw [if_pos e, List.length_map]; omega
  · rw [if_neg e, List.length_append]; exact Nat.le_refl _
theorem nxD_len (m : List (Nat × Nat)) : ∀ i, (nxD (m.take i)).length ≤ i
  | 0 => by simp [nxD]
  | i + 1 => by
    by_cases h : i < m.length
    · rw [nxD_take (List.getElem?_eq_getElem h)]
      have := pu_len (nxD (m.take i)) (m[i]).2 (m[i]).1
      have := nxD_len m i
      omega
    · rw [List.take_of_length_le (by omega)]
      have := nxD_len m i
      rw [List.take_of_length_le (by omega)] at this
      omega
theorem vl_nd {m : List (Nat × Nat)} (nd : (m.map (·.1)).Nodup) {i : Nat} {q : Nat × Nat} (hi : m[i]? = some q) : vl m q.1 = some q.2 := by
  induction m generalizing i with
  | nil => cases hi
  | cons a m ih =>
    rw [vl_cons]
    cases i with
    | zero => cases hi; exact if_pos rfl
    | succ i =>
      have hi' : m[i]? = some q := by simpa using hi
      rw [List.map_cons, List.nodup_cons] at nd
      rw [if_neg (fun z => nd.1 (by rw [z]; exact List.mem_map.mpr ⟨_, List.mem_of_getElem? hi', rfl⟩))]
      exact ih nd.2 hi'
theorem T_turnDict {ss : List Sl} {k : Ks} {m : List (Nat × Nat)} (h1 : ss[1]? = some (.own (.dK m))) (h3 : ss[3]? = some (.own (.dK []))) (h4 : 4 < ss.length) (nd : (m.map (·.1)).Nodup) (hl : m.length ≤ 1000)
    (k0 : k.nx (ss.set 3 (.own (.dK (nxD m))))) (k1 : ∀ x : Nat, k.nx ((ss.set 3 (.own (.dK (nxD m)))).set 4 (.dat (eN x)))) :
    Tt (tLock (tFor (iKeys (tVar 1)) (gName 4) (sDPut (tVar 3) (tDGet (tVar 1) (tVar 4)) (tVar 4)))) ss k := fun nw mt F H σ D C p => by
  obtain ⟨d, e1, hFd, hnd, hd⟩ := C.sl.ok 1 _ h1
  obtain ⟨pn, e3, hFp, hnp, hp⟩ := C.sl.ok 3 _ h3
  have hne : d ≠ pn := fun z => C.sl.dj 1 3 _ _ d (by decide) h1 h3 rfl rfl e1 (by rw [e3, z])
  have hd' : H d = some (.dK (eK m)) := hd
  have hp' : H pn = some (.dK (eK [])) := hp
  have s4 : 4 < σ.length := by rw [C.sl.len]; exact h4
  refine ⟨d, _, hd', trivial, fun od => ?_⟩
  refine ⟨.ref d, e1, d, od, rfl, .inl ⟨eK m, upd_same, ?_⟩⟩
  refine ⟨fun i n σ' H' => n = m.length - i ∧ i ≤ m.length ∧ H' d = some (.frz od (.dK (eK m))) ∧ H' pn = some (.dK (eK (nxD (m.take i)))) ∧ (∀ a, a ≠ d → a ≠ pn → H' a = H a) ∧ (σ' = σ ∨ ∃ x : Nat, σ' = σ.set 4 (some (.int (x : Nat)))), ⟨m.length, by omega, by omega, upd_same, by rw [upd_ne (Ne.symm hne)]; exact hp', fun a a1 _ => upd_ne a1, .inl rfl⟩, ?_⟩
  rintro i n σ' H' ⟨rfl, hi, w1, w2, w3, w4⟩
  have g1 : σ'[1]? = some (some (.ref d)) := by
    rcases w4 with rfl | ⟨x, rfl⟩
    · exact e1
    · rw [List.getElem?_set_ne (by decide)]; exact e1
  have g3 : σ'[3]? = some (some (.ref pn)) := by
    rcases w4 with rfl | ⟨x, rfl⟩
    · exact e3
    · rw [List.getElem?_set_ne (by decide)]; exact e3
  have gl : σ'.length = σ.length := by
    rcases w4 with rfl | ⟨x, rfl⟩
    · rfl
    · rw [List.length_set]
  have gs4 : ∀ v, σ'.set 4 (some v) = σ.set 4 (some v) := fun v => by
    rcases w4 with rfl | ⟨x, rfl⟩
    · rfl
    · rw [List.set_set]
  by_cases hlt : i < m.length
  · obtain ⟨q, hq⟩ : ∃ q, m[i]? = some q := ⟨_, List.getElem?_eq_getElem hlt⟩
    refine .inr ⟨⟨w1, by unfold eK; rw [List.length_map]; exact hlt⟩, fun σ3 H3 => H3 d = some (.frz od (.dK (eK m))) ∧ H3 pn = some (.dK (eK (nxD (m.take (i + 1))))) ∧ (∀ a, a ≠ d → a ≠ pn → H3 a = H a) ∧ (σ3 = σ ∨ ∃ x : Nat, σ3 = σ.set 4 (some (.int (x : Nat)))), fun σ3 H3 ⟨b1, b2, b3, b4⟩ => ⟨m.length - (i + 1), by omega, rfl, hlt, b1, b2, b3, b4⟩, fun x H2 hx => ?_⟩
    obtain ⟨rfl, ky, v, hk, rfl⟩ := hx
    have hk' : (eK m)[i]? = some ((Sum.inl (q.1 : Int) : Key), V.int (q.2 : Int)) := by
      unfold eK; rw [List.getElem?_map, hq]; rfl
    rw [hk'] at hk
    cases hk
    have s4' : (σ'.set 4 (some (V.int (q.1 : Int))))[4]? = some (some (V.int (q.1 : Int))) := List.getElem?_set_self (by rw [gl]; exact s4)
    have s3' : (σ'.set 4 (some (V.int (q.1 : Int))))[3]? = some (some (.ref pn)) := by rw [List.getElem?_set_ne (by decide)]; exact g3
    have s1' : (σ'.set 4 (some (V.int (q.1 : Int))))[1]? = some (some (.ref d)) := by rw [List.getElem?_set_ne (by decide)]; exact g1
    have hg : DGet H2 d (.int (q.1 : Int)) (some (.int (q.2 : Int))) := by
      refine .inl ⟨eK m, (Sum.inl (q.1 : Int) : Key), .inr ⟨od, w1⟩, rfl, ?_⟩
      rw [vl_eK, vl_nd nd hq]; rfl
    refine ⟨_, s4', .ref pn, s3', .ref d, s1', _, s4', d, _, rfl, hg, pn, _, rfl, DPut.k (k := (Sum.inl (q.2 : Int) : Key)) w2 ?_, ?_⟩
    · have := nxD_len m i
      rw [sizeLine_eq]; unfold eK; rw [List.length_map]; omega
    · rw [pu_eK, ← nxD_take hq]
      refine ⟨by rw [upd_ne hne]; exact w1, upd_same, fun a a1 a2 => by rw [upd_ne a2]; exact w3 a a1 a2, .inr ⟨q.1, gs4 _⟩⟩
  · have ei : i = m.length := by omega
    subst ei
    rw [List.take_length] at w2
    refine .inl ⟨⟨w1, by unfold eK; rw [List.length_map]; exact Nat.le_refl _⟩, w1, ?_⟩
    have hfin : upd H' d (.dK (eK m)) = upd H pn (.dK (eK (nxD m))) := by
      funext a
      by_cases a1 : a = d
      · subst a1; rw [upd_same, upd_ne hne, hd']
      · rw [upd_ne a1]
        by_cases a2 : a = pn
        · subst a2; rw [upd_same, w2]
        · rw [upd_ne a2]; exact w3 a a1 a2
    rw [hfin]
    obtain ⟨gs, C2⟩ := C.wrO (c' := .dK (nxD m)) (o := .dK (eK (nxD m))) h3 e3 upd_same
    rcases w4 with rfl | ⟨x, rfl⟩
    · exact p.nx F _ σ' _ k0 gs C2
    · exact p.nx F _ _ _ (k1 x) gs (C2.set 4 (.int _))
/-- the call with a new list and an own dict -/
theorem T_augTop {ss : List Sl} {k : Ks} {n : Nat} {r : Rl} {t j : Nat} {m : List (Nat × Nat)} {E : XK} (h0 : ss[0]? = some (.dat (eO n r))) (h2 : ss[2]? = some (.dat (eN t))) (h1 : ss[1]? = some (.own (.dK m))) (pre : PreA j n r t [] m)
    (hk : ∀ b sn' m', PostA n r t [] m b sn' m' → k.nx (ss.set 1 (.own (.dK m')))) : Tt (tDrop (tCall (SpA j) [] E (tCons (tVar 0) (tCons (tVar 2) (tCons (tLst tNil) (tCons (tVar 1) tNil)))))) ss k := fun nw mt F H σ D C p => by
  obtain ⟨v0, e0, d0⟩ := C.sl.ok 0 _ h0
  obtain ⟨v2, e2, d2⟩ := C.sl.ok 2 _ h2
  cases inv_int d2
  refine ⟨v0, e0, _, e2, by rw [sizeLine_eq]; simp, fun ps hps => ?_⟩
  have gn : Gr0 F H F (upd H ps (.lst [])) := Gr.new' C.fh hps
  have C1 := C.grow gn
  obtain ⟨pm, e1, hFm, hnm, cm⟩ := C1.sl.ok 1 _ h1
  have hFs : F ps = none := Gr.fresh C.fh hps
  have hns : nw ps := by
    by_cases z : nw ps
    · exact z
    · exact absurd hps (C.al ps z)
  have cs : cOk F (upd H ps (.lst [])) ps (.lst (([] : List Nat).map eN)) := ⟨by simp, [], upd_same, .nil⟩
  have hown : ∀ (j : Nat) s q, ss[j]? = some s → isO s = true → σ[j]? = some (some (V.ref q)) → q ≠ ps := fun j s q hj ho hq z => by
    subst z
    have c := C.sl.ok j s hj
    cases s with
    | no => cases ho
    | dat d => cases ho
    | own c' =>
      obtain ⟨p', e', _, _, c2⟩ := c
      rw [hq] at e'; cases e'
      exact cOk_ne c2 hps
    | par _ c' =>
      obtain ⟨p', e', _, _, c2⟩ := c
      rw [hq] at e'; cases e'
      exact cOk_ne c2 hps
  have hne : ps ≠ pm := fun z => hown 1 _ pm h1 rfl e1 z.symm
  refine ⟨.ref pm, e1, F, v0, n, r, t, [], m, ps, pm, C1.fh, rfl, d0, hFs, hFm, hne, cs, cm, pre, fun b F4 H4 sn' m' po g4 c4s c4m => ?_⟩
  obtain ⟨gs, C4⟩ := C1.callM (ss2 := ss.set 1 (.own (.dK m'))) g4 (fun a z => z.elim (fun z => by rw [z]; exact .inl hns) fun z => by rw [z]; exact .inl hnm) (fun a z => z.elim (fun z => by rw [z]; exact cOk_nt c4s) fun z => by rw [z]; exact cOk_nt c4m) (by rw [List.length_set]) (fun i s hi => by
    have il := (List.getElem?_eq_some_iff.mp hi).1
    by_cases hi1 : 1 = i
    · subst hi1
      rw [h1] at hi; cases hi
      exact .inr ⟨pm, .dK m', rfl, e1, c4m, by rw [List.getElem?_set_self il]; rfl⟩
    · refine .inl ⟨by rw [List.getElem?_set_ne hi1]; exact hi, fun q hq ho z => ?_⟩
      rcases z with z | z
      · exact hown i s q hi ho hq z
      · rw [z] at hq
        exact C.sl.dj i 1 s _ pm (Ne.symm hi1) hi h1 ho rfl hq e1)
  exact p.nx F4 H4 σ _ (hk b sn' m' po) ((C.gs gn).trans gs) C4
end RO
namespace RO
open PySem PySem.Spec PyProof.Rows L2
local macro_rules | `(tactic| walk_at "ln") => `(tactic| (first | assumption | omega | (simp only [List.mem_range, List.length_range, List.length_map, List.length_append, List.length_cons, List.length_nil] at *; omega)))
theorem nx_mem {v k : Nat} : ∀ (m acc : List (Nat × Nat)), vl (m.foldl (fun acc q => pu acc q.2 q.1) acc) v = some k → (k, v) ∈ m ∨ vl acc v = some k
  | [], acc, h => .inr h
  | q :: m, acc, h => by
    rcases nx_mem m _ h with z | z
    · exact .inl (List.mem_cons_of_mem _ z)
    · rw [vl_pu] at z
      by_cases e : v = q.2
      · rw [if_pos e] at z; cases z; rw [e]; exact .inl List.mem_cons_self
      · rw [if_neg e] at z; exact .inr z
theorem nx_some {v : Nat} : ∀ (m acc : List (Nat × Nat)), ((∃ k, (k, v) ∈ m) ∨ (vl acc v).isSome = true) → (vl (m.foldl (fun acc q => pu acc q.2 q.1) acc) v).isSome = true
  | [], acc, h => by
    rcases h with ⟨k, hk⟩ | h
    · cases hk
    · exact h
  | q :: m, acc, h => by
    refine nx_some m _ ?_
    rcases h with ⟨k, hk⟩ | h
    · rcases List.mem_cons.mp hk with z | z
      · right
        rw [vl_pu, if_pos (by rw [← z])]; rfl
      · exact .inl ⟨k, z⟩
    · right
      rw [vl_pu]
      by_cases e : v = q.2
      · rw [if_pos e]; rfl
      · rw [if_neg e]; exact h
theorem nxD_iff {m : List (Nat × Nat)} (nd : (m.map (·.1)).Nodup) (ij : Inj m) {v k : Nat} : vl (nxD m) v = some k ↔ vl m k = some v := by
  have of_mem : ∀ {k v}, (k, v) ∈ m → vl m k = some v := fun {k v} h => by
    obtain ⟨i, hi⟩ := List.mem_iff_getElem?.mp h
    exact vl_nd nd hi
  constructor
  · intro h
    rcases nx_mem m [] h with z | z
    · exact of_mem z
    · cases z
  · intro h
    have hm : (k, v) ∈ m := by
      unfold vl at h
      cases e : m.find? (fun kv => decide (kv.1 = k)) with
      | none => rw [e] at h; cases h
      | some q =>
        rw [e] at h
        have h1 := List.find?_some e
        have h2 := List.mem_of_find?_eq_some e
        have h1 : q.1 = k := by simpa using h1
        have h : some q.2 = some v := h
        cases h
        rw [← h1]; exact h2
    have := nx_some (v := v) m [] (.inl ⟨k, hm⟩)
    obtain ⟨k', hk'⟩ := Option.isSome_iff_exists.mp this
    have h2 : vl m k' = some v := by
      rcases nx_mem m [] hk' with z | z
      · exact of_mem z
      · cases z
    rw [ij k k' v h h2]
    exact hk'
/-- a chain on its way from a thing -/
structure Chn (n : Nat) (r : Rl) (m : List (Nat × Nat)) (x : Nat) (c : List Nat) : Prop where
  hd : c[0]? = some x
  pw : c.Pairwise fun a b => r a b = true
  lt : ∀ a ∈ c, a < n
  lk : ∀ (i : Nat) a b, c[i]? = some a → c[i + 1]? = some b → vl m b = some a
def Mxm (m : List (Nat × Nat)) (c : List Nat) : Prop := ∀ l, c.getLast? = some l → ∀ k, vl m k ≠ some l
theorem Chn.len {n : Nat} {r : Rl} {m : List (Nat × Nat)} {x : Nat} {c : List Nat} (hr : Po n r) (h : Chn n r m x c) : c.length ≤ n := by
  have := nd_len c (List.range n) ((List.Pairwise.and_mem.mp h.pw).imp fun {a b} ⟨ha, hb, e⟩ z => by
    rw [z, hr.irr b (h.lt b hb)] at e; cases e) fun x hx => List.mem_range.mpr (h.lt x hx)
  rwa [List.length_range] at this
theorem Chn.add {n : Nat} {r : Rl} {m : List (Nat × Nat)} {x l k : Nat} {c : List Nat} (hr : Po n r) (mt : Mtc n r m) (h : Chn n r m x (c ++ [l])) (hk : vl m k = some l) : Chn n r m x (c ++ [l] ++ [k]) := by
  obtain ⟨kn, ln, rk⟩ := mt.ok k l hk
  refine ⟨?_, ?_, fun a ha => ?_, fun i a b ha hb => ?_⟩
  · rw [List.getElem?_append_left (by simp)]; exact h.hd
  · rw [List.pairwise_append]
    refine ⟨h.pw, by simp, fun a ha b hb => ?_⟩
    rw [List.mem_singleton] at hb
    rw [hb]
    rcases List.mem_append.mp ha with z | z
    · have u := h.pw
      rw [List.pairwise_append] at u
      have := u.2.2 a z l (List.mem_singleton.mpr rfl)
      exact hr.tr a l k (h.lt a ha) ln kn this rk
    · rw [List.mem_singleton] at z; rw [z]; exact rk
  · rcases List.mem_append.mp ha with z | z
    · exact h.lt a z
    · rw [List.mem_singleton] at z; rw [z]; exact kn
  · by_cases hlt : i + 1 < (c ++ [l]).length
    · rw [List.getElem?_append_left hlt] at hb
      rw [List.getElem?_append_left (by omega)] at ha
      exact h.lk i a b ha hb
    · have hbl := (List.getElem?_eq_some_iff.mp hb).1
      rw [List.length_append, List.length_singleton] at hbl
      have hi : i + 1 = (c ++ [l]).length := by omega
      rw [hi, List.getElem?_append_right (Nat.le_refl _), Nat.sub_self] at hb
      cases hb
      rw [List.getElem?_append_left (by omega)] at ha
      have hi2 : i = c.length := by rw [List.length_append, List.length_singleton] at hi; omega
      rw [hi2, List.getElem?_append_right (Nat.le_refl _), Nat.sub_self] at ha
      cases ha
      exact hk
/-- chains that have all things -/
structure Chs (n : Nat) (r : Rl) (ls : List (List Nat)) : Prop where
  few : ls.length ≤ n
  len : ∀ c ∈ ls, c.length ≤ n
  lt : ∀ c ∈ ls, ∀ a ∈ c, a < n
  ch : ∀ c ∈ ls, ∀ a ∈ c, ∀ b ∈ c, a = b ∨ r a b = true ∨ r b a = true
  all : ∀ x, x < n → ∃ c ∈ ls, x ∈ c
theorem pw_ch {r : Rl} {c : List Nat} (h : c.Pairwise fun a b => r a b = true) : ∀ a ∈ c, ∀ b ∈ c, a = b ∨ r a b = true ∨ r b a = true := by
  induction c with
  | nil => intro a ha; cases ha
  | cons x c ih =>
    rw [List.pairwise_cons] at h
    intro a ha b hb
    rcases List.mem_cons.mp ha with y | y <;> rcases List.mem_cons.mp hb with z | z
    · exact .inl (y.trans z.symm)
    · rw [y]; exact .inr (.inl (h.1 b z))
    · rw [z]; exact .inr (.inr (h.1 a y))
    · exact ih h.2 a y b z
theorem chs_all {n : Nat} {r : Rl} {m : List (Nat × Nat)} {ls : List (List Nat)} (hr : Po n r) (mt : Mtc n r m) (ij : Inj m) (h : ∀ x, x < n → x ∉ m.map (·.1) → ∃ f ∈ ls, ∃ c, Chn n r m x c ∧ Mxm m c ∧ f.Perm c) :
    ∀ (k y : Nat), y < n → ((List.range n).filter fun a => r a y).length ≤ k → ∃ f ∈ ls, ∃ x c, Chn n r m x c ∧ Mxm m c ∧ f.Perm c ∧ y ∈ c := by
  intro k
  induction k with
  | zero =>
    intro y hy hk
    by_cases e : y ∈ m.map (·.1)
    · exfalso
      obtain ⟨z, hz⟩ := vl_mem.mp e
      obtain ⟨_, zn, rz⟩ := mt.ok y z hz
      have : z ∈ (List.range n).filter fun a => r a y := List.mem_filter.mpr ⟨List.mem_range.mpr zn, rz⟩
      have := List.length_pos_of_mem this
      omega
    · obtain ⟨f, hf, c, h1, h2, h3⟩ := h y hy e
      exact ⟨f, hf, y, c, h1, h2, h3, List.mem_of_getElem? h1.hd⟩
  | succ k ih =>
    intro y hy hk
    by_cases e : y ∈ m.map (·.1)
    · obtain ⟨z, hz⟩ := vl_mem.mp e
      obtain ⟨_, zn, rz⟩ := mt.ok y z hz
      have lt := filter_lt (p := fun a => r a z) (q := fun a => r a y) (l := List.range n) (fun a ha hp => hr.tr a z y (List.mem_range.mp ha) zn hy hp rz) (List.mem_range.mpr zn) rz (hr.irr z zn)
      obtain ⟨f, hf, x, c, h1, h2, h3, h4⟩ := ih z zn (by omega)
      refine ⟨f, hf, x, c, h1, h2, h3, ?_⟩
      obtain ⟨i, hi⟩ := List.mem_iff_getElem?.mp h4
      have il := (List.getElem?_eq_some_iff.mp hi).1
      by_cases hlast : i + 1 < c.length
      · obtain ⟨w, hw⟩ : ∃ w, c[i + 1]? = some w := ⟨_, List.getElem?_eq_getElem hlast⟩
        have := h1.lk i z w hi hw
        rw [ij y w z hz this]
        exact List.mem_of_getElem? hw
      · exfalso
        refine h2 z ?_ y hz
        rw [List.getLast?_eq_getElem?, show c.length - 1 = i by omega]
        exact hi
    · obtain ⟨f, hf, c, h1, h2, h3⟩ := h y hy e
      exact ⟨f, hf, y, c, h1, h2, h3, List.mem_of_getElem? h1.hd⟩
def Pre_chains_of : List PyData → (Sl → Prop) → Prop := fun ds R => ∃ (n : Nat), ∃ (r : Rl), (n ≤ 6) ∧ (Po n r) ∧ ds = [eO n r] ∧ R = (fun v => ∃ d, v = .dat d ∧ (fun d => ∃ ls : List (List Nat), d = eLLN ls ∧ Chs n r ls) d)
theorem W_chains_of {E : XK} {ss : List Sl} {t0 : TE} {P : PyData → Prop} {n : Nat} {r : Rl} (k0 : Wd t0 ss (eO n r)) (hk : ∀ d, (fun d => ∃ ls : List (List Nat), d = eLLN ls ∧ Chs n r ls) d → P d) (h1 : n ≤ 6 := by walk_at "ln") (h2 : Po n r := by walk_at "ln") : W (tCall (SpD Pre_chains_of) [] E (tCons t0 tNil)) ss P := W_call (WA_cons (k0.to (WA_nil ⟨_, ⟨n, r, h1, h2, rfl, rfl⟩, fun s hs => (by obtain ⟨d, rfl, g⟩ := hs; exact ⟨d, rfl, hk d g⟩)⟩)))
theorem ok_chains_of {P : Program} {w : World} {K : PySem.W.Frag} {mg : Str → Option Value} {base : Heap} (T : Txt K mg) : Ok P w K mg base 14 "chains_of" ["order"] (SpD Pre_chains_of) := by
  obtain ⟨f, fd, F, bb, m⟩ := T.d_chains_of
  refine ⟨f, fd, m, F.kp, bb, fnD F sc_chains_of (fun ds R h => by obtain ⟨n, r, _, _, rfl, _⟩ := h; rfl) fun cdv A outer s H E ds R hr h => ?_⟩
  obtain ⟨n, r, h1, h2, rfl, rfl⟩ := h
  refine ⟨_, (pss_cons (ps_set (i := 1) sc_chains_of.nd rfl (.inl rfl) pe_dnewK)
      (pss_cons (ps_for PassesOwn.never rfl (pi_range1 rfl T.b_range (pa_cons (pe_ix (kx_tup K) (pv 0) pe_int (fun _ _ => rfl)) pa_nil)) (pg_name (i := 2) sc_chains_of.nd rfl (.inl rfl)) (pss_one (ps_expr (pe_callN (ok_augmented T) (hr.mono (by decide)) (by rfl) (pa_cons (pv 0) (pa_cons (pv 2) (pa_cons (pe_lst pa_nil) (pa_cons (pv 1) pa_nil))))))))
      (pss_cons (ps_set (i := 3) sc_chains_of.nd rfl (.inl rfl) pe_dnewK)
      (pss_cons (ps_lock (ps_for PassesOwn.never rfl (pi_keys (pv 1)) (pg_name (i := 4) sc_chains_of.nd rfl (.inl rfl)) (pss_one (ps_dput (hu_of hr) (pv 3) (pe_dget (hu_of hr) (pv 1) (pv 4) (fun _ _ => rfl)) (pv 4) rfl))))
      (pss_cons (ps_set (i := 5) sc_chains_of.nd rfl (.inl rfl) (pe_lst pa_nil))
      (pss_cons (ps_for PassesOwn.never rfl (pi_range1 rfl T.b_range (pa_cons (pe_ix (kx_tup K) (pv 0) pe_int (fun _ _ => rfl)) pa_nil)) (pg_name (i := 2) sc_chains_of.nd rfl (.inl rfl)) (pss_one (ps_if (pt_cmp (pc_dnotin (hu_of hr) (pv 2) (pv 1))) (pss_cons (ps_set (i := 6) sc_chains_of.nd rfl (.inl rfl) (pe_lst (pa_cons (pv 2) pa_nil)))
      (pss_cons (ps_while PassesOwn.never (pt_cmp (pc_din (hu_of hr) (pe_ix (kx_list K) (pv 6) (pe_un un_neg pe_int) (fun _ _ => rfl)) (pv 3))) (pss_one (ps_expr (pe_bm PySem.F.plainAttrs_list PySem.F.slot_list_append PySem.F.type_list_append mt_append (pv 6) (pa_cons (pe_dget (hu_of hr) (pv 3) (pe_ix (kx_list K) (pv 6) (pe_un un_neg pe_int) (fun _ _ => rfl)) (fun _ _ => rfl)) pa_nil)))))
      (pss_one (ps_expr (pe_bm PySem.F.plainAttrs_list PySem.F.slot_list_append PySem.F.type_list_append mt_append (pv 5) (pa_cons (pe_callB cr_sorted (by rfl) T.b_sorted (by decide +kernel) (pa_cons (pv 6) pa_nil)) pa_nil)))))) pss_nil)))
      (pss_one (ps_ret (pe_callB (c_sortedLL hr) (by rfl) T.b_sorted (by decide +kernel) (pa_cons (pv 5) pa_nil)))))))))), ?_⟩
  refine T_seq (T_newK ?_)
  refine T_seq (T_for [2] ((VI_rng (V_o0 (V_var rfl)) (by walk_at "ln")).to ⟨fun i ss => ∃ m y2, Mtc n r m ∧ Inj m ∧ (∀ k v, vl m k = some v → v < i) ∧ ss = [.dat (eO n r), .own (.dK m), y2, .no, .no, .no, .no], ⟨[], _, ⟨.nil, fun k v h => by cases h⟩, fun k1 k2 v h => (by cases h), fun k v h => (by cases h), rfl⟩, ?_, ?_⟩))
  · rintro i d ss' hd ⟨m, y2, mt, ij, hv, rfl⟩
    obtain ⟨hi, rfl⟩ := rng_turn hd
    refine WG_name (T_augTop (n := n) (r := r) (t := i) (m := m) rfl rfl rfl ⟨h1, hi, ⟨.nil, fun x hx => by cases hx⟩, by show n < 0 + 8; omega, mt, ij, fun k hk => absurd (hv k i hk) (Nat.lt_irrefl i)⟩ fun b sn' m' po => ?_)
    cases b with
    | false =>
      obtain rfl := po.no rfl
      exact ⟨m', _, mt, ij, fun k v h => Nat.lt_succ_of_lt (hv k v h), rfl⟩
    | true =>
      obtain ⟨k0, _, hat⟩ := po.at' rfl
      refine ⟨m', _, po.mt rfl, fun k1 k2 v e1 e2 => ?_, fun k v h => ?_, rfl⟩
      · by_cases e : v = i
        · rw [e] at e1 e2
          rcases hat k1 e1 with z | z
          · rcases hat k2 e2 with y | y
            · rw [z, y]
            · cases y
          · cases z
        · exact po.un rfl v e k1 k2 e1 e2
      · rcases po.vs rfl k v h with z | ⟨k', hk'⟩
        · omega
        · have := hv k' v hk'; omega
  · rintro ss' ⟨m, y2, mt, ij, _, rfl⟩
    refine T_seq (T_newK ?_)
    have ml := mt.len
    suffices hmain : ∀ y4, Tt _ [.dat (eO n r), .own (.dK m), y2, .own (.dK (nxD m)), y4, .no, .no] _ from
      T_seq (T_turnDict (m := m) rfl rfl (by show 4 < 7; omega) mt.nd (by omega) (hmain _) fun x => hmain _)
    intro y4
    refine T_seq (T_newL (WA_nil ⟨by show 0 ≤ 100000; omega, ?_⟩))
    refine T_seq (T_for [2] ((VI_rng (V_o0 (V_var rfl)) (by walk_at "ln")).to ⟨fun i ss => ∃ fs y2 y6, fs.length ≤ i ∧ (∀ f ∈ fs, ∃ x c, Chn n r m x c ∧ f.Perm c) ∧ (∀ x, x < i → x ∉ m.map (·.1) → ∃ f ∈ fs, ∃ c, Chn n r m x c ∧ Mxm m c ∧ f.Perm c) ∧
      ss = [.dat (eO n r), .own (.dK m), y2, .own (.dK (nxD m)), y4, .own (.lst (fs.map eLN)), y6], ⟨[], _, _, Nat.le_refl 0, fun f hf => (by cases hf), fun x hx => absurd hx (Nat.not_lt_zero x), rfl⟩, ?_, ?_⟩))
    · rintro i d ss' hd ⟨fs, y2, y6, hfl, hfc, hfa, rfl⟩
      obtain ⟨hi, rfl⟩ := rng_turn hd
      refine WG_name (T_if (WT_B (W_dninK (kvs := m) rfl (.inl rfl) (Wd.to (V_var rfl) ⟨i, rfl, _, rfl, ?_⟩))))
      by_cases hin : i ∈ m.map (·.1)
      · rw [decide_eq_true hin]
        refine iteF (T_next ⟨fs, _, _, Nat.le_succ_of_le hfl, hfc, fun x hx hxm => ?_, rfl⟩)
        by_cases e : x = i
        · rw [e] at hxm; exact absurd hin hxm
        · exact hfa x (by omega) hxm
      · rw [decide_eq_false hin]
        refine iteT (T_seq (T_newL (WA_cons (Wd.to (V_var rfl) (WA_nil ⟨by show 1 ≤ 100000; omega, ?_⟩)))))
        refine T_seq (T_while (fun mm ss => ∃ c l, mm = n - c.length ∧ Chn n r m i (c ++ [l]) ∧ ss = [.dat (eO n r), .own (.dK m), .dat (eN i), .own (.dK (nxD m)), y4, .own (.lst (fs.map eLN)), .own (.lst (c.map eN ++ [eN l]))]) n ⟨[], i, rfl, ⟨rfl, by simp, fun a ha => by rw [List.mem_singleton.mp ha]; exact hi, fun j a b _ hb => by simp at hb⟩, rfl⟩ ?_)
        rintro mm ss' ⟨c, l, rfl, hc, rfl⟩
        have hcl := hc.len h2
        rw [List.length_append, List.length_singleton] at hcl
        refine WT_B (W_dinK (kvs := nxD m) rfl (.inl rfl) (W_ixLO rfl (.inl rfl) ⟨l, rfl, _, rfl, ?_⟩))
        by_cases hnx : l ∈ (nxD m).map (·.1)
        · rw [decide_eq_true hnx]
          obtain ⟨k, hk⟩ := vl_mem.mp hnx
          have hk' := (nxD_iff mt.nd ij).mp hk
          refine iteT (T_app rfl (by rw [List.length_append, List.length_map]; show _ + 1 < _; omega) (W_dgetK (kvs := nxD m) rfl (.inl rfl) (W_ixLO rfl (.inl rfl) ⟨l, k, rfl, hk, ?_⟩)))
          refine ⟨n - (c.length + 1), by omega, c ++ [l], k, by rw [List.length_append]; rfl, hc.add h2 mt hk', ?_⟩
          rw [List.map_append]; rfl
        · rw [decide_eq_false hnx]
          have hmx : Mxm m (c ++ [l]) := fun l' hl' k hk => by
            rw [List.getLast?_concat] at hl'
            cases hl'
            exact hnx (vl_mem.mpr ⟨k, (nxD_iff mt.nd ij).mpr hk⟩)
          refine iteF (T_frz 6 rfl (T_app rfl (by rw [List.length_map]; omega) (W_sortedI (l := c ++ [l]) (Wd.cast (V_var rfl) (by unfold eLN; rw [List.map_append]; rfl)) (by rw [List.length_append]; show _ + 1 < _; omega) fun s hs _ => ?_)))
          refine ⟨fs ++ [s], .dat (eN i), .dat (.list (c.map eN ++ [eN l])), by rw [List.length_append]; show _ + 1 ≤ _; omega, fun f hf => ?_, fun x hx hxm => ?_, by rw [List.map_append]; rfl⟩
          · rcases List.mem_append.mp hf with z | z
            · exact hfc f z
            · rw [List.mem_singleton] at z
              exact ⟨i, c ++ [l], hc, by rw [z]; exact hs⟩
          · by_cases e : x = i
            · exact ⟨s, List.mem_append_right _ (List.mem_singleton.mpr rfl), c ++ [l], by rw [e]; exact hc, hmx, hs⟩
            · obtain ⟨f, hf, rest⟩ := hfa x (by omega) hxm
              exact ⟨f, List.mem_append_left _ hf, rest⟩
    · rintro ss' ⟨fs, y2', y6, hfl, hfc, hfa, rfl⟩
      rw [List.length_map, List.length_range] at hfl hfa
      refine T_frz 5 rfl (T_ret (W_sortedLL (ls := fs) (V_var rfl) fun ms hms => ⟨_, rfl, ms, rfl, ?_⟩))
      have back : ∀ c ∈ ms, ∃ x c', Chn n r m x c' ∧ c.Perm c' := fun c hc => hfc c (hms.mem_iff.mp hc)
      refine ⟨by rw [hms.length_eq]; exact hfl, fun c hc => ?_, fun c hc a ha => ?_, fun c hc a ha b hb => ?_, fun x hx => ?_⟩
      · obtain ⟨x, c', h1', h2'⟩ := back c hc
        rw [h2'.length_eq]; exact h1'.len h2
      · obtain ⟨x, c', h1', h2'⟩ := back c hc
        exact h1'.lt a (h2'.mem_iff.mp ha)
      · obtain ⟨x, c', h1', h2'⟩ := back c hc
        exact pw_ch h1'.pw a (h2'.mem_iff.mp ha) b (h2'.mem_iff.mp hb)
      · obtain ⟨f, hf, y, c, _, _, hp, hxc⟩ := chs_all h2 mt ij hfa _ x hx (Nat.le_refl _)
        exact ⟨f, hms.mem_iff.mpr hf, hp.mem_iff.mpr hxc⟩
end RO
namespace RO
open PySem PySem.Spec PyProof.Rows L2
local macro_rules | `(tactic| walk_at "ln") => `(tactic| (first | assumption | omega | (simp only [List.mem_range, List.length_range, List.length_map, List.length_append, List.length_cons, List.length_nil] at *; omega)))
/-- how many of a chain are at a thing or ahead of it -/
def cnC (r : Rl) (c : List Nat) (x : Nat) : Nat := (c.filter fun l => decide (l = x) || r l x).length
theorem fil_le {α : Type} {p q : α → Bool} : ∀ {l : List α}, (∀ x ∈ l, p x = true → q x = true) → (l.filter p).length ≤ (l.filter q).length
  | [], _ => by simp
  | a :: l, h => by
    have := fil_le (p := p) (q := q) (l := l) fun x hx => h x (List.mem_cons_of_mem _ hx)
    rw [List.filter_cons, List.filter_cons]
    have ha := h a List.mem_cons_self
    cases e1 : p a <;> cases e2 : q a
    · simpa using this
    · simp; omega
    · rw [e1, e2] at ha; exact absurd (ha rfl) (by decide)
    · simp; omega
theorem rb_irr {n : Nat} {r : Rl} {c : List Nat} (hr : Po n r) (hlt : ∀ a ∈ c, a < n) (hc : ∀ a ∈ c, ∀ b ∈ c, a = b ∨ r a b = true ∨ r b a = true) : ∀ a, a < n → rbR n r c a a = false := by
  intro a ha
  cases e : rbR n r c a a with
  | false => rfl
  | true =>
    exfalso
    have key := clo_le (S := fun x y => decide (cnC r c x < cnC r c y) || (decide (cnC r c x = cnC r c y) && r x y)) (R := inL (rbP n r c)) (n := n) (fun x y hx hy h => ?_) (fun x y z hx hy hz h1 h2 => ?_) ha ha e
    · simp [hr.irr a ha] at key
    · rcases List.mem_append.mp (inL_iff.mp h) with z | z
      · obtain ⟨_, _, rxy⟩ := mem_prs2.mp z
        have : cnC r c x ≤ cnC r c y := fil_le fun l hl h => by
          simp only [Bool.or_eq_true, decide_eq_true_eq] at h ⊢
          rcases h with h | h
          · right; rw [h]; exact rxy
          · right; exact hr.tr l x y (hlt l hl) hx hy h rxy
        simp only [Bool.or_eq_true, Bool.and_eq_true, decide_eq_true_eq]
        rcases Nat.lt_or_ge (cnC r c x) (cnC r c y) with u | u
        · exact .inl u
        · exact .inr ⟨by omega, rxy⟩
      · obtain ⟨l, hl, hz⟩ := List.mem_flatMap.mp z
        obtain ⟨t, ht, ep⟩ := List.mem_map.mp hz
        cases ep
        have hap := (List.mem_filter.mp ht).2
        unfold apR at hap
        simp only [Bool.and_eq_true, Bool.not_eq_true', decide_eq_true_eq] at hap
        obtain ⟨⟨n1, n2⟩, n3⟩ := hap
        have : cnC r c x < cnC r c y := by
          refine filter_lt (y := y) (fun l' hl' h => ?_) hl (by simp) ?_
          · simp only [Bool.or_eq_true, decide_eq_true_eq] at h ⊢
            rcases hc l' hl' y hl with u | u | u
            · exact .inl u
            · exact .inr u
            · exfalso
              rcases h with h | h
              · rw [h, n3] at u; cases u
              · rw [hr.tr y l' x hy (hlt l' hl') hx u h] at n3; cases n3
          · simp only [Bool.or_eq_false_iff, decide_eq_false_iff_not]
            exact ⟨fun z => n1 z.symm, n3⟩
        simp [this]
    · simp only [Bool.or_eq_true, Bool.and_eq_true, decide_eq_true_eq] at h1 h2 ⊢
      rcases h1 with u | ⟨u, u'⟩ <;> rcases h2 with v | ⟨v, v'⟩
      · left; omega
      · left; omega
      · left; omega
      · exact .inr ⟨by omega, hr.tr x y z hx hy hz u' v'⟩
def Pre_chain_rows : List PyData → (Sl → Prop) → Prop := fun ds R => ∃ (n : Nat), ∃ (r : Rl), (G6 n r) ∧ ds = [eO n r] ∧ R = (fun v => ∃ d, v = .dat d ∧ (fun d => ∃ rows : List (List Nat), d = eLR rows ∧ rows.length ≤ 6 ∧ ∃ ls, Chs n r ls ∧ rows.length = ls.length) d)
theorem W_chain_rows {E : XK} {ss : List Sl} {t0 : TE} {P : PyData → Prop} {n : Nat} {r : Rl} (k0 : Wd t0 ss (eO n r)) (hk : ∀ d, (fun d => ∃ rows : List (List Nat), d = eLR rows ∧ rows.length ≤ 6 ∧ ∃ ls, Chs n r ls ∧ rows.length = ls.length) d → P d) (h1 : G6 n r := by walk_at "ln") : W (tCall (SpD Pre_chain_rows) [] E (tCons t0 tNil)) ss P := W_call (WA_cons (k0.to (WA_nil ⟨_, ⟨n, r, h1, rfl, rfl⟩, fun s hs => (by obtain ⟨d, rfl, g⟩ := hs; exact ⟨d, rfl, hk d g⟩)⟩)))
theorem ok_chain_rows {P : Program} {w : World} {K : PySem.W.Frag} {mg : Str → Option Value} {base : Heap} (T : Txt K mg) : Ok P w K mg base 15 "chain_rows" ["order"] (SpD Pre_chain_rows) := by
  obtain ⟨f, fd, F, bb, m⟩ := T.d_chain_rows
  refine ⟨f, fd, m, F.kp, bb, fnD F sc_chain_rows (fun ds R h => by obtain ⟨n, r, _, rfl, _⟩ := h; rfl) fun cdv A outer s H E ds R hr h => ?_⟩
  obtain ⟨n, r, h1, rfl, rfl⟩ := h
  refine ⟨_, (pss_cons (ps_expr (pe_callN (ok_need_order T) (hr.mono (by decide)) (by rfl) (pa_cons (pv 0) pa_nil)))
      (pss_one (ps_ret (pe_lc (own := [("chain", 1)]) (g := gName 1) (tt := tYes) rfl sc_chain_rows.nd (pi_list (pe_callN (ok_chains_of T) (hr.mono (by decide)) (by rfl) (pa_cons (pv 0) pa_nil))) (blkOk_by (own := [("chain", 1)]) (N := n_chain_rows) (sc := defScope s_chain_rows) (by decide +kernel)) (fun _ _ _ _ _ => (pg_name (i := 1) sc_chain_rows.nd rfl (.inl rfl))) (fun _ _ _ _ _ => pts_nil) (fun _ _ _ _ _ => (pe_callN (ok_row_behind T) (hr.mono (by decide)) (by rfl) (pa_cons (pv 0) (pa_cons (pv 1) pa_nil)))))))), ?_⟩
  have hn := h1.2.1
  refine T_seq (T_drop (Wd.to (V_need_order (V_var rfl)) ?_))
  refine T_ret (W_lcM eLN (fun c => eTN (fRow n (rbR n r c))) ((WI_list (W_chains_of (V_var rfl) (hk := fun d hd => ?_) hn h1.2.2))))
  obtain ⟨ls, rfl, hc⟩ := hd
  refine ⟨_, rfl, ls, rfl, by have := hc.few; omega, fun c hcm => WG_name (V_row_behind (V_var rfl) (V_var rfl) hn h1.2.2 (by have := hc.len c hcm; omega) (hc.lt c hcm) (rb_irr h1.2.2 (hc.lt c hcm) (hc.ch c hcm))), _, rfl, ls.map fun c => fRow n (rbR n r c), ?_, by rw [List.length_map]; have := hc.few; omega, ls, hc, List.length_map _⟩
  unfold eLR
  rw [List.map_map]; rfl
end RO
namespace RO
/-! ### turns that force one another: no knot, and the choice goes on -/
abbrev rv (t : Pr) : Pr := (t.2, t.1)
theorem fc_iff {l : List Pr} {p q : Pr} : fcB l p q = true ↔ p ≠ q ∧ ((p.1 = q.1 ∧ (p.2, q.2) ∉ l) ∨ (p.1 ≠ q.1 ∧ p.2 = q.2 ∧ (p.1, q.1) ∉ l)) := by
  unfold fcB
  by_cases h1 : p = q
  · simp [h1]
  · by_cases h2 : p.1 = q.1
    · simp [h1, h2]
    · simp [h1, h2]
def SymL (l : List Pr) : Prop := ∀ a b, (a, b) ∈ l → (b, a) ∈ l
def IrrL (l : List Pr) : Prop := ∀ a, (a, a) ∉ l
theorem fc_sym {l : List Pr} (h : SymL l) {p q : Pr} (f : fcB l p q = true) : fcB l q p = true := by
  obtain ⟨a, b⟩ := fc_iff.mp f
  refine fc_iff.mpr ⟨fun z => a z.symm, ?_⟩
  rcases b with ⟨b1, b2⟩ | ⟨b1, b2, b3⟩
  · exact .inl ⟨b1.symm, fun z => b2 (h _ _ z)⟩
  · exact .inr ⟨fun z => b1 z.symm, b2.symm, fun z => b3 (h _ _ z)⟩
theorem fc_rv {l : List Pr} (hi : IrrL l) {p q : Pr} (f : fcB l p q = true) : fcB l (rv p) (rv q) = true := by
  obtain ⟨a, b⟩ := fc_iff.mp f
  refine fc_iff.mpr ⟨fun z => a (by have := Prod.mk.inj z; exact Prod.ext this.2 this.1), ?_⟩
  rcases b with ⟨b1, b2⟩ | ⟨b1, b2, b3⟩
  · by_cases e : p.2 = q.2
    · exact absurd (Prod.ext b1 e) a
    · exact .inr ⟨e, b1, b2⟩
  · exact .inl ⟨b2, b3⟩
theorem Rch.mem {l : List Pr} {s q : Pr} (hs : s ∈ l) (h : Rch l s q) : q ∈ l := by
  cases h with
  | refl => exact hs
  | step _ hq _ => exact hq
theorem Rch.trans {l : List Pr} {s p q : Pr} (h1 : Rch l s p) (h2 : Rch l p q) : Rch l s q := by
  induction h2 with
  | refl => exact h1
  | step _ hq hf ih => exact .step ih hq hf
theorem Rch.one {l : List Pr} {p q : Pr} (hq : q ∈ l) (f : fcB l p q = true) : Rch l p q := .step .refl hq f
theorem Rch.symm {l : List Pr} (hl : SymL l) {s q : Pr} (hs : s ∈ l) (h : Rch l s q) : Rch l q s := by
  induction h with
  | refl => exact .refl
  | step hp hq hf ih => exact (Rch.one (hp.mem hs) (fc_sym hl hf)).trans ih
theorem Rch.rv {l : List Pr} (hl : SymL l) (hi : IrrL l) {s q : Pr} (h : Rch l s q) : Rch l (rv s) (rv q) := by
  induction h with
  | refl => exact .refl
  | step _ hq hf ih => exact .step ih (hl _ _ hq) (fc_rv hi hf)
/-- THE TRIANGLE LEMMA -/
theorem tri {l : List Pr} (hl : SymL l) (hi : IrrL l) {a b c : Nat} (hab : (a, b) ∈ l) (hac : (a, c) ∈ l) (hbc : (b, c) ∈ l) (n1 : ¬ Rch l (b, c) (a, c)) (n2 : ¬ Rch l (b, c) (b, a)) {q : Pr} (h : Rch l (b, c) q) :
    Rch l (a, b) (a, q.1) ∧ Rch l (a, c) (a, q.2) := by
  induction h with
  | refl => exact ⟨.refl, .refl⟩
  | @step p q hp hq hf ih =>
    obtain ⟨i1, i2⟩ := ih
    obtain ⟨f1, f2⟩ := fc_iff.mp hf
    have m1 := i1.mem hab
    have m2 := i2.mem hac
    rcases f2 with ⟨e, hn⟩ | ⟨e1, e, hn⟩
    · -- the second thing moves
      rw [← e]
      refine ⟨i1, ?_⟩
      have hq' : q = (p.1, q.2) := Prod.ext e.symm rfl
      by_cases z : (a, q.2) ∈ l
      · refine i2.trans (.one z (fc_iff.mpr ⟨fun y => f1 (Prod.ext e (Prod.mk.inj y).2), .inl ⟨rfl, hn⟩⟩))
      · exfalso
        -- b a and b q2
        have st : Rch l q (p.1, a) := by
          by_cases y : q.2 = a
          · rw [hq', y]; exact .refl
          · refine .one (hl _ _ m1) (fc_iff.mpr ⟨fun w => y (by rw [w]), .inl ⟨e.symm, fun w => z (hl _ _ w)⟩⟩)
        have : Rch l (p.1, a) (b, a) := (i1.symm hl hab).rv hl hi
        exact n2 (((hp.step hq hf).trans st).trans this)
    · rw [← e]
      refine ⟨?_, i2⟩
      by_cases z : (a, q.1) ∈ l
      · refine i1.trans (.one z (fc_iff.mpr ⟨fun y => e1 (Prod.mk.inj y).2, .inl ⟨rfl, hn⟩⟩))
      · exfalso
        have hq' : q = (q.1, p.2) := Prod.ext rfl e.symm
        have st : Rch l q (a, p.2) := by
          by_cases y : q.1 = a
          · rw [hq', y]; exact .refl
          · refine .one m2 (fc_iff.mpr ⟨fun w => y (by rw [w]), .inr ⟨y, e.symm, fun w => z (hl _ _ w)⟩⟩)
        have : Rch l (a, p.2) (a, c) := i2.symm hl hac
        exact n1 (((hp.step hq hf).trans st).trans this)
def NoKn (l : List Pr) : Prop := ∀ t ∈ l, ¬ Rch l t (rv t)
/-- a class is transitive -/
theorem cls_tr {l : List Pr} (hl : SymL l) (hi : IrrL l) (hk : NoKn l) {a b c : Nat} (hab : (a, b) ∈ l) (h : Rch l (a, b) (b, c)) : Rch l (a, b) (a, c) := by
  have hbc := h.mem hab
  have nk := hk _ hbc
  by_cases hac : (a, c) ∈ l
  · refine Classical.byContradiction fun hno => ?_
    have h' := h.symm hl hab
    have t1 : ¬ Rch l (b, c) (a, c) := fun z => hno (h.trans z)
    have t2 : ¬ Rch l (b, c) (b, a) := fun z => hk _ hab (h.trans z)
    have := (tri hl hi hab hac hbc t1 t2 h').1.mem hab
    exact hi a this
  · exfalso
    by_cases e : a = c
    · subst e
      exact hk _ hab h
    · have st : Rch l (a, b) (c, b) := .one (hl _ _ hbc) (fc_iff.mpr ⟨fun z => e (Prod.mk.inj z).1, .inr ⟨e, rfl, hac⟩⟩)
      exact nk ((h.symm hl hab).trans st)
/-! ### one class gone -/
section
variable {l l' : List Pr} {a0 : Pr}
structure Gone (l l' : List Pr) (a0 : Pr) : Prop where
  sy : SymL l
  ir : IrrL l
  nk : NoKn l
  st : a0 ∈ l
  me : ∀ u, u ∈ l' ↔ u ∈ l ∧ ¬ Rch l a0 u ∧ ¬ Rch l a0 (rv u)
theorem Gone.sy' (G : Gone l l' a0) : SymL l' := fun a b h => by
  obtain ⟨h1, h2, h3⟩ := (G.me _).mp h
  exact (G.me _).mpr ⟨G.sy _ _ h1, h3, h2⟩
theorem Gone.ir' (G : Gone l l' a0) : IrrL l' := fun a h => G.ir a ((G.me _).mp h).1
/-- outside of the class and its reverse: so is all of its class -/
theorem Gone.out (G : Gone l l' a0) {u v : Pr} (hu : u ∈ l') (h : Rch l u v) : v ∈ l' := by
  obtain ⟨h1, h2, h3⟩ := (G.me _).mp hu
  refine (G.me _).mpr ⟨h.mem h1, fun z => h2 (z.trans (h.symm G.sy h1)), fun z => h3 ?_⟩
  exact z.trans ((h.symm G.sy h1).rv G.sy G.ir)
theorem Gone.notA (G : Gone l l' a0) {u v : Pr} (hu : u ∈ l') (hv : Rch l a0 v) : ¬ Rch l u v ∧ ¬ Rch l u (rv v) ∧ ¬ Rch l v u ∧ ¬ Rch l v (rv u) := by
  obtain ⟨h1, h2, h3⟩ := (G.me _).mp hu
  have v1 := hv.mem G.st
  refine ⟨fun z => h2 (hv.trans (z.symm G.sy h1)), fun z => ?_, fun z => h2 (hv.trans z), fun z => h3 (hv.trans z)⟩
  have := (z.symm G.sy h1).rv G.sy G.ir
  exact h3 (hv.trans this)
/-- closed under forcing in l', and never with a reverse -/
structure Clo (l' : List Pr) (U : Pr → Prop) : Prop where
  cl : ∀ u v, U u → v ∈ l' → fcB l' u v = true → U v
  an : ∀ u, U u → ¬ U (rv u)
theorem Clo.rv (hi : IrrL l') (hs : SymL l') {U : Pr → Prop} (h : Clo l' U) : Clo l' fun u => U (rv u) where
  cl u v hu hv hf := h.cl (RO.rv u) (RO.rv v) hu (hs _ _ hv) (fc_rv hi hf)
  an u hu := h.an (RO.rv u) hu
/-- forcing in l' that is none in l -/
theorem Gone.new (G : Gone l l' a0) {u v : Pr} (hu : u ∈ l') (hv : v ∈ l') (f : fcB l' u v = true) :
    fcB l u v = true ∨ (u.1 = v.1 ∧ (Rch l a0 (u.2, v.2) ∨ Rch l a0 (v.2, u.2))) ∨ (u.2 = v.2 ∧ (Rch l a0 (u.1, v.1) ∨ Rch l a0 (v.1, u.1))) := by
  obtain ⟨f1, f2⟩ := fc_iff.mp f
  rcases f2 with ⟨e, hn⟩ | ⟨e1, e, hn⟩
  · by_cases z : (u.2, v.2) ∈ l
    · right; left
      refine ⟨e, Classical.byContradiction fun q => hn ((G.me _).mpr ⟨z, fun y => q (.inl y), fun y => q (.inr y)⟩)⟩
    · exact .inl (fc_iff.mpr ⟨f1, .inl ⟨e, z⟩⟩)
  · by_cases z : (u.1, v.1) ∈ l
    · right; right
      refine ⟨e, Classical.byContradiction fun q => hn ((G.me _).mpr ⟨z, fun y => q (.inl y), fun y => q (.inr y)⟩)⟩
    · exact .inl (fc_iff.mpr ⟨f1, .inr ⟨e1, e, z⟩⟩)
/-- two classes that merge -/
theorem Gone.merge (G : Gone l l' a0) {x y z : Nat} (hxy : (x, y) ∈ l') (hxz : (x, z) ∈ l') (hyz : Rch l a0 (y, z)) (ne : ¬ Rch l (x, y) (x, z)) : Clo l' fun u => Rch l (x, y) u ∨ Rch l (x, z) u := by
  have mxy := ((G.me _).mp hxy).1
  have mxz := ((G.me _).mp hxz).1
  have myz := hyz.mem G.st
  have sy := G.sy
  have ir := G.ir
  obtain ⟨p1, p2, p3, p4⟩ := G.notA hxy hyz
  obtain ⟨q1, q2, q3, q4⟩ := G.notA hxz hyz
  -- what stands at a thing that begins an edge of the two classes
  have atx : ∀ {x' y' z' : Nat}, Rch l (x, y) (x', y') → Rch l (x, z) (x', z') → Rch l a0 (y', z') → ∀ q, Rch l a0 q → Rch l (x, y) (x', q.1) ∧ Rch l (x, z) (x', q.2) := fun {x' y' z'} h1 h2 h3 q hq => by
    have m1 := h1.mem mxy
    have m2 := h2.mem mxz
    have m3 := h3.mem G.st
    obtain ⟨r1, r2, r3, r4⟩ := G.notA (G.out hxy h1) h3
    obtain ⟨s1, s2, s3, s4⟩ := G.notA (G.out hxz h2) h3
    have t := tri sy ir m1 m2 m3 s3 r4 ((h3.symm sy G.st).trans hq)
    exact ⟨h1.trans t.1, h2.trans t.2⟩
  have fromB : ∀ {u : Pr}, Rch l (x, y) u → ∀ q, Rch l a0 q → Rch l (x, y) (u.1, q.1) ∧ Rch l (x, z) (u.1, q.2) := fun {u} hu => by
    have t := tri (a := z) (b := x) (c := y) sy ir (sy _ _ mxz) (sy _ _ myz) mxy p2 (fun w => ne w) hu
    have c1 : Rch l (x, z) (u.1, z) := t.1.rv sy ir
    have c2 : Rch l (y, z) (u.2, z) := t.2.rv sy ir
    exact atx (y' := u.2) hu c1 (hyz.trans c2)
  have fromC : ∀ {u : Pr}, Rch l (x, z) u → ∀ q, Rch l a0 q → Rch l (x, y) (u.1, q.1) ∧ Rch l (x, z) (u.1, q.2) := fun {u} hu => by
    have t := tri (a := y) (b := x) (c := z) sy ir (sy _ _ mxy) myz mxz q1 (fun w => ne (w.symm sy mxz)) hu
    have c1 : Rch l (x, y) (u.1, y) := t.1.rv sy ir
    exact atx (z' := u.2) c1 hu (hyz.trans t.2)
  have noself : ∀ {w : Nat}, ¬ Rch l (x, y) (w, w) ∧ ¬ Rch l (x, z) (w, w) := fun {w} => ⟨fun h => ir w (h.mem mxy), fun h => ir w (h.mem mxz)⟩
  refine ⟨fun u v hu hv hf => ?_, fun u hu hu' => ?_⟩
  · rcases hu with hu | hu
    · have al := fromB hu
      rcases G.new (G.out hxy hu) hv hf with f | ⟨e, f | f⟩ | ⟨e, f | f⟩
      · exact .inl (hu.step ((G.me _).mp hv).1 f)
      · have := (al _ f).2
        right
        rwa [show v = (u.1, v.2) from Prod.ext e.symm rfl]
      · exfalso
        have := (al _ f).2
        exact ne (hu.trans (this.symm sy mxz))
      · exact absurd (al _ f).1 noself.1
      · exact absurd (al _ f).2 noself.2
    · have al := fromC hu
      rcases G.new (G.out hxz hu) hv hf with f | ⟨e, f | f⟩ | ⟨e, f | f⟩
      · exact .inr (hu.step ((G.me _).mp hv).1 f)
      · exfalso
        have := (al _ f).1
        exact ne (this.trans (hu.symm sy mxz))
      · have := (al _ f).1
        left
        rwa [show v = (u.1, v.2) from Prod.ext e.symm rfl]
      · exact absurd (al _ f).1 noself.1
      · exact absurd (al _ f).2 noself.2
  · have cross : ∀ u, Rch l (x, y) u → Rch l (x, z) (rv u) → False := fun u h1 h2 => by
      have h3 : Rch l (z, x) u := h2.rv sy ir
      have h4 : Rch l (z, x) (x, y) := h3.trans (h1.symm sy mxy)
      have h5 := cls_tr sy ir G.nk (sy _ _ mxz) h4
      exact p2 ((h4.symm sy (sy _ _ mxz)).trans h5)
    rcases hu with hu | hu <;> rcases hu' with hu' | hu'
    · exact G.nk u (hu.mem mxy) ((hu.symm sy mxy).trans hu')
    · exact cross u hu hu'
    · exact cross (rv u) hu' hu
    · exact G.nk u (hu.mem mxz) ((hu.symm sy mxz).trans hu')
theorem Gone.has (G : Gone l l' a0) {t : Pr} (ht : t ∈ l') : ∃ U : Pr → Prop, U t ∧ Clo l' U := by
  have mt := ((G.me _).mp ht).1
  by_cases all : ∀ p q, Rch l t p → q ∈ l' → fcB l' p q = true → Rch l t q
  · exact ⟨Rch l t, .refl, ⟨fun u v hu hv hf => all u v hu hv hf, fun u hu hu' => G.nk u (hu.mem mt) ((hu.symm G.sy mt).trans hu')⟩⟩
  · have : ∃ p q, Rch l t p ∧ q ∈ l' ∧ fcB l' p q = true ∧ ¬ Rch l t q := Classical.byContradiction fun w => all fun p q h1 h2 h3 => Classical.byContradiction fun h4 => w ⟨p, q, h1, h2, h3, h4⟩
    obtain ⟨p, q, h1, h2, h3, h4⟩ := this
    have hp := G.out ht h1
    have mp := ((G.me _).mp hp).1
    have mq := ((G.me _).mp h2).1
    have back := h1.symm G.sy mt
    have npq : ¬ Rch l p q := fun z => h4 (h1.trans z)
    rcases G.new hp h2 h3 with f | ⟨e, f | f⟩ | ⟨e, f | f⟩
    · exact absurd (h1.step mq f) h4
    · have eq : q = (p.1, q.2) := Prod.ext e.symm rfl
      exact ⟨_, .inl back, G.merge (x := p.1) (y := p.2) (z := q.2) hp (by rw [← eq]; exact h2) f (by rw [← eq]; exact npq)⟩
    · have eq : q = (p.1, q.2) := Prod.ext e.symm rfl
      exact ⟨_, .inr back, G.merge (x := p.1) (y := q.2) (z := p.2) (by rw [← eq]; exact h2) hp f (by rw [← eq]; exact fun z => npq (z.symm G.sy mq))⟩
    · have eq : q = (q.1, p.2) := Prod.ext rfl e.symm
      have hq' : (p.2, q.1) ∈ l' := by have := G.sy' _ _ h2; rwa [← e] at this
      have nr : ¬ Rch l (p.2, p.1) (p.2, q.1) := fun z => npq (by have := z.rv G.sy G.ir; rw [eq]; exact this)
      have M := G.merge (x := p.2) (y := p.1) (z := q.1) (G.sy' _ _ hp) hq' f nr
      exact ⟨_, .inl (back.rv G.sy G.ir), M.rv G.ir' G.sy'⟩
    · have eq : q = (q.1, p.2) := Prod.ext rfl e.symm
      have hq' : (p.2, q.1) ∈ l' := by have := G.sy' _ _ h2; rwa [← e] at this
      have nr : ¬ Rch l (p.2, q.1) (p.2, p.1) := fun z => npq (by
        have := (z.symm G.sy ((G.me _).mp hq').1).rv G.sy G.ir
        rw [eq]; exact this)
      have M := G.merge (x := p.2) (y := q.1) (z := p.1) hq' (G.sy' _ _ hp) f nr
      exact ⟨_, .inr (back.rv G.sy G.ir), M.rv G.ir' G.sy'⟩
/-- no knot comes by taking a class away -/
theorem Gone.nk' (G : Gone l l' a0) : NoKn l' := fun t ht h => by
  obtain ⟨U, hU, C⟩ := G.has ht
  have key : ∀ q, Rch l' t q → U q := fun q hq => by
    induction hq with
    | refl => exact hU
    | step _ hq hf ih => exact C.cl _ _ ih hq hf
  exact C.an t hU (key _ h)
end
/-- a transitive choice -/
structure TO (l fs : List Pr) : Prop where
  sub : ∀ u ∈ fs, u ∈ l
  all : ∀ u ∈ l, u ∈ fs ∨ rv u ∈ fs
  an : ∀ u ∈ fs, rv u ∉ fs
  tr : ∀ a b c, (a, b) ∈ fs → (b, c) ∈ fs → (a, c) ∈ fs
  nd : fs.Nodup
theorem cho_to {l fs : List Pr} (h : Cho l fs) : SymL l → IrrL l → NoKn l → TO l fs := by
  induction h with
  | nil => exact fun _ _ _ => ⟨fun u hu => (by cases hu), fun u hu => (by cases hu), fun u hu => (by cases hu), fun a b c h => (by cases h), .nil⟩
  | @step a0 l some rest nd hs hc ih =>
    intro sy ir nk
    have G : Gone (a0 :: l) (lft (a0 :: l) some) a0 := ⟨sy, ir, nk, List.mem_cons_self, fun u => by
      rw [List.mem_filter, ← hs, ← hs]
      simp⟩
    have T := ih G.sy' G.ir' G.nk'
    have mA : ∀ {u}, u ∈ some → u ∈ a0 :: l := fun h => ((hs _).mp h).mem G.st
    have dis : ∀ {u}, u ∈ some → u ∈ rest → False := fun h1 h2 => ((G.me _).mp (T.sub _ h2)).2.1 ((hs _).mp h1)
    have dis' : ∀ {u}, rv u ∈ some → u ∈ rest → False := fun h1 h2 => ((G.me _).mp (T.sub _ h2)).2.2 ((hs _).mp h1)
    have trA : ∀ {a b c}, (a, b) ∈ some → (b, c) ∈ some → (a, c) ∈ some := fun {a b c} h1 h2 => by
      have h1' := (hs _).mp h1
      have := cls_tr sy ir nk (mA h1) ((h1'.symm sy G.st).trans ((hs _).mp h2))
      exact (hs _).mpr (h1'.trans this)
    have inA : ∀ {u v}, u ∈ some → v ∈ a0 :: l → fcB (a0 :: l) u v = true → v ∈ some := fun h1 h2 h3 => (hs _).mpr (((hs _).mp h1).step h2 h3)
    have mR : ∀ {u}, u ∈ rest → u ∈ a0 :: l := fun h => ((G.me _).mp (T.sub _ h)).1
    refine ⟨fun u hu => ?_, fun u hu => ?_, fun u hu hu' => ?_, fun a b c h1 h2 => ?_, ?_⟩
    · rcases List.mem_append.mp hu with z | z
      · exact mA z
      · exact mR z
    · by_cases z1 : u ∈ some
      · exact .inl (List.mem_append_left _ z1)
      · by_cases z2 : rv u ∈ some
        · exact .inr (List.mem_append_left _ z2)
        · have : u ∈ lft (a0 :: l) some := (G.me _).mpr ⟨hu, fun w => z1 ((hs _).mpr w), fun w => z2 ((hs _).mpr w)⟩
          rcases T.all u this with y | y
          · exact .inl (List.mem_append_right _ y)
          · exact .inr (List.mem_append_right _ y)
    · rcases List.mem_append.mp hu with z | z <;> rcases List.mem_append.mp hu' with y | y
      · exact nk u (mA z) ((((hs _).mp z).symm sy G.st).trans ((hs _).mp y))
      · exact dis' (u := rv u) z y
      · exact dis' (u := u) y z
      · exact T.an u z y
    · rcases List.mem_append.mp h1 with z | z <;> rcases List.mem_append.mp h2 with y | y
      · exact List.mem_append_left _ (trA z y)
      · -- (a, b) in the class, (b, c) chosen later
        by_cases hac : (a, c) ∈ a0 :: l
        · by_cases k1 : (a, c) ∈ some
          · exact List.mem_append_left _ k1
          · by_cases k2 : (c, a) ∈ some
            · exact absurd y (fun y => dis' (u := (b, c)) (trA k2 z) y)
            · have : (a, c) ∈ lft (a0 :: l) some := (G.me _).mpr ⟨hac, fun w => k1 ((hs _).mpr w), fun w => k2 ((hs _).mpr w)⟩
              rcases T.all _ this with w | w
              · exact List.mem_append_right _ w
              · exact absurd (T.tr b c a y w) (fun w => dis' (u := (b, a)) z w)
        · exfalso
          by_cases e : a = c
          · subst e; exact dis' (u := (b, a)) z y
          · have : (b, c) ∈ a0 :: l := mR y
            -- (a, b) forces (c, b)
            have := inA z (sy _ _ this) (fc_iff.mpr ⟨fun w => e (Prod.mk.inj w).1, .inr ⟨e, rfl, hac⟩⟩)
            exact dis' (u := (b, c)) this y
      · by_cases hac : (a, c) ∈ a0 :: l
        · by_cases k1 : (a, c) ∈ some
          · exact List.mem_append_left _ k1
          · by_cases k2 : (c, a) ∈ some
            · exact absurd z (fun z => dis' (u := (a, b)) (trA y k2) z)
            · have : (a, c) ∈ lft (a0 :: l) some := (G.me _).mpr ⟨hac, fun w => k1 ((hs _).mpr w), fun w => k2 ((hs _).mpr w)⟩
              rcases T.all _ this with w | w
              · exact List.mem_append_right _ w
              · exact absurd (T.tr c a b w z) (fun w => dis' (u := (c, b)) y w)
        · exfalso
          by_cases e : a = c
          · subst e; exact dis' (u := (a, b)) y z
          · -- (b, c) forces (b, a)
            have := inA y (sy _ _ (mR z)) (fc_iff.mpr ⟨fun w => e (Prod.mk.inj w).2.symm, .inl ⟨rfl, fun w => hac (sy _ _ w)⟩⟩)
            exact dis' (u := (a, b)) this z
      · exact List.mem_append_right _ (T.tr a b c z y)
    · rw [List.nodup_append]
      exact ⟨nd, T.nd, fun x hx y hy e => dis hx (by rw [e]; exact hy)⟩
end RO
namespace RO
/-! ### linear orders, ranks, rows -/
structure Lin (n : Nat) (L : Rl) : Prop where
  irr : ∀ a, a < n → L a a = false
  tr : ∀ a b c, a < n → b < n → c < n → L a b = true → L b c = true → L a c = true
  tot : ∀ a b, a < n → b < n → a ≠ b → L a b = true ∨ L b a = true
def rk (n : Nat) (L : Rl) (t : Nat) : Nat := ((List.range n).filter fun x => L x t).length
theorem rk_lt {n : Nat} {L : Rl} (h : Lin n L) {a b : Nat} (ha : a < n) (hb : b < n) (e : L a b = true) : rk n L a < rk n L b :=
  filter_lt (y := a) (fun x hx hp => h.tr x a b (List.mem_range.mp hx) ha hb hp e) (List.mem_range.mpr ha) e (h.irr a ha)
theorem rk_iff {n : Nat} {L : Rl} (h : Lin n L) {a b : Nat} (ha : a < n) (hb : b < n) : rk n L a < rk n L b ↔ L a b = true := by
  refine ⟨fun hlt => ?_, rk_lt h ha hb⟩
  by_cases e : a = b
  · subst e; exact absurd hlt (Nat.lt_irrefl _)
  · rcases h.tot a b ha hb e with z | z
    · exact z
    · have := rk_lt h hb ha z; omega
theorem rk_inj {n : Nat} {L : Rl} (h : Lin n L) {a b : Nat} (ha : a < n) (hb : b < n) (e : rk n L a = rk n L b) : a = b := by
  refine Classical.byContradiction fun z => ?_
  rcases h.tot a b ha hb z with y | y
  · have := rk_lt h ha hb y; omega
  · have := rk_lt h hb ha y; omega
theorem rk_n {n : Nat} {L : Rl} (h : Lin n L) {a : Nat} (ha : a < n) : rk n L a < n := by
  have := filter_lt (p := fun x => L x a) (q := fun _ => true) (l := List.range n) (fun _ _ _ => rfl) (List.mem_range.mpr ha) rfl (h.irr a ha)
  rw [List.filter_eq_self.mpr (fun _ _ => rfl), List.length_range] at this
  exact this
theorem map_nd {α β : Type} {f : α → β} : ∀ {l : List α}, l.Nodup → (∀ a ∈ l, ∀ b ∈ l, f a = f b → a = b) → (l.map f).Nodup
  | [], _, _ => .nil
  | x :: l, h, hf => by
    rw [List.nodup_cons] at h
    rw [List.map_cons, List.nodup_cons]
    refine ⟨fun z => ?_, map_nd h.2 fun a ha b hb => hf a (List.mem_cons_of_mem _ ha) b (List.mem_cons_of_mem _ hb)⟩
    obtain ⟨y, hy, e⟩ := List.mem_map.mp z
    have := hf y (List.mem_cons_of_mem _ hy) x List.mem_cons_self e
    exact h.1 (this ▸ hy)
theorem rks_perm {n : Nat} {L : Rl} (h : Lin n L) : ((List.range n).map (rk n L)).Perm (List.range n) := by
  refine perm_range (map_nd List.nodup_range fun a ha b hb e => rk_inj h (List.mem_range.mp ha) (List.mem_range.mp hb) e) (fun x hx => ?_) (by rw [List.length_map, List.length_range])
  obtain ⟨a, ha, rfl⟩ := List.mem_map.mp hx
  exact rk_n h (List.mem_range.mp ha)
theorem idx_at {l : List Nat} (nd : l.Nodup) {i a : Nat} (h : l[i]? = some a) : l.idxOf a = i := by
  have h1 := (idx_ok (List.mem_of_getElem? h)).1
  have hl := idx_lt (List.mem_of_getElem? h)
  rw [← h] at h1
  exact (List.getElem?_inj hl nd).mp h1
/-- the inverse row -/
def rwI (n : Nat) (L : Rl) : List Nat := (List.range n).map fun k => ((List.range n).map (rk n L)).idxOf k
theorem rwI_get {n : Nat} {L : Rl} (h : Lin n L) {t : Nat} (ht : t < n) : (rwI n L)[rk n L t]? = some t := by
  have hr := rk_n h ht
  have nd := (rks_perm h).nodup_iff.mpr List.nodup_range
  unfold rwI
  rw [List.getElem?_map, List.getElem?_range hr]
  show some (List.idxOf (rk n L t) _) = _
  rw [idx_at (i := t) nd (by rw [List.getElem?_map, List.getElem?_range ht]; rfl)]
theorem rwI_perm {n : Nat} {L : Rl} (h : Lin n L) : (rwI n L).Perm (List.range n) := by
  have p := rks_perm h
  refine perm_range (map_nd List.nodup_range fun a ha b hb e => ?_) (fun x hx => ?_) (by unfold rwI; rw [List.length_map, List.length_range])
  · have ha' := (idx_ok (p.mem_iff.mpr ha)).1
    have hb' := (idx_ok (p.mem_iff.mpr hb)).1
    rw [e, hb'] at ha'
    exact (Option.some.inj ha').symm
  · obtain ⟨a, ha, rfl⟩ := List.mem_map.mp hx
    have := idx_lt (p.mem_iff.mpr ha)
    rwa [List.length_map, List.length_range] at this
theorem rwI_idx {n : Nat} {L : Rl} (h : Lin n L) {t : Nat} (ht : t < n) : (rwI n L).idxOf t = rk n L t :=
  idx_at ((rwI_perm h).nodup_iff.mpr List.nodup_range) (rwI_get h ht)
/-! ### counts of pairs -/
theorem cntB_eq {n : Nat} {l : List Pr} (nd : l.Nodup) (hb : ∀ p ∈ l, p.1 < n ∧ p.2 < n) (t : Nat) : cntB l t = ((List.range n).filter fun x => inL l x t).length := by
  refine Nat.le_antisymm ?_ ?_
  · have := nd_len (l.filter fun p => decide (p.2 = t)) (((List.range n).filter fun x => inL l x t).map fun x => (x, t)) (nd.filter _) fun p hp => by
      obtain ⟨h1, h2⟩ := List.mem_filter.mp hp
      have e := of_decide_eq_true h2
      exact List.mem_map.mpr ⟨p.1, List.mem_filter.mpr ⟨List.mem_range.mpr (hb p h1).1, inL_iff.mpr (by rw [← e]; exact h1)⟩, by rw [← e]⟩
    rwa [List.length_map] at this
  · have := nd_len (((List.range n).filter fun x => inL l x t).map fun x => (x, t)) (l.filter fun p => decide (p.2 = t)) (map_nd (List.nodup_range.filter _) fun a _ b _ e => (Prod.mk.inj e).1) fun p hp => by
      obtain ⟨x, hx, rfl⟩ := List.mem_map.mp hp
      exact List.mem_filter.mpr ⟨inL_iff.mp (List.mem_filter.mp hx).2, by simp⟩
    rwa [List.length_map] at this
theorem cntA_eq {n : Nat} {l : List Pr} (nd : l.Nodup) (hb : ∀ p ∈ l, p.1 < n ∧ p.2 < n) (t : Nat) : cntA l t = ((List.range n).filter fun x => inL l t x).length := by
  refine Nat.le_antisymm ?_ ?_
  · have := nd_len (l.filter fun p => decide (p.1 = t)) (((List.range n).filter fun x => inL l t x).map fun x => (t, x)) (nd.filter _) fun p hp => by
      obtain ⟨h1, h2⟩ := List.mem_filter.mp hp
      have e := of_decide_eq_true h2
      exact List.mem_map.mpr ⟨p.2, List.mem_filter.mpr ⟨List.mem_range.mpr (hb p h1).2, inL_iff.mpr (by rw [← e]; exact h1)⟩, by rw [← e]⟩
    rwa [List.length_map] at this
  · have := nd_len (((List.range n).filter fun x => inL l t x).map fun x => (t, x)) (l.filter fun p => decide (p.1 = t)) (map_nd (List.nodup_range.filter _) fun a _ b _ e => (Prod.mk.inj e).2) fun p hp => by
      obtain ⟨x, hx, rfl⟩ := List.mem_map.mp hp
      exact List.mem_filter.mpr ⟨inL_iff.mp (List.mem_filter.mp hx).2, by simp⟩
    rwa [List.length_map] at this
theorem fil_sum {p q : Nat → Bool} : ∀ {l : List Nat}, (∀ x ∈ l, p x = true → q x = false) → (l.filter p).length + (l.filter q).length = (l.filter fun x => p x || q x).length
  | [], _ => rfl
  | a :: l, h => by
    have ih := fil_sum (p := p) (q := q) (l := l) fun x hx => h x (List.mem_cons_of_mem _ hx)
    have ha := h a List.mem_cons_self
    simp only [List.filter_cons]
    cases e1 : p a <;> cases e2 : q a
    · simpa using ih
    · simp; omega
    · simp; omega
    · rw [ha e1] at e2; cases e2
/-! ### what rows tell -/
structure Tells (n : Nat) (r : Rl) (rows : List (List Nat)) : Prop where
  rw' : rowsIn n rows
  eq : ∀ a b, a < n → b < n → tolR rows a b = r a b
theorem tol_iff {rows : List (List Nat)} {a b : Nat} : tolR rows a b = true ↔ a ≠ b ∧ ∀ row ∈ rows, row.idxOf a < row.idxOf b := by
  unfold tolR
  rw [Bool.and_eq_true, List.all_eq_true]
  simp
theorem mem_trn {n : Nat} {r : Rl} {a b : Nat} : (a, b) ∈ trn n r ↔ a < n ∧ b < n ∧ a ≠ b ∧ r a b = false ∧ r b a = false := by
  rw [mem_prs2]
  unfold apR
  simp [and_assoc]
theorem trn_sym (n : Nat) (r : Rl) : SymL (trn n r) := fun a b h => by
  obtain ⟨h1, h2, h3, h4, h5⟩ := mem_trn.mp h
  exact mem_trn.mpr ⟨h2, h1, fun z => h3 z.symm, h5, h4⟩
theorem trn_irr (n : Nat) (r : Rl) : IrrL (trn n r) := fun a h => (mem_trn.mp h).2.2.1 rfl
theorem idx_ne {n : Nat} {row : List Nat} (h : row.Perm (List.range n)) {a b : Nat} (ha : a < n) (hb : b < n) (e : a ≠ b) : row.idxOf a ≠ row.idxOf b := fun z => by
  have h1 := (idx_ok (h.mem_iff.mpr (List.mem_range.mpr ha))).1
  have h2 := (idx_ok (h.mem_iff.mpr (List.mem_range.mpr hb))).1
  rw [z, h2] at h1
  exact e (Option.some.inj h1).symm
/-- two rows that tell: no knot -/
theorem two_noknot {n : Nat} {r : Rl} {ra rb : List Nat} (h : Tells n r [ra, rb]) : ¬ Knot n r := by
  rintro ⟨t, ht, hk⟩
  have pa : ra.Perm (List.range n) := h.rw' _ List.mem_cons_self
  have pb : rb.Perm (List.range n) := h.rw' _ (List.mem_cons_of_mem _ List.mem_cons_self)
  have both : ∀ a b, a < n → b < n → (r a b = true ↔ a ≠ b ∧ ra.idxOf a < ra.idxOf b ∧ rb.idxOf a < rb.idxOf b) := fun a b ha hb => by
    rw [← h.eq a b ha hb, tol_iff]
    simp
  have turn : ∀ {a b}, (a, b) ∈ trn n r → (ra.idxOf a < ra.idxOf b ∧ rb.idxOf b < rb.idxOf a) ∨ (ra.idxOf b < ra.idxOf a ∧ rb.idxOf a < rb.idxOf b) := fun {a b} hab => by
    obtain ⟨h1, h2, h3, h4, h5⟩ := mem_trn.mp hab
    have n1 := idx_ne pa h1 h2 h3
    have n2 := idx_ne pb h1 h2 h3
    have q1 : ¬ (a ≠ b ∧ ra.idxOf a < ra.idxOf b ∧ rb.idxOf a < rb.idxOf b) := fun z => by rw [(both a b h1 h2).mpr z] at h4; cases h4
    have q2 : ¬ (b ≠ a ∧ ra.idxOf b < ra.idxOf a ∧ rb.idxOf b < rb.idxOf a) := fun z => by rw [(both b a h2 h1).mpr z] at h5; cases h5
    have h3' : b ≠ a := fun z => h3 z.symm
    simp only [h3, h3', true_and, not_false_eq_true, ne_eq] at q1 q2
    omega
  have comp : ∀ {b c}, b < n → c < n → b ≠ c → (b, c) ∉ trn n r → (ra.idxOf b < ra.idxOf c ∧ rb.idxOf b < rb.idxOf c) ∨ (ra.idxOf c < ra.idxOf b ∧ rb.idxOf c < rb.idxOf b) := fun {b c} hb hc hne hno => by
    cases e1 : r b c with
    | true => exact .inl ((both b c hb hc).mp e1).2
    | false =>
      cases e2 : r c b with
      | true => exact .inr ((both c b hc hb).mp e2).2
      | false => exact absurd (mem_trn.mpr ⟨hb, hc, hne, e1, e2⟩) hno
  have step : ∀ {p q : Pr}, p ∈ trn n r → q ∈ trn n r → fcB (trn n r) p q = true → ra.idxOf p.1 < ra.idxOf p.2 → ra.idxOf q.1 < ra.idxOf q.2 := fun {p q} hp hq hf hlt => by
    obtain ⟨f1, f2⟩ := fc_iff.mp hf
    have tp := turn (a := p.1) (b := p.2) hp
    have tq := turn (a := q.1) (b := q.2) hq
    obtain ⟨p1, p2, _⟩ := mem_trn.mp (show (p.1, p.2) ∈ trn n r from hp)
    obtain ⟨q1, q2, _⟩ := mem_trn.mp (show (q.1, q.2) ∈ trn n r from hq)
    rcases f2 with ⟨e, hn⟩ | ⟨e1, e, hn⟩
    · have c := comp p2 q2 (fun z => f1 (Prod.ext e z)) hn
      rw [← e] at tq ⊢
      omega
    · have c := comp p1 q1 e1 hn
      rw [← e] at tq ⊢
      omega
  have all : ∀ {s q : Pr}, s ∈ trn n r → Rch (trn n r) s q → ra.idxOf s.1 < ra.idxOf s.2 → ra.idxOf q.1 < ra.idxOf q.2 := fun {s q} hs hq hlt => by
    induction hq with
    | refl => exact hlt
    | step hp hq hf ih => exact step (hp.mem hs) hq hf ih
  have tt := turn (a := t.1) (b := t.2) ht
  by_cases z : ra.idxOf t.1 < ra.idxOf t.2
  · have := all ht hk z
    have : ra.idxOf t.2 < ra.idxOf t.1 := this
    omega
  · have hk' : Rch (trn n r) (rv t) t := hk.rv (trn_sym n r) (trn_irr n r)
    exact z (all (trn_sym n r _ _ ht) hk' (show ra.idxOf t.2 < ra.idxOf t.1 by omega))
/-! ### no knot: two rows -/
theorem lin_of {n : Nat} {r : Rl} (hr : Po n r) {fs : List Pr} (h : TO (trn n r) fs) : Lin n fun a b => r a b || inL fs a b where
  irr a ha := by
    have : (a, a) ∉ fs := fun z => trn_irr n r a (h.sub _ z)
    rw [hr.irr a ha, inL_no.mpr this]; rfl
  tot a b ha hb e := by
    simp only [Bool.or_eq_true, inL_iff]
    cases e1 : r a b with
    | true => exact .inl (.inl rfl)
    | false =>
      cases e2 : r b a with
      | true => exact .inr (.inl rfl)
      | false =>
        rcases h.all _ (mem_trn.mpr ⟨ha, hb, e, e1, e2⟩) with z | z
        · exact .inl (.inr z)
        · exact .inr (.inr z)
  tr a b c ha hb hc h1 h2 := by
    simp only [Bool.or_eq_true, inL_iff] at h1 h2 ⊢
    have tf : ∀ {x y}, (x, y) ∈ fs → x < n ∧ y < n ∧ x ≠ y ∧ r x y = false ∧ r y x = false := fun z => mem_trn.mp (h.sub _ z)
    have an : ∀ {x y}, (x, y) ∈ fs → (y, x) ∉ fs := fun z => h.an _ z
    rcases h1 with u | u <;> rcases h2 with v | v
    · exact .inl (hr.tr a b c ha hb hc u v)
    · have v' := tf v
      by_cases e : a = c
      · rw [e] at u; rw [u] at v'; exact absurd v'.2.2.2.2 (by decide)
      · cases e1 : r a c with
        | true => exact .inl rfl
        | false =>
          cases e2 : r c a with
          | true =>
            have := hr.tr c a b hc ha hb e2 u
            rw [this] at v'; exact absurd v'.2.2.2.2 (by decide)
          | false =>
            rcases h.all _ (mem_trn.mpr ⟨ha, hc, e, e1, e2⟩) with z | z
            · exact .inr z
            · have w := tf (h.tr b c a v z)
              rw [u] at w; exact absurd w.2.2.2.2 (by decide)
    · have u' := tf u
      by_cases e : a = c
      · rw [← e] at v; rw [v] at u'; exact absurd u'.2.2.2.2 (by decide)
      · cases e1 : r a c with
        | true => exact .inl rfl
        | false =>
          cases e2 : r c a with
          | true =>
            have := hr.tr b c a hb hc ha v e2
            rw [this] at u'; exact absurd u'.2.2.2.2 (by decide)
          | false =>
            rcases h.all _ (mem_trn.mpr ⟨ha, hc, e, e1, e2⟩) with z | z
            · exact .inr z
            · have w := tf (h.tr c a b z u)
              rw [v] at w; exact absurd w.2.2.2.2 (by decide)
    · exact .inr (h.tr a b c u v)
theorem to_rv {n : Nat} {r : Rl} {fs : List Pr} (h : TO (trn n r) fs) : TO (trn n r) (fs.map rv) := by
  have mem : ∀ u, u ∈ fs.map rv ↔ rv u ∈ fs := fun u => by
    rw [List.mem_map]
    constructor
    · rintro ⟨v, hv, rfl⟩; exact hv
    · intro hu; exact ⟨rv u, hu, rfl⟩
  refine ⟨fun u hu => ?_, fun u hu => ?_, fun u hu hu' => ?_, fun a b c h1 h2 => ?_, ?_⟩
  · exact trn_sym n r _ _ (h.sub _ ((mem u).mp hu))
  · rw [mem, mem]
    rcases h.all u hu with z | z
    · exact .inr z
    · exact .inl z
  · rw [mem] at hu hu'
    exact h.an _ hu hu'
  · rw [mem] at h1 h2 ⊢
    exact h.tr c b a h2 h1
  · exact map_nd h.nd fun a _ b _ e => by have := Prod.mk.inj e; exact Prod.ext this.2 this.1
theorem inL_rv {fs : List Pr} {a b : Nat} : inL (fs.map rv) a b = inL fs b a := by
  rw [Bool.eq_iff_iff, inL_iff, inL_iff, List.mem_map]
  constructor
  · rintro ⟨v, hv, e⟩
    have := Prod.mk.inj e
    rwa [show (b, a) = v from Prod.ext this.2.symm this.1.symm]
  · intro h; exact ⟨(b, a), h, rfl⟩
theorem pts_rk {n : Nat} {r : Rl} {fs : List Pr} (hr : Po n r) (h : TO (trn n r) fs) : (pbL n r fs).map (sdO 0) = (List.range n).map (rk n fun a b => r a b || inL fs a b) ∧ (pbL n r fs).map (sdO 1) = (List.range n).map (rk n fun a b => r a b || inL (fs.map rv) a b) := by
  have fb : ∀ p ∈ fs, p.1 < n ∧ p.2 < n := fun p hp => by
    have := mem_prs.mp (h.sub p hp)
    exact ⟨this.1, this.2.1⟩
  have rb : ∀ p ∈ prs n r, p.1 < n ∧ p.2 < n := fun p hp => by
    have := mem_prs.mp hp
    exact ⟨this.1, this.2.1⟩
  have b0 : ∀ t, t < n → cntB (prs n r) t = ((List.range n).filter fun x => r x t).length := fun t ht => by
    rw [cntB_eq (prs_nodup n r) rb]
    congr 1
    exact List.filter_congr fun x hx => inL_prs (List.mem_range.mp hx) ht
  unfold pbL
  rw [List.map_map, List.map_map]
  refine ⟨List.map_congr_left fun t ht => ?_, List.map_congr_left fun t ht => ?_⟩
  · have ht := List.mem_range.mp ht
    show cntB (prs n r) t + cntB fs t = _
    rw [b0 t ht, cntB_eq h.nd fb, fil_sum fun x hx e => ?_]
    · rfl
    · refine inL_no.mpr fun z => ?_
      have := mem_trn.mp (h.sub _ z)
      rw [e] at this; exact absurd this.2.2.2.1 (by decide)
  · have ht := List.mem_range.mp ht
    show cntB (prs n r) t + cntA fs t = _
    rw [b0 t ht, cntA_eq h.nd fb]
    have e1 : ((List.range n).filter fun x => inL fs t x) = (List.range n).filter fun x => inL (fs.map rv) x t := List.filter_congr fun x _ => inL_rv.symm
    rw [e1, fil_sum fun x hx e => ?_]
    · rfl
    · rw [inL_rv]
      refine inL_no.mpr fun z => ?_
      have := mem_trn.mp (h.sub _ z)
      rw [e] at this; exact absurd this.2.2.2.2 (by decide)
theorem pts_len (n : Nat) (r : Rl) (fs : List Pr) : (pbL n r fs).length = n := by unfold pbL; rw [List.length_map, List.length_range]
theorem pts_perm {n : Nat} {r : Rl} {fs : List Pr} (hr : Po n r) (h : TO (trn n r) fs) : ∀ i, i < 2 → ((pbL n r fs).map (sdO i)).Perm (List.range (pbL n r fs).length) := fun i hi => by
  rw [pts_len]
  obtain ⟨a, b⟩ := pts_rk hr h
  match i, hi with
  | 0, _ => rw [a]; exact rks_perm (lin_of hr h)
  | 1, _ => rw [b]; exact rks_perm (lin_of hr (to_rv h))
theorem rwB_I {n : Nat} {r : Rl} {fs : List Pr} (hr : Po n r) (h : TO (trn n r) fs) : rwB (pbL n r fs) 0 = rwI n (fun a b => r a b || inL fs a b) ∧ rwB (pbL n r fs) 1 = rwI n (fun a b => r a b || inL (fs.map rv) a b) := by
  obtain ⟨a, b⟩ := pts_rk hr h
  unfold rwB rwI
  rw [pts_len, a, b]
  exact ⟨rfl, rfl⟩
theorem pts_tell {n : Nat} {r : Rl} {fs : List Pr} (hr : Po n r) (h : TO (trn n r) fs) : Tells n r [rwB (pbL n r fs) 0, rwB (pbL n r fs) 1] := by
  obtain ⟨e0, e1⟩ := rwB_I hr h
  have l0 := lin_of hr h
  have l1 := lin_of hr (to_rv h)
  rw [e0, e1]
  refine ⟨fun row hrow => ?_, fun a b ha hb => ?_⟩
  · simp only [List.mem_cons, List.not_mem_nil, or_false] at hrow
    rcases hrow with z | z
    · rw [z]; exact rwI_perm l0
    · rw [z]; exact rwI_perm l1
  · rw [Bool.eq_iff_iff, tol_iff]
    simp only [List.mem_cons, List.not_mem_nil, or_false, forall_eq_or_imp, forall_eq]
    rw [rwI_idx l0 ha, rwI_idx l0 hb, rwI_idx l1 ha, rwI_idx l1 hb, rk_iff l0 ha hb, rk_iff l1 ha hb]
    simp only [Bool.or_eq_true, inL_rv, inL_iff]
    constructor
    · rintro ⟨_, u | u, v | v⟩
      · exact u
      · exact u
      · exact v
      · exact absurd v (h.an _ u)
    · intro e
      exact ⟨fun z => (by rw [z, hr.irr b hb] at e; cases e), .inl e, .inl e⟩
theorem cho_tells {n : Nat} {r : Rl} {fs : List Pr} (hr : Po n r) (hk : ¬ Knot n r) (hc : Cho (trn n r) fs) : TO (trn n r) fs :=
  cho_to hc (trn_sym n r) (trn_irr n r) fun t ht h => hk ⟨t, ht, h⟩
end RO
namespace RO
/-! ### two colours: no knot -/
theorem twocol {n : Nat} {r : Rl} (col : Nat → Bool) (h : ∀ a b, a < n → b < n → col a = col b → a = b ∨ r a b = true ∨ r b a = true) : ¬ Knot n r := by
  rintro ⟨t, ht, hk⟩
  have ne : ∀ {a b}, (a, b) ∈ trn n r → col a ≠ col b := fun {a b} hab e => by
    obtain ⟨h1, h2, h3, h4, h5⟩ := mem_trn.mp hab
    rcases h a b h1 h2 e with z | z | z
    · exact h3 z
    · rw [h4] at z; cases z
    · rw [h5] at z; cases z
  have all : ∀ {q : Pr}, Rch (trn n r) t q → col q.1 = col t.1 := fun {q} hq => by
    induction hq with
    | refl => rfl
    | @step p q hp hq hf ih =>
      rcases (fc_iff.mp hf).2 with ⟨e, _⟩ | ⟨_, e, _⟩
      · rw [← e]; exact ih
      · have n1 := ne (a := p.1) (b := p.2) (hp.mem ht)
        have n2 := ne (a := q.1) (b := q.2) hq
        rw [← e] at n2
        rw [← ih]
        cases e1 : col p.1 <;> cases e2 : col p.2 <;> cases e3 : col q.1 <;> rw [e1, e2] at n1 <;> rw [e2, e3] at n2 <;> first | rfl | exact absurd rfl n1 | exact absurd rfl n2
  exact ne (a := t.1) (b := t.2) ht (all hk).symm
theorem chs_few {n : Nat} {r : Rl} {ls : List (List Nat)} (hn : 1 ≤ n) (h : Chs n r ls) : 1 ≤ ls.length ∧ (ls.length = 1 → trn n r = []) ∧ (ls.length ≤ 2 → ¬ Knot n r) := by
  refine ⟨?_, fun h1 => ?_, fun h2 => ?_⟩
  · obtain ⟨c, hc, _⟩ := h.all 0 hn
    exact List.length_pos_of_mem hc
  · refine List.eq_nil_iff_forall_not_mem.mpr fun t ht => ?_
    obtain ⟨a, b⟩ := t
    obtain ⟨h1', h2, h3, h4, h5⟩ := mem_trn.mp ht
    obtain ⟨c, hc, ha⟩ := h.all a h1'
    obtain ⟨d, hd, hb⟩ := h.all b h2
    have : c = d := by
      match ls, h1, hc, hd with
      | [x], _, hc, hd => rw [List.mem_singleton.mp hc, List.mem_singleton.mp hd]
    subst this
    rcases h.ch c hc a ha b hb with z | z | z
    · exact h3 z
    · rw [h4] at z; cases z
    · rw [h5] at z; cases z
  · cases e : ls with
    | nil =>
      obtain ⟨c, hc, _⟩ := h.all 0 hn
      rw [e] at hc; cases hc
    | cons c0 rest =>
      refine twocol (fun x => decide (x ∈ c0)) fun a b ha hb hab => ?_
      by_cases ha0 : a ∈ c0
      · have hb0 : b ∈ c0 := by
          rw [decide_eq_true ha0] at hab
          exact of_decide_eq_true hab.symm
        exact h.ch c0 (by rw [e]; exact List.mem_cons_self) a ha0 b hb0
      · have hb0 : b ∉ c0 := by
          rw [decide_eq_false ha0] at hab
          exact of_decide_eq_false hab.symm
        obtain ⟨c, hc, ha'⟩ := h.all a ha
        obtain ⟨d, hd, hb'⟩ := h.all b hb
        rw [e] at hc hd h2
        have hc' : c ∈ rest := by
          rcases List.mem_cons.mp hc with z | z
          · rw [z] at ha'; exact absurd ha' ha0
          · exact z
        have hd' : d ∈ rest := by
          rcases List.mem_cons.mp hd with z | z
          · rw [z] at hb'; exact absurd hb' hb0
          · exact z
        have : c = d := by
          match rest, h2, hc', hd' with
          | [x], _, hc', hd' => rw [List.mem_singleton.mp hc', List.mem_singleton.mp hd']
          | x :: y :: l, h2, _, _ => simp at h2
        subst this
        exact h.ch c (by rw [e]; exact List.mem_cons_of_mem _ hc') a ha' b hb'
/-! ### width -/
theorem ap_iff {r : Rl} {a b : Nat} : apR r a b = true ↔ a ≠ b ∧ r a b = false ∧ r b a = false := by unfold apR; simp [and_assoc]
theorem ap_sym {r : Rl} {a b : Nat} (h : apR r a b = true) : apR r b a = true := by
  obtain ⟨h1, h2, h3⟩ := ap_iff.mp h
  exact ap_iff.mpr ⟨fun z => h1 z.symm, h3, h2⟩
def No3 (n : Nat) (r : Rl) : Prop := ∀ a b c, a < b → b < c → c < n → apR r a b = true → apR r a c = true → apR r b c = true → False
theorem no3_any {n : Nat} {r : Rl} (h : No3 n r) {a b c : Nat} (ha : a < n) (hb : b < n) (hc : c < n) (h1 : apR r a b = true) (h2 : apR r a c = true) (h3 : apR r b c = true) : False := by
  have n1 := (ap_iff.mp h1).1
  have n2 := (ap_iff.mp h2).1
  have n3 := (ap_iff.mp h3).1
  have s1 := ap_sym h1
  have s2 := ap_sym h2
  have s3 := ap_sym h3
  rcases Nat.lt_or_gt_of_ne n1 with u | u <;> rcases Nat.lt_or_gt_of_ne n2 with v | v <;> rcases Nat.lt_or_gt_of_ne n3 with w | w
  · exact h a b c u w hc h1 h2 h3
  · exact h a c b v w hb h2 h1 s3
  · omega
  · exact h c a b v u hb s2 s3 h1
  · exact h b a c u v hc s1 h3 h2
  · omega
  · exact h b c a w v ha h3 s1 s2
  · exact h c b a w u ha s3 s2 s1
/-- things in a row that goes on: two colours if no three are apart -/
theorem col_of {n : Nat} {r : Rl} (hr : Po n r) (h : No3 n r) : ∀ (k : Nat) (g : List Nat), g.length = k → (∀ x ∈ g, x < n) → g.Pairwise (fun x y => x ≠ y ∧ r y x = false) → ∃ col : Nat → Bool, ∀ a ∈ g, ∀ b ∈ g, col a = col b → a = b ∨ r a b = true ∨ r b a = true := by
  intro k
  induction k with
  | zero =>
    intro g hg _ _
    cases g with
    | nil => exact ⟨fun _ => true, fun a ha => by cases ha⟩
    | cons a l => cases hg
  | succ k ih =>
    intro g0 hg0 hlt0 hp0
    have hne : g0 ≠ [] := fun z => by rw [z] at hg0; cases hg0
    obtain ⟨g, m, rfl⟩ : ∃ g m, g0 = g ++ [m] := ⟨_, _, (List.dropLast_concat_getLast hne).symm⟩
    rw [List.length_append, List.length_singleton] at hg0
    rw [List.pairwise_append] at hp0
    obtain ⟨hp, _, hm⟩ := hp0
    have hlt : ∀ x ∈ g, x < n := fun x hx => hlt0 x (List.mem_append_left _ hx)
    have mn : m < n := hlt0 m (List.mem_append_right _ (List.mem_singleton.mpr rfl))
    have hm' : ∀ x ∈ g, x ≠ m ∧ r m x = false := fun x hx => hm x hx m (List.mem_singleton.mpr rfl)
    obtain ⟨col, hcol⟩ := ih g (by omega) hlt hp
    -- things below m or apart from it
    have below : ∀ x ∈ g, apR r m x = false → r x m = true := fun x hx e => by
      cases q : r x m with
      | true => rfl
      | false =>
        have : apR r m x = true := ap_iff.mpr ⟨fun z => (hm' x hx).1 z.symm, (hm' x hx).2, q⟩
        rw [e] at this; cases this
    cases eA : g.filter (fun x => apR r m x) with
    | nil =>
      refine ⟨fun x => if x = m then true else col x, fun a ha b hb hab => ?_⟩
      have bel : ∀ x ∈ g, r x m = true := fun x hx => below x hx (by
        cases q : apR r m x with
        | false => rfl
        | true =>
          have : x ∈ g.filter (fun x => apR r m x) := List.mem_filter.mpr ⟨hx, q⟩
          rw [eA] at this; cases this)
      rcases List.mem_append.mp ha with za | za <;> rcases List.mem_append.mp hb with zb | zb
      · simp only [if_neg (hm' a za).1, if_neg (hm' b zb).1] at hab
        exact hcol a za b zb hab
      · rw [List.mem_singleton] at zb; rw [zb]; exact .inr (.inl (bel a za))
      · rw [List.mem_singleton] at za; rw [za]; exact .inr (.inr (bel b zb))
      · rw [List.mem_singleton] at za zb; exact .inl (za.trans zb.symm)
    | cons a0 A =>
      have fm : ∀ x, x ∈ a0 :: A ↔ x ∈ g ∧ apR r m x = true := fun x => by rw [← eA, List.mem_filter]
      have ga0 := (fm a0).mp List.mem_cons_self
      have chA : ∀ x ∈ g, ∀ y ∈ g, apR r m x = true → apR r m y = true → x = y ∨ r x y = true ∨ r y x = true := fun x hx y hy ex ey => by
        refine Classical.byContradiction fun q => ?_
        have : apR r x y = true := ap_iff.mpr ⟨fun z => q (.inl z), by
          cases e : r x y with
          | false => rfl
          | true => exact absurd (.inr (.inl e)) q, by
          cases e : r y x with
          | false => rfl
          | true => exact absurd (.inr (.inr e)) q⟩
        exact no3_any h mn (hlt x hx) (hlt y hy) ex ey this
      have least : ∀ x ∈ g, apR r m x = true → x = a0 ∨ r a0 x = true := fun x hx ex => by
        have hpA : (a0 :: A).Pairwise fun x y => x ≠ y ∧ r y x = false := by rw [← eA]; exact hp.filter _
        rw [List.pairwise_cons] at hpA
        rcases List.mem_cons.mp ((fm x).mpr ⟨hx, ex⟩) with z | z
        · exact .inl z
        · rcases chA x hx a0 ga0.1 ex ga0.2 with y | y | y
          · exact .inl y
          · rw [(hpA.1 x z).2] at y; cases y
          · exact .inr y
      -- the colour of a0: A and what stood with a0; the other one: m and the rest below it
      refine ⟨fun x => if x = m then false else if apR r m x = true then true else decide (col x = col a0), fun a ha b hb hab => ?_⟩
      have val : ∀ x ∈ g, (if x = m then false else if apR r m x = true then true else decide (col x = col a0)) = if apR r m x = true then true else decide (col x = col a0) := fun x hx => if_neg (hm' x hx).1
      have mix : ∀ x ∈ g, ∀ y ∈ g, apR r m x = true → apR r m y = false → col y = col a0 → r y x = true := fun x hx y hy ex ey ec => by
        have ym := below y hy ey
        rcases hcol y hy a0 ga0.1 ec with z | z | z
        · rw [z, ga0.2] at ey; cases ey
        · rcases least x hx ex with w | w
          · rw [w]; exact z
          · exact hr.tr y a0 x (hlt y hy) (hlt a0 ga0.1) (hlt x hx) z w
        · have := hr.tr a0 y m (hlt a0 ga0.1) (hlt y hy) mn z ym
          rw [(ap_iff.mp ga0.2).2.2] at this; cases this
      rcases List.mem_append.mp ha with za | za <;> rcases List.mem_append.mp hb with zb | zb
      · simp only [val a za, val b zb] at hab
        cases ea : apR r m a <;> cases eb : apR r m b
        · rw [ea, eb] at hab
          simp only [Bool.false_eq_true, if_false] at hab
          by_cases ca : col a = col a0 <;> by_cases cb : col b = col a0
          · exact hcol a za b zb (ca.trans cb.symm)
          · rw [decide_eq_true ca, decide_eq_false cb] at hab; cases hab
          · rw [decide_eq_false ca, decide_eq_true cb] at hab; cases hab
          · refine hcol a za b zb ?_
            cases x : col a <;> cases y : col b <;> cases z : col a0 <;> rw [x, z] at ca <;> rw [y, z] at cb <;> first | rfl | exact absurd rfl ca | exact absurd rfl cb
        · rw [ea, eb] at hab
          simp only [Bool.false_eq_true, if_false, if_true] at hab
          exact .inr (.inl (mix b zb a za eb ea (of_decide_eq_true hab)))
        · rw [ea, eb] at hab
          simp only [Bool.false_eq_true, if_false, if_true] at hab
          exact .inr (.inr (mix a za b zb ea eb (of_decide_eq_true hab.symm)))
        · exact chA a za b zb ea eb
      · rw [List.mem_singleton] at zb
        subst zb
        simp only [val a za, if_true] at hab
        cases ea : apR r b a with
        | true => rw [ea] at hab; simp at hab
        | false => exact .inr (.inl (below a za ea))
      · rw [List.mem_singleton] at za
        subst za
        simp only [val b zb, if_true] at hab
        cases eb : apR r a b with
        | true => rw [eb] at hab; simp at hab
        | false => exact .inr (.inr (below b zb eb))
      · rw [List.mem_singleton] at za zb; exact .inl (za.trans zb.symm)
theorem no3_noknot {n : Nat} {r : Rl} (hr : Po n r) (h : No3 n r) : ¬ Knot n r := by
  have hp := fRow_perm hr
  have nd : (fRow n r).Nodup := hp.nodup_iff.mpr List.nodup_range
  have hmem : ∀ {x}, x < n → x ∈ fRow n r := fun hx => hp.mem_iff.mpr (List.mem_range.mpr hx)
  obtain ⟨col, hc⟩ := col_of hr h _ (fRow n r) rfl (fun x hx => List.mem_range.mp (hp.mem_iff.mp hx)) (by
    rw [List.pairwise_iff_getElem]
    intro i j hi hj hij
    have gi : (fRow n r)[i]? = some (fRow n r)[i] := List.getElem?_eq_getElem hi
    have gj : (fRow n r)[j]? = some (fRow n r)[j] := List.getElem?_eq_getElem hj
    have ii := idx_at nd gi
    have jj := idx_at nd gj
    refine ⟨fun z => ?_, ?_⟩
    · rw [z] at ii; omega
    · cases e : r (fRow n r)[j] (fRow n r)[i] with
      | false => rfl
      | true =>
        have := fRow_ext hr (List.mem_range.mp (hp.mem_iff.mp (List.mem_of_getElem? gj))) (List.mem_range.mp (hp.mem_iff.mp (List.mem_of_getElem? gi))) e
        omega)
  exact twocol col fun a b ha hb => hc a (hmem ha) b (hmem hb)
theorem mx_ge : ∀ (l : List (List Nat)) (b : List Nat), b.length ≤ (l.foldl (fun b s => if b.length < s.length then s else b) b).length ∧ ∀ s ∈ l, s.length ≤ (l.foldl (fun b s => if b.length < s.length then s else b) b).length
  | [], b => ⟨Nat.le_refl _, fun s hs => by cases hs⟩
  | x :: l, b => by
    obtain ⟨h1, h2⟩ := mx_ge l (if b.length < x.length then x else b)
    have h3 : b.length ≤ (if b.length < x.length then x else b).length ∧ x.length ≤ (if b.length < x.length then x else b).length := by
      by_cases e : b.length < x.length
      · rw [if_pos e]; omega
      · rw [if_neg e]; omega
    refine ⟨Nat.le_trans h3.1 h1, fun s hs => ?_⟩
    rcases List.mem_cons.mp hs with z | z
    · rw [z]; exact Nat.le_trans h3.2 h1
    · exact h2 s z
theorem stg_mem {n : Nat} {r : Rl} {k : Nat} {s : List Nat} {t : Nat} (hs : s ∈ stg n r k) (ht : t < n) (hm : mayB r s t = true) : s ++ [t] ∈ stg n r (k + 1) :=
  List.mem_flatMap.mpr ⟨s, hs, List.mem_map.mpr ⟨t, List.mem_filter.mpr ⟨List.mem_range.mpr ht, hm⟩, rfl⟩⟩
theorem fl_mem {n : Nat} {r : Rl} {k : Nat} {s : List Nat} (hk : k < 7) (hs : s ∈ stg n r k) : s ∈ flS n r 7 := List.mem_flatMap.mpr ⟨k, List.mem_range.mpr hk, hs⟩
theorem apart_1 {n : Nat} {r : Rl} {a : Nat} (ha : a < n) : [a] ∈ stg n r 1 := stg_mem (s := []) (List.mem_singleton.mpr rfl) ha rfl
theorem apart_2 {n : Nat} {r : Rl} {a b : Nat} (hab : a < b) (hb : b < n) (h : apR r a b = true) : [a, b] ∈ stg n r 2 := stg_mem (s := [a]) (apart_1 (by omega)) hb (by unfold mayB; simp [h, hab])
theorem apart_3 {n : Nat} {r : Rl} {a b c : Nat} (hab : a < b) (hbc : b < c) (hc : c < n) (h1 : apR r a b = true) (h2 : apR r a c = true) (h3 : apR r b c = true) : [a, b, c] ∈ stg n r 3 := stg_mem (s := [a, b]) (apart_2 hab (by omega) h1) hc (by unfold mayB; simp [h2, h3, hbc])
/-! ### how few -/
def IsFew (n : Nat) (r : Rl) (k : Nat) : Prop := (k = 1 ∧ trn n r = []) ∨ (k = 2 ∧ trn n r ≠ [] ∧ ¬ Knot n r) ∨ (k = 3 ∧ trn n r ≠ [] ∧ Knot n r)
theorem few_uniq {n : Nat} {r : Rl} {k j : Nat} (h1 : IsFew n r k) (h2 : IsFew n r j) : k = j := by
  rcases h1 with ⟨a, b⟩ | ⟨a, b, c⟩ | ⟨a, b, c⟩ <;> rcases h2 with ⟨d, e⟩ | ⟨d, e, f⟩ | ⟨d, e, f⟩ <;> first | exact a.trans d.symm | exact absurd b e | exact absurd e b | exact absurd c f | exact absurd f c
theorem few_apart {n : Nat} {r : Rl} (hn : 1 ≤ n) (hr : Po n r) {k : Nat} (h : IsFew n r k) : k ≤ (mxL (flS n r 7)).length := by
  have ge := (mx_ge (flS n r 7) []).2
  have g1 := ge _ (fl_mem (by omega) (apart_1 (n := n) (r := r) (a := 0) hn))
  rcases h with ⟨rfl, _⟩ | ⟨rfl, hne, _⟩ | ⟨rfl, hne, hk⟩
  · exact g1
  · obtain ⟨⟨a, b⟩, ht⟩ := List.exists_mem_of_ne_nil _ hne
    obtain ⟨h1, h2, h3, h4, h5⟩ := mem_trn.mp ht
    have hap : apR r a b = true := ap_iff.mpr ⟨h3, h4, h5⟩
    rcases Nat.lt_or_gt_of_ne h3 with z | z
    · exact ge _ (fl_mem (by omega) (apart_2 z h2 hap))
    · exact ge _ (fl_mem (by omega) (apart_2 z h1 (ap_sym hap)))
  · refine Classical.byContradiction fun q => ?_
    refine no3_noknot hr (fun a b c hab hbc hc h1 h2 h3 => q ?_) hk
    exact ge _ (fl_mem (by omega) (apart_3 hab hbc hc h1 h2 h3))
theorem few_chains {n : Nat} {r : Rl} (hn : 1 ≤ n) {k : Nat} (h : IsFew n r k) {ls : List (List Nat)} (hc : Chs n r ls) : k ≤ ls.length := by
  obtain ⟨h1, h2, h3⟩ := chs_few hn hc
  rcases h with ⟨rfl, _⟩ | ⟨rfl, hne, _⟩ | ⟨rfl, hne, hk⟩
  · exact h1
  · refine Classical.byContradiction fun q => hne (h2 (by omega))
  · refine Classical.byContradiction fun q => h3 (by omega) hk
theorem one_row_trn {n : Nat} {r : Rl} {row : List Nat} (h : Tells n r [row]) : trn n r = [] := by
  refine List.eq_nil_iff_forall_not_mem.mpr fun t ht => ?_
  obtain ⟨a, b⟩ := t
  obtain ⟨h1, h2, h3, h4, h5⟩ := mem_trn.mp ht
  have hp : row.Perm (List.range n) := h.rw' _ List.mem_cons_self
  have q := idx_ne hp h1 h2 h3
  rcases Nat.lt_or_gt_of_ne q with z | z
  · have : tolR [row] a b = true := tol_iff.mpr ⟨h3, fun x hx => by rw [List.mem_singleton.mp hx]; exact z⟩
    rw [h.eq a b h1 h2, h4] at this; cases this
  · have : tolR [row] b a = true := tol_iff.mpr ⟨fun y => h3 y.symm, fun x hx => by rw [List.mem_singleton.mp hx]; exact z⟩
    rw [h.eq b a h2 h1, h5] at this; cases this
theorem few_le {n : Nat} {r : Rl} {k : Nat} (h : IsFew n r k) {rows : List (List Nat)} (ht : Tells n r rows) (hne : rows ≠ []) : k ≤ rows.length := by
  match rows, ht, hne with
  | [], _, hne => exact absurd rfl hne
  | [a], ht, _ =>
    rcases h with ⟨rfl, _⟩ | ⟨rfl, q, _⟩ | ⟨rfl, q, _⟩
    · exact Nat.le_refl 1
    · exact absurd (one_row_trn ht) q
    · exact absurd (one_row_trn ht) q
  | [a, b], ht, _ =>
    rcases h with ⟨rfl, _⟩ | ⟨rfl, q, _⟩ | ⟨rfl, q, hk⟩
    · show 1 ≤ 2; omega
    · exact Nat.le_refl 2
    · exact absurd hk (two_noknot ht)
  | a :: b :: c :: l, _, _ =>
    have : k ≤ 3 := by rcases h with ⟨rfl, _⟩ | ⟨rfl, _, _⟩ | ⟨rfl, _, _⟩ <;> omega
    simp only [List.length_cons]; omega
/-! ### turns that cross -/
theorem crs_le {n : Nat} {r : Rl} {rows : List (List Nat)} (ht : Tells n r rows) {l : List Pr} (hc : Crs n r l) : l.length ≤ rows.length := by
  classical
  have ex : ∀ p ∈ l, ∃ (i : Nat) (row : List Nat), rows[i]? = some row ∧ row.idxOf p.2 < row.idxOf p.1 := fun p hp => by
    obtain ⟨h1, h2, h3, h4, h5⟩ := mem_trn.mp (show (p.1, p.2) ∈ trn n r from hc.tn p hp)
    refine Classical.byContradiction fun q => ?_
    have : tolR rows p.1 p.2 = true := tol_iff.mpr ⟨h3, fun row hrow => ?_⟩
    · rw [ht.eq _ _ h1 h2, h4] at this; cases this
    · obtain ⟨i, hi⟩ := List.mem_iff_getElem?.mp hrow
      have n1 := idx_ne (ht.rw' row hrow) h1 h2 h3
      refine Classical.byContradiction fun z => q ⟨i, row, hi, by omega⟩
  let f : Pr → Nat := fun p => if h : ∃ (i : Nat) (row : List Nat), rows[i]? = some row ∧ row.idxOf p.2 < row.idxOf p.1 then Classical.choose h else 0
  have hf : ∀ p ∈ l, ∃ row : List Nat, rows[f p]? = some row ∧ row.idxOf p.2 < row.idxOf p.1 := fun p hp => by
    have h := ex p hp
    have e : f p = Classical.choose h := dif_pos h
    rw [e]
    exact Classical.choose_spec h
  have nd : (l.map f).Nodup := by
    rw [List.nodup_iff_pairwise_ne, List.pairwise_map]
    refine (List.Pairwise.and_mem.mp hc.cr).imp fun {p q} ⟨hp, hq, h⟩ e => ?_
    obtain ⟨row, r1, r2⟩ := hf p hp
    obtain ⟨row', s1, s2⟩ := hf q hq
    rw [← e, r1] at s1
    cases s1
    have hrow := List.mem_of_getElem? r1
    obtain ⟨p1, p2, _⟩ := mem_trn.mp (show (p.1, p.2) ∈ trn n r from hc.tn p hp)
    obtain ⟨q1, q2, _⟩ := mem_trn.mp (show (q.1, q.2) ∈ trn n r from hc.tn q hq)
    have le : ∀ {a b}, a < n → b < n → (a = b ∨ r a b = true) → row.idxOf a ≤ row.idxOf b := fun {a b} ha hb h => by
      rcases h with z | z
      · rw [z]; exact Nat.le_refl _
      · rw [← ht.eq a b ha hb] at z
        exact Nat.le_of_lt ((tol_iff.mp z).2 row hrow)
    unfold crB at h
    simp only [Bool.and_eq_true, Bool.or_eq_true, decide_eq_true_eq] at h
    have u := le p1 q2 h.1
    have v := le q1 p2 h.2
    omega
  have := nd_len (l.map f) (List.range rows.length) nd fun x hx => by
    obtain ⟨p, hp, rfl⟩ := List.mem_map.mp hx
    obtain ⟨row, h1, _⟩ := hf p hp
    exact List.mem_range.mpr (List.getElem?_eq_some_iff.mp h1).1
  rwa [List.length_map, List.length_range] at this
end RO
namespace RO
/-! ### rows that tell, named anew, turned, more of them -/
theorem Tells.congr {n : Nat} {r : Rl} {rows rows' : List (List Nat)} (h : Tells n r rows) (e : ∀ x, x ∈ rows ↔ x ∈ rows') : Tells n r rows' where
  rw' x hx := h.rw' x ((e x).mpr hx)
  eq a b ha hb := by
    rw [← h.eq a b ha hb, Bool.eq_iff_iff, tol_iff, tol_iff]
    exact and_congr Iff.rfl ⟨fun q x hx => q x ((e x).mp hx), fun q x hx => q x ((e x).mpr hx)⟩
def Dim3 (n : Nat) (r : Rl) : Prop := ∃ rows, rows.length = 3 ∧ Tells n r rows
theorem dim3_of {n : Nat} {r : Rl} {rows : List (List Nat)} (h : Tells n r rows) (hne : rows ≠ []) (hl : rows.length ≤ 3) : Dim3 n r := by
  match rows, h, hne, hl with
  | [], _, hne, _ => exact absurd rfl hne
  | [a], h, _, _ => exact ⟨[a, a, a], rfl, h.congr fun x => by simp⟩
  | [a, b], h, _, _ => exact ⟨[a, b, b], rfl, h.congr fun x => by simp⟩
  | [a, b, c], h, _, _ => exact ⟨[a, b, c], rfl, h⟩
  | _ :: _ :: _ :: _ :: _, _, _, hl => simp at hl
theorem tol_po {n : Nat} {rows : List (List Nat)} (hne : rows ≠ []) : Po n (tolR rows) where
  irr a _ := by
    cases e : tolR rows a a with
    | false => rfl
    | true => exact absurd rfl (tol_iff.mp e).1
  tr a b c _ _ _ h1 h2 := by
    obtain ⟨row, hrow⟩ := List.exists_mem_of_ne_nil _ hne
    have k1 := (tol_iff.mp h1).2
    have k2 := (tol_iff.mp h2).2
    have lt : ∀ row ∈ rows, row.idxOf a < row.idxOf c := fun row hr => Nat.lt_trans (k1 row hr) (k2 row hr)
    refine tol_iff.mpr ⟨fun e => ?_, lt⟩
    have := lt row hrow
    rw [e] at this
    exact Nat.lt_irrefl _ this
theorem tol_tells {n : Nat} {rows : List (List Nat)} (h : rowsIn n rows) : Tells n (tolR rows) rows := ⟨h, fun _ _ _ _ => rfl⟩
/-- a name for each thing -/
structure Ren (n : Nat) (f : Nat → Nat) (r r' : Rl) : Prop where
  lt : ∀ a, a < n → f a < n
  inj : ∀ a b, a < n → b < n → f a = f b → a = b
  eq : ∀ a b, a < n → b < n → r' (f a) (f b) = r a b
theorem Ren.sur {n : Nat} {f : Nat → Nat} {r r' : Rl} (h : Ren n f r r') {b : Nat} (hb : b < n) : ∃ a, a < n ∧ f a = b := by
  have p : ((List.range n).map f).Perm (List.range n) := perm_range (map_nd List.nodup_range fun a ha b hb e => h.inj a b (List.mem_range.mp ha) (List.mem_range.mp hb) e) (fun x hx => by
    obtain ⟨a, ha, rfl⟩ := List.mem_map.mp hx
    exact h.lt a (List.mem_range.mp ha)) (by rw [List.length_map, List.length_range])
  obtain ⟨a, ha, e⟩ := List.mem_map.mp (p.mem_iff.mpr (List.mem_range.mpr hb))
  exact ⟨a, List.mem_range.mp ha, e⟩
theorem Ren.back {n : Nat} {f : Nat → Nat} {r r' : Rl} (h : Ren n f r r') : ∃ g, Ren n g r' r := by
  classical
  let g : Nat → Nat := fun b => if hb : ∃ a, a < n ∧ f a = b then Classical.choose hb else 0
  have hg : ∀ b, b < n → g b < n ∧ f (g b) = b := fun b hb => by
    have e : g b = Classical.choose (h.sur hb) := dif_pos (h.sur hb)
    rw [e]; exact Classical.choose_spec (h.sur hb)
  refine ⟨g, fun b hb => (hg b hb).1, fun a b ha hb e => ?_, fun a b ha hb => ?_⟩
  · rw [← (hg a ha).2, ← (hg b hb).2, e]
  · rw [← h.eq (g a) (g b) (hg a ha).1 (hg b hb).1, (hg a ha).2, (hg b hb).2]
theorem Ren.po {n : Nat} {f : Nat → Nat} {r r' : Rl} (h : Ren n f r r') (hr : Po n r) : Po n r' where
  irr b hb := by
    obtain ⟨a, ha, rfl⟩ := h.sur hb
    rw [h.eq a a ha ha]; exact hr.irr a ha
  tr x y z hx hy hz h1 h2 := by
    obtain ⟨a, ha, rfl⟩ := h.sur hx
    obtain ⟨b, hb, rfl⟩ := h.sur hy
    obtain ⟨c, hc, rfl⟩ := h.sur hz
    rw [h.eq _ _ ha hb] at h1
    rw [h.eq _ _ hb hc] at h2
    rw [h.eq _ _ ha hc]
    exact hr.tr a b c ha hb hc h1 h2
theorem Ren.tells {n : Nat} {f : Nat → Nat} {r r' : Rl} (h : Ren n f r r') {rows : List (List Nat)} (ht : Tells n r rows) : Tells n r' (rows.map fun row => row.map f) := by
  have key : ∀ row ∈ rows, (row.map f).Perm (List.range n) ∧ ∀ a, a < n → (row.map f).idxOf (f a) = row.idxOf a := fun row hrow => by
    have hp := ht.rw' row hrow
    have lt : ∀ x ∈ row, x < n := fun x hx => List.mem_range.mp (hp.mem_iff.mp hx)
    have nd : (row.map f).Nodup := map_nd (hp.nodup_iff.mpr List.nodup_range) fun a ha b hb e => h.inj a b (lt a ha) (lt b hb) e
    refine ⟨perm_range nd (fun x hx => ?_) (by rw [List.length_map, hp.length_eq, List.length_range]), fun a ha => idx_at nd ?_⟩
    · obtain ⟨a, ha, rfl⟩ := List.mem_map.mp hx
      exact h.lt a (lt a ha)
    · rw [List.getElem?_map, (idx_ok (hp.mem_iff.mpr (List.mem_range.mpr ha))).1]; rfl
  refine ⟨fun x hx => ?_, fun x y hx hy => ?_⟩
  · obtain ⟨row, hrow, rfl⟩ := List.mem_map.mp hx
    exact (key row hrow).1
  · obtain ⟨a, ha, rfl⟩ := h.sur hx
    obtain ⟨b, hb, rfl⟩ := h.sur hy
    rw [h.eq a b ha hb, ← ht.eq a b ha hb, Bool.eq_iff_iff, tol_iff, tol_iff]
    refine and_congr ⟨fun q e => q (by rw [e]), fun q e => q (h.inj a b ha hb e)⟩ ⟨fun q row hrow => ?_, fun q x hx => ?_⟩
    · have := q _ (List.mem_map.mpr ⟨row, hrow, rfl⟩)
      rwa [(key row hrow).2 a ha, (key row hrow).2 b hb] at this
    · obtain ⟨row, hrow, rfl⟩ := List.mem_map.mp hx
      rw [(key row hrow).2 a ha, (key row hrow).2 b hb]
      exact q row hrow
theorem Ren.trn {n : Nat} {f : Nat → Nat} {r r' : Rl} (h : Ren n f r r') (e : RO.trn n r = []) : RO.trn n r' = [] := by
  refine List.eq_nil_iff_forall_not_mem.mpr fun t ht => ?_
  obtain ⟨x, y⟩ := t
  obtain ⟨h1, h2, h3, h4, h5⟩ := mem_trn.mp ht
  obtain ⟨a, ha, rfl⟩ := h.sur h1
  obtain ⟨b, hb, rfl⟩ := h.sur h2
  rw [h.eq a b ha hb] at h4
  rw [h.eq b a hb ha] at h5
  have : (a, b) ∈ RO.trn n r := mem_trn.mpr ⟨ha, hb, fun z => h3 (by rw [z]), h4, h5⟩
  rw [e] at this; cases this
/-- a choice there is -/
theorem cho_ex : ∀ (k : Nat) (l : List Pr), l.length ≤ k → l.Nodup → ∃ fs, Cho l fs := by
  classical
  intro k
  induction k with
  | zero =>
    intro l hl _
    cases l with
    | nil => exact ⟨[], .nil⟩
    | cons a l => simp at hl
  | succ k ih =>
    intro l hl nd
    cases l with
    | nil => exact ⟨[], .nil⟩
    | cons a l =>
      have hs : ∀ q, q ∈ (a :: l).filter (fun q => decide (Rch (a :: l) a q)) ↔ Rch (a :: l) a q := fun q => by
        rw [List.mem_filter, decide_eq_true_iff]
        exact ⟨fun h => h.2, fun h => ⟨h.mem List.mem_cons_self, h⟩⟩
      have hlt : (lft (a :: l) ((a :: l).filter fun q => decide (Rch (a :: l) a q))).length < (a :: l).length := by
        refine List.length_filter_lt_length_iff_exists.mpr ⟨a, List.mem_cons_self, ?_⟩
        have := (hs a).mpr .refl
        simp [this]
      have hle : (lft (a :: l) ((a :: l).filter fun q => decide (Rch (a :: l) a q))).length ≤ k := by omega
      obtain ⟨rest, hrest⟩ := ih _ hle (nd.filter _)
      exact ⟨_, .step (nd.filter _) hs hrest⟩
theorem two_of {n : Nat} {r : Rl} (hr : Po n r) (hk : ¬ Knot n r) : ∃ ra rb, Tells n r [ra, rb] := by
  obtain ⟨fs, hf⟩ := cho_ex _ (trn n r) (Nat.le_refl _) (prs_nodup n _)
  exact ⟨_, _, pts_tell hr (cho_tells hr hk hf)⟩
theorem Ren.few {n : Nat} {f : Nat → Nat} {r r' : Rl} (h : Ren n f r r') (hr : Po n r) {k : Nat} (hk : IsFew n r k) : IsFew n r' k := by
  obtain ⟨g, hg⟩ := h.back
  have e1 : RO.trn n r' = [] → RO.trn n r = [] := hg.trn
  have noK : ∀ {r r' : Rl} {f : Nat → Nat}, Ren n f r r' → Po n r → ¬ Knot n r → ¬ Knot n r' := fun h hr hk => by
    obtain ⟨ra, rb, ht⟩ := two_of hr hk
    exact two_noknot (h.tells ht)
  rcases hk with ⟨a, b⟩ | ⟨a, b, c⟩ | ⟨a, b, c⟩
  · exact .inl ⟨a, h.trn b⟩
  · exact .inr (.inl ⟨a, fun z => b (e1 z), noK h hr c⟩)
  · exact .inr (.inr ⟨a, fun z => b (e1 z), Classical.byContradiction fun z => noK hg (h.po hr) z c⟩)
/-! turned about -/
theorem po_turn {n : Nat} {r : Rl} (hr : Po n r) : Po n fun a b => r b a := ⟨hr.irr, fun a b c ha hb hc h1 h2 => hr.tr c b a hc hb ha h2 h1⟩
theorem tells_turn {n : Nat} {r : Rl} {rows : List (List Nat)} (ht : Tells n r rows) : Tells n (fun a b => r b a) (rows.map List.reverse) := by
  have key : ∀ row ∈ rows, ∀ a, a < n → row.reverse.idxOf a + row.idxOf a + 1 = n := fun row hrow a ha => by
    have hp := ht.rw' row hrow
    have hm := hp.mem_iff.mpr (List.mem_range.mpr ha)
    have nd := hp.nodup_iff.mpr List.nodup_range
    have hl : row.length = n := by rw [hp.length_eq, List.length_range]
    have hi := idx_lt hm
    have : row.reverse.idxOf a = row.length - 1 - row.idxOf a := idx_at ((List.reverse_perm row).nodup_iff.mpr nd) (by
      rw [List.getElem?_reverse (by omega), show row.length - 1 - (row.length - 1 - row.idxOf a) = row.idxOf a by omega]
      exact (idx_ok hm).1)
    omega
  refine ⟨fun x hx => ?_, fun a b ha hb => ?_⟩
  · obtain ⟨row, hrow, rfl⟩ := List.mem_map.mp hx
    exact (List.reverse_perm row).trans (ht.rw' row hrow)
  · rw [← ht.eq b a hb ha, Bool.eq_iff_iff, tol_iff, tol_iff]
    refine and_congr ⟨fun q e => q e.symm, fun q e => q e.symm⟩ ⟨fun q row hrow => ?_, fun q x hx => ?_⟩
    · have := q _ (List.mem_map.mpr ⟨row, hrow, rfl⟩)
      have := key row hrow a ha
      have := key row hrow b hb
      omega
    · obtain ⟨row, hrow, rfl⟩ := List.mem_map.mp hx
      have := q row hrow
      have := key row hrow a ha
      have := key row hrow b hb
      omega
theorem few_turn {n : Nat} {r : Rl} (hr : Po n r) {k : Nat} (hk : IsFew n r k) : IsFew n (fun a b => r b a) k := by
  have t : ∀ {r : Rl}, trn n r = [] → trn n (fun a b => r b a) = [] := fun {r} e => by
    refine List.eq_nil_iff_forall_not_mem.mpr fun t ht => ?_
    obtain ⟨x, y⟩ := t
    obtain ⟨h1, h2, h3, h4, h5⟩ := mem_trn.mp ht
    have : (x, y) ∈ trn n r := mem_trn.mpr ⟨h1, h2, h3, h5, h4⟩
    rw [e] at this; cases this
  have noK : ∀ {r : Rl}, Po n r → ¬ Knot n r → ¬ Knot n (fun a b => r b a) := fun hr hk => by
    obtain ⟨ra, rb, ht⟩ := two_of hr hk
    exact two_noknot (tells_turn ht)
  rcases hk with ⟨a, b⟩ | ⟨a, b, c⟩ | ⟨a, b, c⟩
  · exact .inl ⟨a, t b⟩
  · exact .inr (.inl ⟨a, fun z => b (t (r := fun a b => r b a) z), noK hr c⟩)
  · exact .inr (.inr ⟨a, fun z => b (t (r := fun a b => r b a) z), Classical.byContradiction fun z => noK (po_turn hr) z c⟩)
/-! ### the search finds three rows -/
theorem shB_iff {n : Nat} {r : Rl} {a b : Nat} (ha : a < n) (hb : b < n) : shB n r a b = true ↔ (∀ c, c < n → r c a = true → r c b = true) ∧ ∀ d, d < n → r b d = true → r a d = true := by
  unfold shB
  rw [Bool.and_eq_true, List.all_eq_true, List.all_eq_true]
  refine and_congr ⟨fun h c hc hr => ?_, fun h p hp => ?_⟩ ⟨fun h d hd hr => ?_, fun h p hp => ?_⟩
  · have := h (c, a) (List.mem_filter.mpr ⟨mem_prs2.mpr ⟨hc, ha, hr⟩, by simp⟩)
    exact (mem_prs2.mp (of_decide_eq_true this)).2.2
  · obtain ⟨h1, h2⟩ := List.mem_filter.mp hp
    obtain ⟨h3, h4, h5⟩ := mem_prs.mp h1
    have e := of_decide_eq_true h2
    rw [e] at h5
    exact decide_eq_true (mem_prs2.mpr ⟨h3, hb, h p.1 h3 h5⟩)
  · have := h (b, d) (List.mem_filter.mpr ⟨mem_prs2.mpr ⟨hb, hd, hr⟩, by simp⟩)
    exact (mem_prs2.mp (of_decide_eq_true this)).2.2
  · obtain ⟨h1, h2⟩ := List.mem_filter.mp hp
    obtain ⟨h3, h4, h5⟩ := mem_prs.mp h1
    have e := of_decide_eq_true h2
    rw [e] at h5
    exact decide_eq_true (mem_prs2.mpr ⟨ha, h4, h p.2 h4 h5⟩)
/-- each turn lies within a sharp one -/
theorem sharp_ex {n : Nat} {r : Rl} (hr : Po n r) : ∀ (k a b : Nat), (a, b) ∈ trn n r → ((List.range n).filter fun x => r x a).length + ((List.range n).filter fun x => r b x).length ≤ k → ∃ a' b', (a', b') ∈ prs n (shR n r) ∧ (a' = a ∨ r a' a = true) ∧ (b' = b ∨ r b b' = true) := by
  intro k
  induction k using Nat.strongRecOn with
  | _ k ih =>
    intro a b hab hk
    obtain ⟨h1, h2, h3, h4, h5⟩ := mem_trn.mp hab
    by_cases sh : shB n r a b = true
    · refine ⟨a, b, mem_prs2.mpr ⟨h1, h2, ?_⟩, .inl rfl, .inl rfl⟩
      unfold shR
      rw [sh, Bool.and_true]
      exact ap_iff.mpr ⟨h3, h4, h5⟩
    · rw [shB_iff h1 h2] at sh
      by_cases s1 : ∀ c, c < n → r c a = true → r c b = true
      · have : ¬ ∀ d, d < n → r b d = true → r a d = true := fun z => sh ⟨s1, z⟩
        obtain ⟨d, hd⟩ := Classical.not_forall.mp this
        rw [Classical.not_imp, Classical.not_imp] at hd
        obtain ⟨hd, rbd, nad⟩ := hd
        have nad : r a d = false := by simpa using nad
        have nda : r d a = false := by
          cases e : r d a with
          | false => rfl
          | true => rw [hr.tr b d a h2 hd h1 rbd e] at h5; cases h5
        have hne : a ≠ d := fun z => by rw [← z] at rbd; rw [rbd] at h5; cases h5
        have lt := filter_lt (p := fun x => r d x) (q := fun x => r b x) (l := List.range n) (fun x hx hp => hr.tr b d x h2 hd (List.mem_range.mp hx) rbd hp) (List.mem_range.mpr hd) rbd (hr.irr d hd)
        obtain ⟨a', b', q1, q2, q3⟩ := ih _ (by omega) a d (mem_trn.mpr ⟨h1, hd, hne, nad, nda⟩) (Nat.le_refl _)
        refine ⟨a', b', q1, q2, .inr ?_⟩
        rcases q3 with z | z
        · rw [z]; exact rbd
        · exact hr.tr b d b' h2 hd (mem_prs2.mp q1).2.1 rbd z
      · obtain ⟨c, hc⟩ := Classical.not_forall.mp s1
        rw [Classical.not_imp, Classical.not_imp] at hc
        obtain ⟨hc, rca, ncb⟩ := hc
        have ncb : r c b = false := by simpa using ncb
        have nbc : r b c = false := by
          cases e : r b c with
          | false => rfl
          | true => rw [hr.tr b c a h2 hc h1 e rca] at h5; cases h5
        have hne : c ≠ b := fun z => by rw [z] at rca; rw [rca] at h5; cases h5
        have lt := filter_lt (p := fun x => r x c) (q := fun x => r x a) (l := List.range n) (fun x hx hp => hr.tr x c a (List.mem_range.mp hx) hc h1 hp rca) (List.mem_range.mpr hc) rca (hr.irr c hc)
        obtain ⟨a', b', q1, q2, q3⟩ := ih _ (by omega) c b (mem_trn.mpr ⟨hc, h2, hne, ncb, nbc⟩) (Nat.le_refl _)
        refine ⟨a', b', q1, .inr ?_, q3⟩
        rcases q2 with z | z
        · rw [z]; exact rca
        · exact hr.tr a' c a (mem_prs2.mp q1).1 hc h1 z rca
theorem rbs_ok {n : Nat} {r : Rl} (hn : n ≤ 6) (hr : Po n r) (h : Dim3 n r) : ∃ rows, rbs n r 3 = some rows ∧ rows.length = 3 ∧ Tells n r rows := by
  obtain ⟨rows, hl, ht⟩ := h
  have hPL : ∀ l ∈ List.replicate 3 (prs n r), PL n l := fun l hl => by
    rw [(List.mem_replicate.mp hl).2]
    exact PL.of hr
  have hlen : (prs n (shR n r)).length < 40 := by have := prs36 (n := n) (R := shR n r) hn; omega
  have hsh : ∀ t ∈ prs n (shR n r), t ∈ trn n r := fun t ht => by
    obtain ⟨a, b, c⟩ := mem_prs.mp ht
    unfold shR at c
    rw [Bool.and_eq_true] at c
    exact mem_prs.mpr ⟨a, b, c.1⟩
  have sm : putA n 40 (List.replicate 3 (prs n r)) (prs n (shR n r)) ≠ none := by
    refine putA_whole n 40 _ _ hlen hPL (fun t ht => sh_ok ht) ⟨rows.map fun row a b => decide (row.idxOf a < row.idxOf b), by rw [List.length_map, List.length_replicate, hl], fun S hS => ?_, fun i l S hi hS q hq => ?_, fun t htm => ?_⟩
    · obtain ⟨row, hrow, rfl⟩ := List.mem_map.mp hS
      exact ⟨fun a _ => by simp, fun a b c _ _ _ h1 h2 => by
        simp only [decide_eq_true_eq] at h1 h2 ⊢
        omega⟩
    · rw [(List.mem_replicate.mp (List.mem_of_getElem? hi)).2] at hq
      obtain ⟨row, hrow, rfl⟩ := List.mem_map.mp (List.mem_of_getElem? hS)
      obtain ⟨q1, q2, q3⟩ := mem_prs.mp hq
      rw [← ht.eq _ _ q1 q2] at q3
      exact decide_eq_true ((tol_iff.mp q3).2 row hrow)
    · obtain ⟨h1, h2, h3, h4, h5⟩ := mem_trn.mp (show (t.1, t.2) ∈ trn n r from hsh t htm)
      refine Classical.byContradiction fun q => ?_
      have : tolR rows t.1 t.2 = true := tol_iff.mpr ⟨h3, fun row hrow => ?_⟩
      · rw [ht.eq _ _ h1 h2, h4] at this; cases this
      · have n1 := idx_ne (ht.rw' row hrow) h1 h2 h3
        refine Classical.byContradiction fun z => q ⟨_, List.mem_map.mpr ⟨row, hrow, rfl⟩, decide_eq_true (by omega)⟩
  cases e : putA n 40 (List.replicate 3 (prs n r)) (prs n (shR n r)) with
  | none => exact absurd e sm
  | some p =>
    obtain ⟨p1, p2, p3, p4⟩ := putA_sound n _ _ _ p hPL (fun t ht => sh_ok ht) e
    rw [List.length_replicate] at p1
    have sub : ∀ l ∈ p, ∀ q ∈ prs n r, q ∈ l := fun l hl' q hq => by
      obtain ⟨i, hi⟩ := List.mem_iff_getElem?.mp hl'
      have il := (List.getElem?_eq_some_iff.mp hi).1
      exact p3 i (prs n r) l (by rw [List.getElem?_replicate, if_pos (by omega)]) hi q hq
    have ext : ∀ l ∈ p, ∀ a b, a < n → b < n → (a, b) ∈ l → (fRow n (inL l)).idxOf a < (fRow n (inL l)).idxOf b := fun l hl' a b ha hb hab => fRow_ext (p2 l hl').po ha hb (inL_iff.mpr hab)
    have extr : ∀ l ∈ p, ∀ a b, a < n → b < n → r a b = true → (fRow n (inL l)).idxOf a < (fRow n (inL l)).idxOf b := fun l hl' a b ha hb hab => ext l hl' a b ha hb (sub l hl' _ (mem_prs2.mpr ⟨ha, hb, hab⟩))
    refine ⟨p.map fun l => fRow n (inL l), by unfold rbs; rw [e]; rfl, by rw [List.length_map, p1], fun x hx => ?_, fun a b ha hb => ?_⟩
    · obtain ⟨l, hl', rfl⟩ := List.mem_map.mp hx
      exact fRow_perm (p2 l hl').po
    · rw [Bool.eq_iff_iff, tol_iff]
      constructor
      · rintro ⟨hne, hall⟩
        have hall' : ∀ l ∈ p, (fRow n (inL l)).idxOf a < (fRow n (inL l)).idxOf b := fun l hl' => hall _ (List.mem_map.mpr ⟨l, hl', rfl⟩)
        cases e1 : r a b with
        | true => rfl
        | false =>
          exfalso
          have hpne : p ≠ [] := fun z => by rw [z] at p1; cases p1
          obtain ⟨l0, hl0⟩ := List.exists_mem_of_ne_nil _ hpne
          cases e2 : r b a with
          | true =>
            have := extr l0 hl0 b a hb ha e2
            have := hall' l0 hl0
            omega
          | false =>
            obtain ⟨a', b', q1, q2, q3⟩ := sharp_ex hr _ a b (mem_trn.mpr ⟨ha, hb, hne, e1, e2⟩) (Nat.le_refl _)
            obtain ⟨q4, q5, _⟩ := mem_prs2.mp q1
            obtain ⟨l, hl', hq⟩ := p4 _ q1
            have u1 := ext l hl' b' a' q5 q4 hq
            have u2 := hall' l hl'
            have u3 : (fRow n (inL l)).idxOf a' ≤ (fRow n (inL l)).idxOf a := by
              rcases q2 with z | z
              · rw [z]; exact Nat.le_refl _
              · exact Nat.le_of_lt (extr l hl' a' a q4 ha z)
            have u4 : (fRow n (inL l)).idxOf b ≤ (fRow n (inL l)).idxOf b' := by
              rcases q3 with z | z
              · rw [z]; exact Nat.le_refl _
              · exact Nat.le_of_lt (extr l hl' b b' hb q5 z)
            omega
      · intro e1
        refine ⟨fun z => (by rw [z, hr.irr b hb] at e1; cases e1), fun x hx => ?_⟩
        obtain ⟨l, hl', rfl⟩ := List.mem_map.mp hx
        exact extr l hl' a b ha hb e1
theorem first_tells {n : Nat} {r : Rl} (hr : Po n r) (h : trn n r = []) : Tells n r [fRow n r] := by
  refine ⟨fun x hx => by rw [List.mem_singleton.mp hx]; exact fRow_perm hr, fun a b ha hb => ?_⟩
  rw [Bool.eq_iff_iff, tol_iff]
  simp only [List.mem_singleton, forall_eq]
  constructor
  · rintro ⟨hne, hlt⟩
    cases e1 : r a b with
    | true => rfl
    | false =>
      cases e2 : r b a with
      | true => have := fRow_ext hr hb ha e2; omega
      | false =>
        have : (a, b) ∈ trn n r := mem_trn.mpr ⟨ha, hb, hne, e1, e2⟩
        rw [h] at this; cases this
  · intro e1
    exact ⟨fun z => (by rw [z, hr.irr b hb] at e1; cases e1), fRow_ext hr ha hb e1⟩
/-! ### the crown -/
def crn : Rl := fun a b => decide (a < 3 ∧ 3 ≤ b ∧ b < 6 ∧ a + 3 ≠ b)
def crnRows : List (List Nat) := [[1, 2, 3, 0, 4, 5], [0, 2, 4, 1, 3, 5], [0, 1, 5, 2, 3, 4]]
theorem crn_tells : Tells 6 crn crnRows where
  rw' row h := by
    have key : ∀ row ∈ crnRows, row.Nodup ∧ (∀ x ∈ row, x < 6) ∧ row.length = 6 := by decide
    obtain ⟨a, b, c⟩ := key row h
    exact perm_range a b c
  eq := by
    have : ∀ a, a < 6 → ∀ b, b < 6 → tolR crnRows a b = crn a b := by decide
    exact fun a b ha hb => this a ha b hb
theorem crn_po : Po 6 crn where
  irr := by decide
  tr a b c _ _ _ h1 h2 := by
    unfold crn at h1 h2
    simp only [decide_eq_true_eq] at h1 h2
    omega
end RO
namespace RO
open PySem PySem.Spec PyProof.Rows L2
local macro_rules | `(tactic| walk_at "ln") => `(tactic| (first | assumption | omega | (simp only [List.mem_range, List.length_range, List.length_map, List.length_append, List.length_cons, List.length_nil] at *; omega)))
theorem DL_str (x : Str) (h : PyData.strOk x = true := by decide +kernel) : DL 0 (.str x) := by constructor <;> simp [PyData.canLay0, PyData.depth, h]
theorem isND_eOP (o : Option (List Pr)) : isND (eOP o) = o.isNone := by cases o <;> rfl
theorem isND_eOR (o : Option (List (List Nat))) : isND (eOR o) = o.isNone := by cases o <;> rfl
def Pre_points_or_knot : List PyData → (Sl → Prop) → Prop := fun ds R => ∃ (n : Nat), ∃ (r : Rl), (G6 n r) ∧ ds = [eO n r] ∧ R = (fun v => ∃ d, v = .dat d ∧ (fun d => (Knot n r ∧ ∃ x, d = .tuple [.str "knot", x]) ∨ (¬ Knot n r ∧ ∃ fs, Cho (trn n r) fs ∧ fs.length ≤ 36 ∧ d = .tuple [.str "points", eLP (pbL n r fs)])) d)
theorem W_points_or_knot {E : XK} {ss : List Sl} {t0 : TE} {P : PyData → Prop} {n : Nat} {r : Rl} (k0 : Wd t0 ss (eO n r)) (hk : ∀ d, (fun d => (Knot n r ∧ ∃ x, d = .tuple [.str "knot", x]) ∨ (¬ Knot n r ∧ ∃ fs, Cho (trn n r) fs ∧ fs.length ≤ 36 ∧ d = .tuple [.str "points", eLP (pbL n r fs)])) d → P d) (h1 : G6 n r := by walk_at "ln") : W (tCall (SpD Pre_points_or_knot) [] E (tCons t0 tNil)) ss P := W_call (WA_cons (k0.to (WA_nil ⟨_, ⟨n, r, h1, rfl, rfl⟩, fun s hs => (by obtain ⟨d, rfl, g⟩ := hs; exact ⟨d, rfl, hk d g⟩)⟩)))
theorem ok_points_or_knot {P : Program} {w : World} {K : PySem.W.Frag} {mg : Str → Option Value} {base : Heap} (T : Txt K mg) : Ok P w K mg base 5 "points_or_knot" ["order"] (SpD Pre_points_or_knot) := by
  obtain ⟨f, fd, F, bb, m⟩ := T.d_points_or_knot
  refine ⟨f, fd, m, F.kp, bb, fnD F sc_points_or_knot (fun ds R h => by obtain ⟨n, r, _, rfl, _⟩ := h; rfl) fun cdv A outer s H E ds R hr h => ?_⟩
  obtain ⟨n, r, h1, rfl, rfl⟩ := h
  refine ⟨_, (pss_cons (ps_expr (pe_callN (ok_need_order T) (hr.mono (by decide)) (by rfl) (pa_cons (pv 0) pa_nil)))
      (pss_cons (ps_set (i := 1) sc_points_or_knot.nd rfl (.inl rfl) (pe_callN (ok_knot_of T) (hr.mono (by decide)) (by rfl) (pa_cons (pv 0) pa_nil)))
      (pss_cons (ps_if (pt_cmp (pc_notN (pv 1)) rfl) (pss_one (ps_ret (pe_tup (pa_cons pe_str (pa_cons (pv 1) pa_nil))))) pss_nil)
      (pss_one (ps_ret (pe_tup (pa_cons pe_str (pa_cons (pe_callN (ok_points_by T) (hr.mono (by decide)) (by rfl) (pa_cons (pv 0) (pa_cons (pe_callN (ok_chosen T) (hr.mono (by decide)) (by rfl) (pa_cons (pv 0) pa_nil)) pa_nil))) pa_nil)))))))), ?_⟩
  have hn := h1.2.1
  refine T_seq (T_drop (Wd.to (V_need_order (V_var rfl)) ?_))
  refine T_seq (T_asg (W_knot_of (V_var rfl) (hk := fun d hd => ?_) hn))
  obtain ⟨o, rfl, ho⟩ := hd
  refine T_seq (T_if (WTd.to (VT_B (V_notN (V_var rfl))) ?_))
  rw [isND_eOP]
  cases o with
  | none =>
    have hk := ho.mp rfl
    refine iteF (T_next (T_ret (W_tup (WA_cons (Wd.to V_str (WA_cons (W_call (WA_cons (Wd.to (V_var rfl) (WA_cons (W_chosen (V_var rfl) (hk := fun d hd => ?_) hn))))) ))))))
    obtain ⟨fs, rfl, hl, hc⟩ := hd
    exact WA_nil ⟨_, ⟨n, r, fs, hn, hl, rfl, rfl⟩, fun s hs => ⟨_, hs, WA_nil ⟨by show 2 ≤ 100000; omega, _, rfl, .inr ⟨hk, fs, hc, hl, rfl⟩⟩⟩⟩
  | some p =>
    have hk : Knot n r := Classical.byContradiction fun z => by have := ho.mpr z; cases this
    exact iteT (T_ret (Wd.to (V_tup2 V_str (V_var rfl)) ⟨_, rfl, .inl ⟨hk, _, rfl⟩⟩))
def Pre_two_rows : List PyData → (Sl → Prop) → Prop := fun ds R => ∃ (n : Nat), ∃ (r : Rl), (G6 n r) ∧ ds = [eO n r] ∧ R = (fun v => ∃ d, v = .dat d ∧ (fun d => ∃ o : Option (List (List Nat)), d = eOR o ∧ ((o = none ∧ Knot n r) ∨ ∃ ra rb, o = some [ra, rb] ∧ ¬ Knot n r ∧ Tells n r [ra, rb])) d)
theorem W_two_rows {E : XK} {ss : List Sl} {t0 : TE} {P : PyData → Prop} {n : Nat} {r : Rl} (k0 : Wd t0 ss (eO n r)) (hk : ∀ d, (fun d => ∃ o : Option (List (List Nat)), d = eOR o ∧ ((o = none ∧ Knot n r) ∨ ∃ ra rb, o = some [ra, rb] ∧ ¬ Knot n r ∧ Tells n r [ra, rb])) d → P d) (h1 : G6 n r := by walk_at "ln") : W (tCall (SpD Pre_two_rows) [] E (tCons t0 tNil)) ss P := W_call (WA_cons (k0.to (WA_nil ⟨_, ⟨n, r, h1, rfl, rfl⟩, fun s hs => (by obtain ⟨d, rfl, g⟩ := hs; exact ⟨d, rfl, hk d g⟩)⟩)))
theorem ok_two_rows {P : Program} {w : World} {K : PySem.W.Frag} {mg : Str → Option Value} {base : Heap} (T : Txt K mg) : Ok P w K mg base 6 "two_rows" ["order"] (SpD Pre_two_rows) := by
  obtain ⟨f, fd, F, bb, m⟩ := T.d_two_rows
  refine ⟨f, fd, m, F.kp, bb, fnD F sc_two_rows (fun ds R h => by obtain ⟨n, r, _, rfl, _⟩ := h; rfl) fun cdv A outer s H E ds R hr h => ?_⟩
  obtain ⟨n, r, h1, rfl, rfl⟩ := h
  refine ⟨_, (pss_cons (ps_asg (pe_callN (ok_points_or_knot T) (hr.mono (by decide)) (by rfl) (pa_cons (pv 0) pa_nil)) (pg_tup rfl (pgs_cons (pg_name (i := 1) sc_two_rows.nd rfl (.inl rfl)) (pgs_cons (pg_name (i := 2) sc_two_rows.nd rfl (.inl rfl)) pgs_nil))))
      (pss_cons (ps_if (pt_cmpR (k_eq K hr) (pv 1) pe_str (nomark _)) (pss_one (ps_ret pe_non)) pss_nil)
      (pss_one (ps_ret (pe_callN (ok_rows_by T) (hr.mono (by decide)) (by rfl) (pa_cons (pv 2) pa_nil)))))), ?_⟩
  refine T_seq (T_asgG (js := [1, 2]) (W_points_or_knot (V_var rfl) (hk := fun d hd => ?_) h1))
  rcases hd with ⟨hk, x, rfl⟩ | ⟨hk, fs, hc, hl, rfl⟩
  · refine WG_tup ⟨_, _, rfl, ?_⟩
    refine T_seq (T_if (WTd.to (VT_t (V_eqG (V_var rfl) V_str (DL_str _).sh (DL_str _).sh)) ?_))
    exact iteT (T_ret (Wd.to V_non ⟨_, rfl, none, rfl, .inl ⟨rfl, hk⟩⟩))
  · refine WG_tup ⟨_, _, rfl, ?_⟩
    refine T_seq (T_if (WTd.to (VT_t (V_eqG (V_var rfl) V_str (DL_str _).sh (DL_str _).sh)) ?_))
    have T := cho_tells h1.2.2 hk hc
    refine iteF (T_next (T_ret (Wd.to (V_rows_by (pts := pbL n r fs) (V_var rfl) (by rw [pts_len]; exact h1.2.1) (pts_perm h1.2.2 T)) ⟨_, rfl, some _, rfl, .inr ⟨_, _, rfl, hk, pts_tell h1.2.2 T⟩⟩)))
def Pre_fewest_rows : List PyData → (Sl → Prop) → Prop := fun ds R => ∃ (n : Nat), ∃ (r : Rl), (G6 n r) ∧ (Dim3 n r) ∧ ds = [eO n r] ∧ R = (fun v => ∃ d, v = .dat d ∧ (fun d => ∃ rows : List (List Nat), d = eLR rows ∧ rows.length ≤ 3 ∧ IsFew n r rows.length ∧ Tells n r rows) d)
theorem W_fewest_rows {E : XK} {ss : List Sl} {t0 : TE} {P : PyData → Prop} {n : Nat} {r : Rl} (k0 : Wd t0 ss (eO n r)) (hk : ∀ d, (fun d => ∃ rows : List (List Nat), d = eLR rows ∧ rows.length ≤ 3 ∧ IsFew n r rows.length ∧ Tells n r rows) d → P d) (h1 : G6 n r := by walk_at "ln") (h2 : Dim3 n r := by walk_at "ln") : W (tCall (SpD Pre_fewest_rows) [] E (tCons t0 tNil)) ss P := W_call (WA_cons (k0.to (WA_nil ⟨_, ⟨n, r, h1, h2, rfl, rfl⟩, fun s hs => (by obtain ⟨d, rfl, g⟩ := hs; exact ⟨d, rfl, hk d g⟩)⟩)))
theorem ok_fewest_rows {P : Program} {w : World} {K : PySem.W.Frag} {mg : Str → Option Value} {base : Heap} (T : Txt K mg) : Ok P w K mg base 50 "fewest_rows" ["order"] (SpD Pre_fewest_rows) := by
  obtain ⟨f, fd, F, bb, m⟩ := T.d_fewest_rows
  refine ⟨f, fd, m, F.kp, bb, fnD F sc_fewest_rows (fun ds R h => by obtain ⟨n, r, _, _, rfl, _⟩ := h; rfl) fun cdv A outer s H E ds R hr h => ?_⟩
  obtain ⟨n, r, h1, h2, rfl, rfl⟩ := h
  refine ⟨_, (pss_cons (ps_expr (pe_callN (ok_need_order T) (hr.mono (by decide)) (by rfl) (pa_cons (pv 0) pa_nil)))
      (pss_cons (ps_if (pt_cmpR (k_eq K hr) (pe_callN (ok_all_turns T) (hr.mono (by decide)) (by rfl) (pa_cons (pv 0) pa_nil)) (pe_lst pa_nil) (nomark _)) (pss_one (ps_ret (pe_lst (pa_cons (pe_callN (ok_first_row_of T) (hr.mono (by decide)) (by rfl) (pa_cons (pv 0) pa_nil)) pa_nil)))) pss_nil)
      (pss_cons (ps_set (i := 1) sc_fewest_rows.nd rfl (.inl rfl) (pe_callN (ok_two_rows T) (hr.mono (by decide)) (by rfl) (pa_cons (pv 0) pa_nil)))
      (pss_cons (ps_set (i := 2) sc_fewest_rows.nd rfl (.inl rfl) pe_int)
      (pss_cons (ps_while PassesOwn.never (pt_cmp (pc_isN (pv 1)) rfl) (pss_cons (ps_set (i := 1) sc_fewest_rows.nd rfl (.inl rfl) (pe_callN (ok_rows_by_search T) (hr.mono (by decide)) (by rfl) (pa_cons (pv 0) (pa_cons (pv 2) pa_nil))))
      (pss_one (ps_set (i := 2) sc_fewest_rows.nd rfl (.inl rfl) (pe_op op_add (pv 2) pe_int)))))
      (pss_one (ps_ret (pv 1)))))))), ?_⟩
  have hn := h1.2.1
  have hr := h1.2.2
  refine T_seq (T_drop (Wd.to (V_need_order (V_var rfl)) ?_))
  refine T_seq (T_if (WTd.to (VT_t (V_eqLP (V_all_turns (V_var rfl) hn) (V_lst0 (α := Pr)))) ?_))
  by_cases e : trn n r = []
  · rw [decide_eq_true e]
    refine iteT (T_ret (Wd.to (V_lst1 (f := eTN) (V_first_row_of (V_var rfl) hn hr)) ⟨_, rfl, [fRow n r], rfl, by show 1 ≤ 3; omega, .inl ⟨rfl, e⟩, first_tells hr e⟩))
  · rw [decide_eq_false e]
    refine iteF (T_next (T_seq (T_asg (W_two_rows (V_var rfl) (hk := fun d hd => ?_) h1))))
    obtain ⟨o, rfl, ho⟩ := hd
    refine T_seq (T_asg (Wd.to (V_nat 3) ?_))
    refine T_seq (T_while (fun mm ss => (∃ rows c, mm = 0 ∧ ss = [.dat (eO n r), .dat (eOR (some rows)), .dat (eN c)] ∧ rows.length ≤ 3 ∧ IsFew n r rows.length ∧ Tells n r rows) ∨ (mm = 1 ∧ Knot n r ∧ ss = [.dat (eO n r), .dat (eOR none), .dat (eN 3)])) (match o with | none => 1 | some _ => 0) ?_ ?_)
    · rcases ho with ⟨rfl, hk⟩ | ⟨ra, rb, rfl, hk, ht⟩
      · exact .inr ⟨rfl, hk, rfl⟩
      · exact .inl ⟨_, 3, rfl, rfl, by show 2 ≤ 3; omega, .inr (.inl ⟨rfl, e, hk⟩), ht⟩
    · rintro mm ss' (⟨rows, c, rfl, rfl, hl, hf, ht⟩ | ⟨rfl, hk, rfl⟩)
      · refine WTd.to (VT_B (V_isN (V_var rfl))) ?_
        exact iteF (T_ret (Wd.to (V_var rfl) ⟨_, rfl, rows, rfl, hl, hf, ht⟩))
      · refine WTd.to (VT_B (V_isN (V_var rfl))) ?_
        obtain ⟨rows, q1, q2, q3⟩ := rbs_ok hn hr h2
        refine iteT (T_seq (T_asg (Wd.to (V_rows_by_search (V_var rfl) (V_var rfl) hn hr (by omega)) ?_)))
        rw [q1]
        refine T_asg (Wd.to (V_addN (V_var rfl) (V_nat 1)) ⟨0, by omega, .inl ⟨rows, 3 + 1, rfl, rfl, by omega, .inr (.inr ⟨q2, e, hk⟩), q3⟩⟩)
def Pre_fewest : List PyData → (Sl → Prop) → Prop := fun ds R => ∃ (n : Nat), ∃ (r : Rl), (G6 n r) ∧ (Dim3 n r) ∧ ds = [eO n r] ∧ R = (fun v => ∃ d, v = .dat d ∧ (fun d => ∃ k : Nat, d = eN k ∧ IsFew n r k) d)
theorem W_fewest {E : XK} {ss : List Sl} {t0 : TE} {P : PyData → Prop} {n : Nat} {r : Rl} (k0 : Wd t0 ss (eO n r)) (hk : ∀ d, (fun d => ∃ k : Nat, d = eN k ∧ IsFew n r k) d → P d) (h1 : G6 n r := by walk_at "ln") (h2 : Dim3 n r := by walk_at "ln") : W (tCall (SpD Pre_fewest) [] E (tCons t0 tNil)) ss P := W_call (WA_cons (k0.to (WA_nil ⟨_, ⟨n, r, h1, h2, rfl, rfl⟩, fun s hs => (by obtain ⟨d, rfl, g⟩ := hs; exact ⟨d, rfl, hk d g⟩)⟩)))
theorem ok_fewest {P : Program} {w : World} {K : PySem.W.Frag} {mg : Str → Option Value} {base : Heap} (T : Txt K mg) : Ok P w K mg base 51 "fewest" ["order"] (SpD Pre_fewest) := by
  obtain ⟨f, fd, F, bb, m⟩ := T.d_fewest
  refine ⟨f, fd, m, F.kp, bb, fnD F sc_fewest (fun ds R h => by obtain ⟨n, r, _, _, rfl, _⟩ := h; rfl) fun cdv A outer s H E ds R hr h => ?_⟩
  obtain ⟨n, r, h1, h2, rfl, rfl⟩ := h
  refine ⟨_, (pss_one (ps_ret (pe_callB c_len (by rfl) T.b_len (by decide +kernel) (pa_cons (pe_callN (ok_fewest_rows T) (hr.mono (by decide)) (by rfl) (pa_cons (pv 0) pa_nil)) pa_nil)))), ?_⟩
  refine T_ret (W_len (W_fewest_rows (V_var rfl) (hk := fun d hd => ?_) h1 h2))
  obtain ⟨rows, rfl, hl, hf, ht⟩ := hd
  exact ⟨_, .inl rfl, _, rfl, rows.length, by rw [List.length_map], hf⟩
end RO
namespace RO
open PySem PySem.Spec PyProof.Rows L2
local macro_rules | `(tactic| walk_at "ln") => `(tactic| (first | assumption | omega | (simp only [List.mem_range, List.length_range, List.length_map, List.length_append, List.length_cons, List.length_nil] at *; omega)))
abbrev eLI (zs : List Int) : PyData := .list (zs.map PyData.int)
theorem V_neLN {K : PySem.W.Frag} {ss : List Sl} {ta tb : TE} {l m : List Nat} (ha : Wd ta ss (eLN l)) (hb : Wd tb ss (eLN m)) : Wd (tOp (rNeD K) ta tb) ss (.bool (!decide (l = m))) := (V_neG ha hb (DL_eLN l).sh (DL_eLN m).sh).cast (by rw [eqv_eLN])
theorem emod_bd (x : Int) {m : Int} (h : 0 < m) : 0 ≤ x % m ∧ x % m < m := ⟨Int.emod_nonneg x (by omega), Int.emod_lt_of_pos x h⟩
theorem ok_law_box {P : Program} {w : World} {K : PySem.W.Frag} {mg : Str → Option Value} {base : Heap} (T : Txt K mg) : Ok P w K mg base 1 "_law_box" ["script", "k"] (SpBox K) := by
  obtain ⟨f, fd, F, bb, m⟩ := T.d_law_box
  refine ⟨f, fd, m, F.kp, bb, fnS F sc_law_box (fun vs H Q E h => by obtain ⟨_, _, _, _, rfl, _⟩ := h; rfl) fun cdv A outer s H E vs Q hr h => ?_⟩
  obtain ⟨F0, a, zs, e, rfl, hS, q⟩ := h
  refine ⟨_, F0, [.no, .dat (eN 0), .no, .no, .no, .no], { nx := fun _ => False, rt := fun v _ => ∃ z : Int, v = .own (.lst [.int z]) }, a, zs.map V.int, (pss_cons (ps_set (i := 2) sc_law_box.nd rfl (.inl rfl) (pe_op op_add (pe_op op_mul pe_int (pv 1)) pe_int))
      (pss_cons (ps_if (pt_cmpR op_lt (pv 1) (pe_callB c_len (by rfl) T.b_len (by decide +kernel) (pa_cons (pv 0) pa_nil)) (nomark _)) (pss_one (ps_set (i := 2) sc_law_box.nd rfl (.inl rfl) (pe_ix (kx_list K) (pv 0) (pv 1) (fun _ _ => rfl)))) pss_nil)
      (pss_cons (ps_if (pt_cmpR (k_eq K hr) (pe_op op_mod (pv 2) pe_int) pe_int (nomark _)) (pss_one (ps_ret (pe_lst (pa_cons (pe_op op_fdiv (pv 2) pe_int) pa_nil)))) pss_nil)
      (pss_cons (ps_set (i := 3) sc_law_box.nd rfl (.inl rfl) pe_int)
      (pss_cons (ps_for PassesOwn.never rfl (pi_range1 rfl T.b_range (pa_cons pe_int pa_nil)) (pg_name (i := 4) sc_law_box.nd rfl (.inl rfl)) (pss_cons (ps_set (i := 5) sc_law_box.nd rfl (.inl rfl) (pe_op op_mod (pe_op op_add (pe_op op_add (pe_op op_mul (pe_op op_mod (pv 2) pe_int) pe_int) (pe_op op_mul pe_int (pv 4))) pe_int) pe_int))
      (pss_cons (ps_set (i := 5) sc_law_box.nd rfl (.inl rfl) (pe_op op_mod (pe_op op_mul (pv 5) (pv 5)) pe_int))
      (pss_one (ps_set (i := 3) sc_law_box.nd rfl (.inl rfl) (pe_op op_add (pe_op op_mul (pv 3) pe_int) (pe_op op_mod (pe_op op_mul (pv 5) (pe_op op_add (pv 5) pe_int)) pe_int)))))))
      (pss_one (ps_ret (pe_lst (pa_cons (pv 3) pa_nil))))))))), e, ?_, rfl, hS, ?_, fun _ _ _ z => z.elim, ?_, fun _ z => z, fun _ z => z⟩
  · refine ⟨rfl, fun i s hi => ?_, fun i j' s s' p hij e1 e2 o1 o2 h1 h2 => ?_⟩
    · match i, hi with
      | 0, hi => cases hi; trivial
      | 1, hi => cases hi; exact ⟨_, rfl, .int _⟩
      | 2, hi => cases hi; trivial
      | 3, hi => cases hi; trivial
      | 4, hi => cases hi; trivial
      | 5, hi => cases hi; trivial
      | i + 6, hi => simp at hi
    · match i, e1 with
      | 0, e1 => cases e1; cases o1
      | 1, e1 => cases e1; cases o1
      | 2, e1 => cases e1; cases o1
      | 3, e1 => cases e1; cases o1
      | 4, e1 => cases e1; cases o1
      | 5, e1 => cases e1; cases o1
      | i + 6, e1 => simp at e1
  · refine TtS_asg (by decide) (Wd.to (V_addI (V_mulI (V_int 7919) (V_var rfl) (.inl ⟨by decide, by decide⟩)) (V_int 13)) ?_)
    suffices hmain : ∀ here : Int, Tt _ [.no, .dat (eN 0), .dat (.int here), .no, .no, .no] _ from TtS_if (j := 1) (i := 2) (zs := zs) rfl (hmain _) hmain
    intro here
    refine T_seq (T_if (WTd.to (VT_t (V_eqI (V_modI (V_var rfl) (V_int 2) (by decide)) (V_int 0))) ?_))
    cases PyData.eqv (.int (here % 2)) (.int 0) with
    | true =>
      refine iteT (T_retNew (WA_cons (Wd.to (V_fdivI (V_var rfl) (V_int 2) ⟨by decide, by decide⟩) (WA_nil ⟨by show 1 ≤ 100000; omega, _, rfl⟩))))
    | false =>
      refine iteF (T_next (T_seq (T_asg (Wd.to (V_int 0) ?_))))
      refine T_seq (T_for [4] (WId.to (VI_rng (n := 16) (V_nat 16) (by omega)) ⟨fun i ss => ∃ (z : Int) (y4 y5 : Sl), ss = [.no, .dat (eN 0), .dat (.int here), .dat (.int z), y4, y5], ⟨_, _, _, rfl⟩, ?_, ?_⟩))
      · rintro i d ss' hd ⟨z, y4, y5, rfl⟩
        obtain ⟨hi, rfl⟩ := rng_turn hd
        refine WG_name ?_
        refine T_seq (T_asg (Wd.to (V_modI (V_addI (V_addI (V_mulI (V_modI (V_var rfl) (V_int 2147483647) (by decide)) (V_int 48271) (.inr ⟨by decide, by decide⟩)) (V_mulI (V_int 7919) (V_var rfl) (.inl ⟨by decide, by decide⟩))) (V_int 1)) (V_int 2147483647) (by decide)) ?_))
        obtain ⟨b1, b2⟩ := emod_bd (here % 2147483647 * 48271 + 7919 * ((i : Nat) : Int) + 1) (m := 2147483647) (by decide)
        generalize (here % 2147483647 * 48271 + 7919 * ((i : Nat) : Int) + 1) % 2147483647 = part at b1 b2 ⊢
        refine T_seq (T_asg (Wd.to (V_modI (V_mulI (x := part) (y := part) (V_var rfl) (V_var rfl) (.inl ⟨by omega, by omega⟩)) (V_int 2147483629) (by decide)) ?_))
        obtain ⟨c1, c2⟩ := emod_bd (part * part) (m := 2147483629) (by decide)
        generalize (part * part) % 2147483629 = part2 at c1 c2 ⊢
        refine T_asg (Wd.to (V_addI (V_mulI (V_var rfl) (V_int 2147483647) (.inr ⟨by decide, by decide⟩)) (V_modI (V_mulI (x := part2) (V_var rfl) (V_addI (x := part2) (V_var rfl) (V_int 13)) (.inl ⟨by omega, by omega⟩)) (V_int 2147483647) (by decide))) ⟨_, _, _, rfl⟩)
      · rintro ss' ⟨z, y4, y5, rfl⟩
        exact T_retNew (WA_cons (Wd.to (V_var rfl) (WA_nil ⟨by show 1 ≤ 100000; omega, _, rfl⟩)))
  · rintro F2 H2 ss v s ⟨z, rfl⟩ g hv
    exact q v F2 H2 z g hv
def PreTake : PyData → (PyData → Prop) → Prop := fun d R => ∃ m : Nat, 1 ≤ m ∧ m ≤ 1000 ∧ d = eN m ∧ R = fun d' => ∃ j : Nat, j < m ∧ d' = eN j
theorem ok_law_take {P : Program} {w : World} {K : PySem.W.Frag} {mg : Str → Option Value} {base : Heap} (T : Txt K mg) : Ok P w K mg base 1 "_law_take" ["box", "many"] (SpB PreTake) := by
  obtain ⟨f, fd, F, bb, m⟩ := T.d_law_take
  refine ⟨f, fd, m, F.kp, bb, fnB F sc_law_take (by decide) fun cdv A outer s H E p z d R hr h => ?_⟩
  obtain ⟨m', hm1, hm2, rfl, rfl⟩ := h
  refine ⟨_, (pss_cons (ps_asg (pe_callB call_divmod (by rfl) T.b_divmod (by decide +kernel) (pa_cons (pe_ix (kx_list K) (pv 0) pe_int (fun _ _ => rfl)) (pa_cons (pv 1) pa_nil))) (pg_tup rfl (pgs_cons (pg_name (i := 2) sc_law_take.nd rfl (.inl rfl)) (pgs_cons (pg_name (i := 3) sc_law_take.nd rfl (.inl rfl)) pgs_nil))))
      (pss_cons (ps_asg (pv 2) (pg_sub (pv 0) pe_int set_list))
      (pss_one (ps_ret (pv 3))))), ?_⟩
  refine T_seq (T_asgG (js := [2, 3]) (W_divmod (W_ixO (ds := [.int z]) rfl (.inr ⟨p, rfl⟩) (Wd.to (V_int 0) ⟨0, .int z, rfl, rfl, Wd.to (V_var rfl) ⟨z, m', rfl, rfl, ⟨by omega, by omega⟩, WG_tup ⟨_, _, rfl, ?_⟩⟩⟩))))
  obtain ⟨b1, b2⟩ := emod_bd z (m := (m' : Int)) (by omega)
  refine T_seq (T_set0P (d0 := .int z) (p := p) rfl (Wd.to (V_var rfl) ?_))
  refine T_ret (Wd.to (V_var rfl) ⟨_, z / (m' : Int), rfl, ⟨(z % (m' : Int)).toNat, by omega, ?_⟩, rfl⟩)
  show PyData.int _ = PyData.int _
  congr 1
  omega
def PreShuf : PyData → (PyData → Prop) → Prop := fun d R => ∃ l : List Nat, l.length ≤ 100 ∧ d = eLN l ∧ R = fun d' => ∃ row : List Nat, row.Perm l ∧ d' = eTN row
theorem erase_perm {l : List Nat} {j a : Nat} (h : l[j]? = some a) : (a :: l.eraseIdx j).Perm l := by
  induction l generalizing j with
  | nil => cases h
  | cons x l ih =>
    cases j with
    | zero => cases h; exact List.Perm.refl _
    | succ j =>
      have h : l[j]? = some a := by simpa using h
      exact (List.Perm.swap x a _).trans ((ih h).cons x)
theorem ok_law_shuffled {P : Program} {w : World} {K : PySem.W.Frag} {mg : Str → Option Value} {base : Heap} (T : Txt K mg) : Ok P w K mg base 2 "_law_shuffled" ["box", "some"] (SpB PreShuf) := by
  obtain ⟨f, fd, F, bb, m⟩ := T.d_law_shuffled
  refine ⟨f, fd, m, F.kp, bb, fnB F sc_law_shuffled (by decide) fun cdv A outer s H E p z d R hr h => ?_⟩
  obtain ⟨l, hl, rfl, rfl⟩ := h
  refine ⟨_, (pss_cons (ps_set (i := 2) sc_law_shuffled.nd rfl (.inl rfl) (pe_callTy c_list (by rfl) T.b_list (by decide +kernel) (pa_cons (pv 1) pa_nil)))
      (pss_cons (ps_set (i := 3) sc_law_shuffled.nd rfl (.inl rfl) (pe_lst pa_nil))
      (pss_cons (ps_while PassesOwn.never (pt_cmpR (k_ne K hr) (pv 2) (pe_lst pa_nil) (nomark _)) (pss_one (ps_expr (pe_bm PySem.F.plainAttrs_list PySem.F.slot_list_append PySem.F.type_list_append mt_append (pv 3) (pa_cons (pe_bm PySem.F.plainAttrs_list PySem.F.slot_list_pop PySem.F.type_list_pop mt_popAt (pv 2) (pa_cons (pe_callN (ok_law_take T) (hr.mono (by decide)) (by rfl) (pa_cons (pv 0) (pa_cons (pe_callB c_len (by rfl) T.b_len (by decide +kernel) (pa_cons (pv 2) pa_nil)) pa_nil))) pa_nil)) pa_nil)))))
      (pss_one (ps_ret (pe_callTy c_tupleR (by rfl) T.b_tuple (by decide +kernel) (pa_cons (pv 3) pa_nil))))))), ?_⟩
  refine T_seq (T_newCp (Wd.to (V_var rfl) ⟨_, .inl rfl, ?_⟩))
  refine T_seq (T_newL (WA_nil ⟨by show 0 ≤ 100000; omega, ?_⟩))
  refine T_seq (T_while (fun mm ss => ∃ (ls fs : List Nat) (z : Int), mm = ls.length ∧ (ls ++ fs).Perm l ∧ ss = [.par p (.lst [.int z]), .dat (eLN l), .own (.lst (ls.map eN)), .own (.lst (fs.map eN))]) l.length ⟨l, [], z, rfl, by rw [List.append_nil], rfl⟩ ?_)
  rintro mm ss' ⟨ls, fs, z, rfl, hp, rfl⟩
  have hlen := hp.length_eq
  rw [List.length_append] at hlen
  refine WTd.to (VT_fz (VT_t (V_neLN (l := ls) (V_var rfl) (V_lst0 (α := Nat))))) ?_
  by_cases e : ls = []
  · subst e
    refine iteF (T_frz 3 rfl (T_ret (Wd.to (V_tupleR (l := fs) (V_var rfl)) ⟨_, z, rfl, ⟨fs, hp, rfl⟩, rfl⟩)))
  · rw [decide_eq_false e]
    have hpos : 0 < ls.length := List.length_pos_iff.mpr e
    refine iteT (T_appPop (ls := ls) (by decide) rfl rfl (by rw [List.length_map]; omega) (WM_callB (z := z) rfl (.inr ⟨p, rfl⟩) (Wd.to (V_fz (V_lenL (f := eN) (l := ls) (V_var rfl))) ⟨_, ⟨ls.length, hpos, by omega, rfl, rfl⟩, ?_⟩)))
    rintro d' z' ⟨j, hj, rfl⟩
    obtain ⟨a, ha⟩ : ∃ a, ls[j]? = some a := ⟨_, List.getElem?_eq_getElem hj⟩
    refine ⟨j, a, rfl, ha, by omega, rfl, rfl, (ls.eraseIdx j).length, ?_, ls.eraseIdx j, fs ++ [a], z', rfl, ?_, ?_⟩
    · rw [List.length_eraseIdx, if_pos hj]; omega
    · refine List.Perm.trans ?_ hp
      refine List.Perm.trans ?_ ((erase_perm ha).append_right fs)
      have : (ls.eraseIdx j ++ (fs ++ [a])).Perm (ls.eraseIdx j ++ (a :: fs)) := List.Perm.append_left _ (List.perm_append_singleton a fs)
      exact this.trans List.perm_middle
    · rw [List.map_append]; rfl
end RO
namespace RO
open PySem PySem.Spec PyProof.Rows L2
local macro_rules | `(tactic| walk_at "ln") => `(tactic| (first | assumption | omega | (simp only [List.mem_range, List.length_range, List.length_map, List.length_append, List.length_cons, List.length_nil] at *; omega)))
abbrev cbs : List Pr := [(0, 4), (0, 5), (1, 3), (1, 5), (2, 3), (2, 4)]
def cpr (f : Nat → Nat) (k : Nat) : List Pr := (List.range k).flatMap fun a => ((List.range 3).filter fun j => !decide (j = a)).map fun j => (f a, f (3 + j))
theorem cpr_succ (f : Nat → Nat) (k : Nat) : cpr f (k + 1) = cpr f k ++ ((List.range 3).filter fun j => !decide (j = k)).map fun j => (f k, f (3 + j)) := by
  unfold cpr
  rw [show List.range (k + 1) = List.range k ++ [k] from List.range_succ, List.flatMap_append, List.flatMap_singleton]
theorem cpr_3 (f : Nat → Nat) : cpr f 3 = cbs.map fun p => (f p.1, f p.2) := rfl
theorem cpr_len (f : Nat → Nat) : ∀ k, (cpr f k).length ≤ k * 3
  | 0 => by simp [cpr]
  | k + 1 => by
    have := cpr_len f k
    have := List.length_filter_le (fun j => !decide (j = k)) (List.range 3)
    rw [List.length_range] at this
    rw [cpr_succ, List.length_append, List.length_map]
    omega
theorem row_get {n : Nat} {row : List Nat} (h : row.Perm (List.range n)) {a : Nat} (ha : a < n) : row[a]? = some (row.getD a 0) ∧ row.getD a 0 < n := by
  have hl : row.length = n := by rw [h.length_eq, List.length_range]
  have e : row[a]? = some (row.getD a 0) := by rw [List.getD_eq_getElem?_getD, List.getElem?_eq_getElem (by omega)]; rfl
  exact ⟨e, List.mem_range.mp (h.mem_iff.mp (List.mem_of_getElem? e))⟩
theorem row_inj {n : Nat} {row : List Nat} (h : row.Perm (List.range n)) {a b : Nat} (ha : a < n) (hb : b < n) (e : row.getD a 0 = row.getD b 0) : a = b := by
  have hl : row.length = n := by rw [h.length_eq, List.length_range]
  have nd := h.nodup_iff.mpr List.nodup_range
  have h1 := (row_get h ha).1
  have h2 := (row_get h hb).1
  rw [e, ← h2] at h1
  exact (List.getElem?_inj (by omega) nd).mp h1
theorem crn_ren {row : List Nat} (h : row.Perm (List.range 6)) : Ren 6 (fun a => row.getD a 0) crn (inL (cpr (fun a => row.getD a 0) 3)) where
  lt a ha := (row_get h ha).2
  inj a b ha hb e := row_inj h ha hb e
  eq a b ha hb := by
    have hmem : ∀ p : Pr, p ∈ cbs ↔ p.1 < 6 ∧ p.2 < 6 ∧ crn p.1 p.2 = true := by
      intro p
      constructor
      · intro hp
        have : ∀ p ∈ cbs, p.1 < 6 ∧ p.2 < 6 ∧ crn p.1 p.2 = true := by decide
        exact this p hp
      · rintro ⟨h1, h2, h3⟩
        have : ∀ a, a < 6 → ∀ b, b < 6 → (!crn a b || decide ((a, b) ∈ cbs)) = true := by decide
        have := this _ h1 _ h2
        rw [h3] at this
        exact of_decide_eq_true this
    rw [Bool.eq_iff_iff, inL_iff, cpr_3, List.mem_map]
    constructor
    · rintro ⟨p, hp, e⟩
      obtain ⟨h1, h2, h3⟩ := (hmem p).mp hp
      have e1 := row_inj h h1 ha (Prod.mk.inj e).1
      have e2 := row_inj h h2 hb (Prod.mk.inj e).2
      rw [← e1, ← e2]; exact h3
    · intro hc
      exact ⟨(a, b), (hmem (a, b)).mpr ⟨ha, hb, hc⟩, rfl⟩
theorem cpr_ok {row : List Nat} (h : row.Perm (List.range 6)) : (∀ p ∈ cpr (fun a => row.getD a 0) 3, p.1 < 6 ∧ p.2 < 6) ∧ (cpr (fun a => row.getD a 0) 3).Nodup := by
  rw [cpr_3]
  have lt : ∀ p ∈ cbs, p.1 < 6 ∧ p.2 < 6 := by decide
  refine ⟨fun p hp => ?_, map_nd (by decide) fun p hp q hq e => ?_⟩
  · obtain ⟨q, hq, rfl⟩ := List.mem_map.mp hp
    exact ⟨(row_get h (lt q hq).1).2, (row_get h (lt q hq).2).2⟩
  · exact Prod.ext (row_inj h (lt p hp).1 (lt q hq).1 (Prod.mk.inj e).1) (row_inj h (lt p hp).2 (lt q hq).2 (Prod.mk.inj e).2)
def PreOrd : PyData → (PyData → Prop) → Prop := fun d R => d = eN 6 ∧ R = fun d' => ∃ (n : Nat) (r : Rl), d' = eO n r ∧ G6 n r ∧ Dim3 n r
theorem ok_law_order {P : Program} {w : World} {K : PySem.W.Frag} {mg : Str → Option Value} {base : Heap} (T : Txt K mg) : Ok P w K mg base 3 "_law_order" ["box", "most"] (SpB PreOrd) := by
  obtain ⟨f, fd, F, bb, m⟩ := T.d_law_order
  refine ⟨f, fd, m, F.kp, bb, fnB F sc_law_order (by decide) fun cdv A outer s H E p z d R hr h => ?_⟩
  obtain ⟨rfl, rfl⟩ := h
  refine ⟨_, (pss_cons (ps_set (i := 2) sc_law_order.nd rfl (.inr rfl) (pe_op op_add pe_int (pe_callN (ok_law_take T) (hr.mono (by decide)) (by rfl) (pa_cons (pv 0) (pa_cons (pv 1) pa_nil)))))
      (pss_cons (ps_setLc (i := 3) (own := [("turn", 7)]) (g := gName 7) (tt := tYes) rfl sc_law_order.nd rfl rfl (sw_true rfl rfl rfl (by decide +kernel))  (pi_range1 rfl T.b_range (pa_cons (pe_op op_add pe_int (pe_callN (ok_law_take T) (hr.mono (by decide)) (by rfl) (pa_cons (pv 0) (pa_cons pe_int pa_nil)))) pa_nil)) (blkOk_by (own := [("turn", 7)]) (N := n_law_order) (sc := defScope s_law_order) (by decide +kernel)) (fun _ _ _ _ _ => (pg_name (i := 7) sc_law_order.nd rfl (.inl rfl))) (fun _ _ _ _ _ => pts_nil) (fun _ _ _ _ _ => (pe_callN (ok_law_shuffled T) (hr.mono (by decide)) (by rfl) (pa_cons (pv 0) (pa_cons (pe_listRg rfl rfl T.b_list (prg_1 rfl T.b_range (pv 2))) pa_nil)))))
      (pss_cons (ps_if (PW.pt (pw_and (pt_cmpR (k_eq K hr) (pv 2) pe_int (nomark _)) (pw_and1 (pt_cmpR (k_eq K hr) (pe_callN (ok_law_take T) (hr.mono (by decide)) (by rfl) (pa_cons (pv 0) (pa_cons pe_int pa_nil))) pe_int (nomark _))))) (pss_cons (ps_set (i := 4) sc_law_order.nd rfl (.inr rfl) (pe_callN (ok_law_shuffled T) (hr.mono (by decide)) (by rfl) (pa_cons (pv 0) (pa_cons (pe_listRg rfl rfl T.b_list (prg_1 rfl T.b_range pe_int)) pa_nil))))
      (pss_cons (ps_set (i := 5) sc_law_order.nd rfl (.inl rfl) (pe_lst pa_nil))
      (pss_cons (ps_for PassesOwn.never rfl (pi_range1 rfl T.b_range (pa_cons pe_int pa_nil)) (pg_name (i := 6) sc_law_order.nd rfl (.inr rfl)) (pss_one (ps_set (i := 5) sc_law_order.nd rfl (.inl rfl) (pe_op op_cat (pv 5) (pe_lc (own := [("j", 8)]) (g := gName 8)  rfl sc_law_order.nd (pi_range1 rfl T.b_range (pa_cons pe_int pa_nil)) (blkOk_by (own := [("j", 8)]) (N := n_law_order) (sc := defScope s_law_order) (by decide +kernel)) (fun _ _ _ _ _ => (pg_name (i := 8) sc_law_order.nd rfl (.inl rfl))) (fun _ _ _ _ _ => pts_one (pt_cmpR (k_ne K hr) (pv 8) (pv 6) (nomark _))) (fun _ _ _ _ _ => (pe_tup (pa_cons (pe_ix (kx_tup K) (pv 4) (pv 6) (fun _ _ => rfl)) (pa_cons (pe_ix (kx_tup K) (pv 4) (pe_op op_add pe_int (pv 8)) (fun _ _ => rfl)) pa_nil)))))))))
      (pss_one (ps_ret (pe_tup (pa_cons pe_int (pa_cons (pe_callTy c_tuple (by rfl) T.b_tuple (by decide +kernel) (pa_cons (pe_callB (cr_sortT (d := 2) (B := 64) (by decide)) (by rfl) T.b_sorted (by decide +kernel) (pa_cons (pv 5) pa_nil)) pa_nil)) pa_nil)))))))) pss_nil)
      (pss_one (ps_ret (pe_tup (pa_cons (pv 2) (pa_cons (pe_callN (ok_law_told T) (hr.mono (by decide)) (by rfl) (pa_cons (pv 2) (pa_cons (pv 3) pa_nil))) pa_nil)))))))), ?_⟩
  refine T_seq (T_asgM (WM_addN (c := 1) (WM_callB (z := z) rfl (.inr ⟨p, rfl⟩) (Wd.to (V_var rfl) ⟨_, ⟨6, by omega, by omega, rfl, rfl⟩, ?_⟩))))
  rintro _ z1 ⟨dg, hdg, rfl⟩
  refine ⟨dg, rfl, ?_⟩
  have hm6 : 1 + dg ≤ 6 := by omega
  refine T_seq (T_asgM (WM_lcR (j := 7) (WM_addN (c := 1) (WM_callB (z := z1) rfl (.inr ⟨p, rfl⟩) (Wd.to (V_nat 3) ⟨_, ⟨3, by omega, by omega, rfl, rfl⟩, ?_⟩)))))
  rintro _ z2 ⟨dg2, hdg2, rfl⟩
  refine ⟨dg2, rfl, 1 + dg2, rfl, by omega, fun i acc ss' => ∃ (rows : List (List Nat)) (z' : Int), acc = rows.map eTN ∧ rows.length = i ∧ rowsIn (1 + dg) rows ∧ ss' = [.par p (.lst [.int z']), .dat (eN 6), .dat (eN (1 + dg)), .no, .no, .no, .no, .no, .no], ⟨[], z2, rfl, rfl, fun x hx => (by cases hx), rfl⟩, ?_, ?_⟩
  · rintro i acc ss' hi ⟨rows, z', rfl, hrl, hrows, rfl⟩
    refine ⟨rfl, by rw [List.length_map]; omega, WM_callB (z := z') rfl (.inr ⟨p, rfl⟩) (Wd.to (V_listRg (n := 1 + dg) (V_var rfl) (by omega)) ⟨_, ⟨List.range (1 + dg), by rw [List.length_range]; omega, rfl, rfl⟩, ?_⟩)⟩
    rintro _ z'' ⟨row, hrow, rfl⟩
    refine ⟨rows ++ [row], z'', by rw [List.map_append]; rfl, by rw [List.length_append, hrl]; rfl, fun x hx => ?_, rfl⟩
    rcases List.mem_append.mp hx with y | y
    · exact hrows x y
    · rw [List.mem_singleton] at y; rw [y]; exact hrow
  · rintro acc ss' ⟨rows, z', rfl, hrl, hrows, rfl⟩
    refine ⟨by rw [List.length_map]; omega, ?_⟩
    have hne : rows ≠ [] := fun e => by rw [e] at hrl; simp at hrl; omega
    have hr3 : rows.length ≤ 3 := by omega
    have fin : ∀ zz : Int, Tt (tRet (tTup (tCons (tVar 2) (tCons (tCall (SpD Pre_law_told) [] E0 (tCons (tVar 2) (tCons (tVar 3) tNil))) tNil)))) [.par p (.lst [.int zz]), .dat (eN 6), .dat (eN (1 + dg)), .dat (eLR rows), .no, .no, .no, .no, .no] { nx := fun _ => False, rt := fun s ss => ∃ d' z', s = .dat d' ∧ (∃ (n : Nat) (r : Rl), d' = eO n r ∧ G6 n r ∧ Dim3 n r) ∧ ss[0]? = some (.par p (.lst [.int z'])) } := fun zz =>
      T_ret (Wd.to (V_order (R := tolR rows) (V_var rfl) (V_law_told (V_var rfl) (V_var rfl) hm6 (by omega) hrows)) ⟨_, zz, rfl, ⟨1 + dg, tolR rows, rfl, ⟨by omega, hm6, tol_po hne⟩, dim3_of (tol_tells hrows) hne hr3⟩, rfl⟩)
    refine T_seq (T_ifM (WTM_and (WT.m (WTd.to (VT_t (V_eqN (V_var rfl) (V_nat 6))) ?_))))
    by_cases e6 : 1 + dg = 6
    · rw [decide_eq_true e6]
      refine iteT (WTM_t (WM_eq (WM_callB (z := z') rfl (.inr ⟨p, rfl⟩) (Wd.to (V_nat 3) ⟨_, ⟨3, by omega, by omega, rfl, rfl⟩, ?_⟩))))
      rintro _ z3 ⟨dg3, hdg3, rfl⟩
      refine W.m (Wd.to (V_nat 2) ⟨(DL_eN _).sh, (DL_eN _).sh, _, rfl, ?_⟩)
      rw [show PyData.eqv (eN dg3) (eN 2) = decide (dg3 = 2) from eqv_eN _ _]
      cases decide (dg3 = 2) with
      | false => exact iteF (T_next (fin z3))
      | true =>
        refine iteT (T_seq (T_asgM (WM_callB (z := z3) rfl (.inr ⟨p, rfl⟩) (Wd.to (V_listRg (n := 6) (V_nat 6) (by omega)) ⟨_, ⟨List.range 6, by rw [List.length_range]; omega, rfl, rfl⟩, ?_⟩))))
        rintro _ z4 ⟨row, hrow, rfl⟩
        refine T_seq (T_asg (Wd.to (V_lst0 (f := eP)) ?_))
        refine T_seq (T_for [6] (WId.to (VI_rng (n := 3) (V_nat 3) (by omega)) ⟨fun i ss => ∃ y6 y7 y8, ss = [.par p (.lst [.int z4]), .dat (eN 6), .dat (eN (1 + dg)), .dat (eLR rows), .dat (eTN row), .dat (eLP (cpr (fun a => row.getD a 0) i)), y6, y7, y8], ⟨_, _, _, rfl⟩, ?_, ?_⟩))
        · rintro i d ss' hd ⟨y6, y7, y8, rfl⟩
          obtain ⟨hi, rfl⟩ := rng_turn hd
          have hcl := cpr_len (fun a => row.getD a 0) i
          have hfl := List.length_filter_le (fun j => !decide (j = i)) (List.range 3)
          rw [List.length_range] at hfl
          refine WG_name (T_asg (Wd.to (V_cat (f := eP) (l := cpr (fun a => row.getD a 0) i) (m := ((List.range 3).filter fun j => !decide (j = i)).map fun j => (row.getD i 0, row.getD (3 + j) 0)) (V_var rfl) (Wd.cast (V_lcF1 (enc := eN) (pp := fun j => !decide (j = i)) (gg := fun j => eP (row.getD i 0, row.getD (3 + j) 0)) (VI_rng (n := 3) (V_nat 3) (by omega)) (by rw [List.length_range]; omega) (fun v hv => VT_t (V_neN (V_var rfl) (V_var rfl))) (fun v hv hp => V_pair (V_ixR (l := row) (j := i) (V_var rfl) (V_var rfl) (row_get hrow (by omega)).1) (V_ixR (l := row) (j := 3 + v) (V_var rfl) (V_addN (V_nat 3) (V_var rfl)) (row_get hrow (by have := List.mem_range.mp hv; omega)).1))) ?_) (by rw [List.length_map]; omega)) ?_))
          · rw [List.map_map]; rfl
          · rw [← cpr_succ]
            exact ⟨_, _, _, rfl⟩
        · rintro ss' ⟨y6, y7, y8, rfl⟩
          obtain ⟨c1, c2⟩ := cpr_ok hrow
          have ren := crn_ren hrow
          have hcl := cpr_len (fun a => row.getD a 0) 3
          rw [List.length_map, List.length_range]
          refine T_ret (Wd.to (V_order (n := 6) (R := inL (cpr (fun a => row.getD a 0) 3)) (V_nat 6) (V_tuple (V_sortedP (n := 6) (l := cpr (fun a => row.getD a 0) 3) (V_var rfl) ⟨by omega, by omega, c1, c2⟩))) ⟨_, z4, rfl, ⟨6, _, rfl, ⟨by omega, by omega, ren.po crn_po⟩, dim3_of (ren.tells crn_tells) (by simp [crnRows]) (by simp [crnRows])⟩, rfl⟩)
    · rw [decide_eq_false e6]
      exact iteF (iteF (T_next (fin z')))
end RO
namespace RO
open PySem PySem.Spec PyProof.Rows L2
local macro_rules | `(tactic| walk_at "ln") => `(tactic| (first | assumption | omega | (simp only [List.mem_range, List.length_range, List.length_map, List.length_append, List.length_cons, List.length_nil] at *; omega)))
theorem an_ren {n : Nat} {r : Rl} {row : List Nat} (h : row.Perm (List.range n)) : Ren n (fun a => row.getD a 0) r (inL (anL n r row)) where
  lt a ha := (row_get h ha).2
  inj a b ha hb e := row_inj h ha hb e
  eq a b ha hb := by
    rw [Bool.eq_iff_iff, inL_iff]
    unfold anL
    rw [List.mem_map]
    constructor
    · rintro ⟨p, hp, e⟩
      obtain ⟨h1, h2, h3⟩ := mem_prs.mp hp
      have e1 := row_inj h h1 ha (Prod.mk.inj e).1
      have e2 := row_inj h h2 hb (Prod.mk.inj e).2
      rw [← e1, ← e2]; exact h3
    · intro hc
      exact ⟨(a, b), mem_prs2.mpr ⟨ha, hb, hc⟩, rfl⟩
theorem Ren.dim3 {n : Nat} {f : Nat → Nat} {r r' : Rl} (h : Ren n f r r') (hd : Dim3 n r) : Dim3 n r' := by
  obtain ⟨rows, hl, ht⟩ := hd
  exact ⟨_, by rw [List.length_map]; exact hl, h.tells ht⟩
theorem dim3_turn {n : Nat} {r : Rl} (hd : Dim3 n r) : Dim3 n fun a b => r b a := by
  obtain ⟨rows, hl, ht⟩ := hd
  exact ⟨_, by rw [List.length_map]; exact hl, tells_turn ht⟩
theorem tell_iff {n : Nat} {r : Rl} {rows : List (List Nat)} (hrows : rowsIn n rows) : tellB n r rows = true ↔ rows ≠ [] ∧ Tells n r rows := by
  have key : prs n (tolR rows) = prs n r ↔ ∀ a b, a < n → b < n → tolR rows a b = r a b := by
    constructor
    · intro e a b ha hb
      rw [Bool.eq_iff_iff]
      have : (a, b) ∈ prs n (tolR rows) ↔ (a, b) ∈ prs n r := by rw [e]
      rw [mem_prs2, mem_prs2] at this
      simpa [ha, hb] using this
    · exact fun h => prs_congr h
  unfold tellB
  rw [Bool.and_eq_true, Bool.and_eq_true, decide_eq_true_iff, key]
  constructor
  · rintro ⟨⟨h1, h2⟩, h3⟩
    exact ⟨by simpa using h1, hrows, h3⟩
  · rintro ⟨h1, h2⟩
    refine ⟨⟨by simpa using h1, List.all_eq_true.mpr fun row hrow => List.all_eq_true.mpr fun p hp => ?_⟩, h2.eq⟩
    obtain ⟨p1, p2, p3⟩ := mem_prs.mp hp
    rw [← h2.eq _ _ p1 p2] at p3
    exact decide_eq_true ((tol_iff.mp p3).2 row hrow)
theorem few_pos {n : Nat} {r : Rl} {k : Nat} (h : IsFew n r k) : 1 ≤ k ∧ k ≤ 3 := by
  rcases h with ⟨rfl, _⟩ | ⟨rfl, _, _⟩ | ⟨rfl, _, _⟩ <;> omega
theorem ok_law {P : Program} {w : World} {K : PySem.W.Frag} {mg : Str → Option Value} {base : Heap} (T : Txt K mg) {f : Addr} {fd : FuncData} (F : Fun K "law" "law" s_law f fd) : FnOk P w K mg base CX0 52 f fd ["script"] (SpLaw K) := by
  refine fnS F sc_law (fun vs H Q E h => by obtain ⟨_, _, rfl, _⟩ := h; rfl) fun cdv A outer s H E vs Q hr h => ?_
  obtain ⟨a, zs, rfl, hS, q⟩ := h
  refine ⟨_, fun _ => none, [.no, .no, .no, .no, .no, .no, .no, .no, .no, .no], { nx := fun _ => False, rt := fun v _ => v = .dat (.bool true) }, a, zs.map V.int, (pss_cons (ps_for PassesOwn.never rfl (pi_range1 rfl T.b_range (pa_cons pe_int pa_nil)) (pg_name (i := 1) sc_law.nd rfl (.inl rfl)) (pss_cons (ps_set (i := 2) sc_law.nd rfl (.inr rfl) (pe_callN (ok_law_box T) (hr.mono (by decide)) (by rfl) (pa_cons (pv 0) (pa_cons (pv 1) pa_nil))))
      (pss_cons (ps_set (i := 3) sc_law.nd rfl (.inl rfl) (pe_callN (ok_law_order T) (hr.mono (by decide)) (by rfl) (pa_cons (pv 2) (pa_cons pe_int pa_nil))))
      (pss_cons (ps_set (i := 4) sc_law.nd rfl (.inl rfl) (pe_callN (ok_fewest T) (hr.mono (by decide)) (by rfl) (pa_cons (pv 3) pa_nil)))
      (pss_cons (ps_if (PW.pt (pw_or (pt_cmpR op_lt (pe_callB c_len (by rfl) T.b_len (by decide +kernel) (pa_cons (pe_callN (ok_chain_rows T) (hr.mono (by decide)) (by rfl) (pa_cons (pv 3) pa_nil)) pa_nil)) (pv 4) (nomark _)) (pw_or1 (pt_not (pt_chain op_le op_le (pe_callB (call_max2 rfl) (by rfl) T.b_max (by decide +kernel) (pa_cons pe_int (pa_cons (pe_callB c_len (by rfl) T.b_len (by decide +kernel) (pa_cons (pe_callN (ok_most_cross T) (hr.mono (by decide)) (by rfl) (pa_cons (pv 3) pa_nil)) pa_nil)) pa_nil))) (pv 4) (pe_callB c_len (by rfl) T.b_len (by decide +kernel) (pa_cons (pe_callN (ok_most_apart T) (hr.mono (by decide)) (by rfl) (pa_cons (pv 3) pa_nil)) pa_nil))))))) (pss_one (ps_ret pe_bl)) pss_nil)
      (pss_cons (ps_if (PW.pt (pw_or (pt_cmpR (k_ne K hr) (pe_cmpR op_le (pv 4) pe_int (nomark _)) (pe_cmp (pc_notN (pe_callN (ok_two_rows T) (hr.mono (by decide)) (by rfl) (pa_cons (pv 3) pa_nil))) rfl) (nomark _)) (pw_or1 (pt_cmpR (k_ne K hr) (pe_cmpR (k_eq K hr) (pv 4) pe_int (nomark _)) (pe_callN (ok_one_row T) (hr.mono (by decide)) (by rfl) (pa_cons (pv 3) pa_nil)) (nomark _))))) (pss_one (ps_ret pe_bl)) pss_nil)
      (pss_cons (ps_set (i := 5) sc_law.nd rfl (.inl rfl) (pe_callN (ok_law_shuffled T) (hr.mono (by decide)) (by rfl) (pa_cons (pv 2) (pa_cons (pe_listRg rfl rfl T.b_list (prg_1 rfl T.b_range (pe_ix (kx_tup K) (pv 3) pe_int (fun _ _ => rfl)))) pa_nil))))
      (pss_cons (ps_if (PW.pt (pw_or (pt_cmpR (k_ne K hr) (pe_callN (ok_fewest T) (hr.mono (by decide)) (by rfl) (pa_cons (pe_callN (ok_law_anew T) (hr.mono (by decide)) (by rfl) (pa_cons (pv 3) (pa_cons (pv 5) pa_nil))) pa_nil)) (pv 4) (nomark _)) (pw_or1 (pt_cmpR (k_ne K hr) (pe_callN (ok_fewest T) (hr.mono (by decide)) (by rfl) (pa_cons (pe_callN (ok_turned T) (hr.mono (by decide)) (by rfl) (pa_cons (pv 3) pa_nil)) pa_nil)) (pv 4) (nomark _))))) (pss_one (ps_ret pe_bl)) pss_nil)
      (pss_cons (ps_set (i := 6) sc_law.nd rfl (.inl rfl) (pe_callN (ok_fewest_rows T) (hr.mono (by decide)) (by rfl) (pa_cons (pv 3) pa_nil)))
      (pss_cons (ps_if (PW.pt (pw_or (pt_not (pt_val (pe_callN (ok_tell T) (hr.mono (by decide)) (by rfl) (pa_cons (pe_op op_cat (pv 6) (pe_slice sl_list (pv 6) po_none (po_some pe_int))) (pa_cons (pv 3) pa_nil))))) (pw_or1 (PW.pt (pw_and (pt_cmpR op_gt (pv 4) pe_int (nomark _)) (pw_and1 (pt_val (pe_callN (ok_tell T) (hr.mono (by decide)) (by rfl) (pa_cons (pe_slice sl_list (pv 6) (po_some pe_int) po_none) (pa_cons (pv 3) pa_nil)))))))))) (pss_one (ps_ret pe_bl)) pss_nil)
      (pss_cons (ps_set (i := 7) sc_law.nd rfl (.inr rfl) (pe_op op_add pe_int (pe_callN (ok_law_take T) (hr.mono (by decide)) (by rfl) (pa_cons (pv 2) (pa_cons pe_int pa_nil)))))
      (pss_cons (ps_setLc (i := 8) (own := [("turn", 9)]) (g := gName 9) (tt := tYes) rfl sc_law.nd rfl rfl (sw_true rfl rfl rfl (by decide +kernel))  (pi_range1 rfl T.b_range (pa_cons (pe_op op_add pe_int (pe_callN (ok_law_take T) (hr.mono (by decide)) (by rfl) (pa_cons (pv 2) (pa_cons pe_int pa_nil)))) pa_nil)) (blkOk_by (own := [("turn", 9)]) (N := n_law) (sc := defScope s_law) (by decide +kernel)) (fun _ _ _ _ _ => (pg_name (i := 9) sc_law.nd rfl (.inl rfl))) (fun _ _ _ _ _ => pts_nil) (fun _ _ _ _ _ => (pe_callN (ok_law_shuffled T) (hr.mono (by decide)) (by rfl) (pa_cons (pv 2) (pa_cons (pe_listRg rfl rfl T.b_list (prg_1 rfl T.b_range (pv 7))) pa_nil)))))
      (pss_one (ps_if (pt_cmpR op_gt (pe_callN (ok_fewest T) (hr.mono (by decide)) (by rfl) (pa_cons (pe_tup (pa_cons (pv 7) (pa_cons (pe_callN (ok_law_told T) (hr.mono (by decide)) (by rfl) (pa_cons (pv 7) (pa_cons (pv 8) pa_nil))) pa_nil))) pa_nil)) (pe_callB c_len (by rfl) T.b_len (by decide +kernel) (pa_cons (pv 8) pa_nil)) (nomark _)) (pss_one (ps_ret pe_bl)) pss_nil))))))))))))))
      (pss_one (ps_ret pe_bl))), fun _ _ z => (by cases z), ?_, rfl, hS, ?_, fun _ _ _ z => z.elim, fun F2 H2 ss v s hs g hv => (by
    subst hs
    cases inv_bl hv
    exact q H2), fun _ z => z, fun _ z => z⟩
  · have all : ∀ (i : Nat) (s : Sl), [Sl.no, .no, .no, .no, .no, .no, .no, .no, .no, .no][i]? = some s → s = .no := fun i s hi => (List.mem_replicate.mp (show s ∈ List.replicate 10 Sl.no from List.mem_of_getElem? hi)).2
    exact ⟨rfl, fun i s hi => by rw [all i s hi]; trivial, fun i j' s s' p hij e1 e2 o1 o2 h1 h2 => by rw [all i s e1] at o1; cases o1⟩
  refine TtS_law (by decide) (by decide) (funext fun _ => eq_true rfl) fun z => ?_
  refine T_seq (T_asgM (WM_callB (z := z) rfl (.inl rfl) (Wd.to (V_nat 6) ⟨_, ⟨rfl, rfl⟩, ?_⟩)))
  rintro _ z1 ⟨n, r, rfl, hG, hD⟩
  have hn := hG.2.1
  have hr' := hG.2.2
  refine T_seq (T_asg (W_fewest (V_var rfl) (hk := fun d hd => ?_) hG hD))
  obtain ⟨k, rfl, hf⟩ := hd
  obtain ⟨k1, k3⟩ := few_pos hf
  -- chains, crossing turns, things apart
  refine T_seq (T_if (WT_or (WT_t (W_ib (W_len (W_chain_rows (V_var rfl) (hk := fun d hd => ?_) hG))))))
  obtain ⟨crows, rfl, hcl, ls, hchs, hll⟩ := hd
  refine ⟨_, .inl rfl, Wd.to (V_var rfl) ⟨_, _, rfl, rfl, _, rfl, ?_⟩⟩
  rw [decide_eq_false (by
    have := few_chains hG.1 hf hchs
    rw [List.length_map]; omega)]
  refine iteF (WT_not (WT_t (W_chain (W_max2 (Wd.to (V_nat 1) (W_len (W_most_cross (V_var rfl) (hk := fun d hd => ?_) hG)))))))
  obtain ⟨cl, rfl, hcl1, hcr⟩ := hd
  obtain ⟨rows0, _, ht0⟩ := hD
  have hcross : cl.length ≤ k := by
    rcases hf with ⟨rfl, e⟩ | ⟨rfl, e, hk⟩ | ⟨rfl, e, hk⟩
    · exact crs_le (first_tells hr' e) hcr
    · obtain ⟨ra, rb, ht⟩ := two_of hr' hk
      exact crs_le ht hcr
    · have := crs_le ht0 hcr; omega
  have hap := few_apart hG.1 hr' hf
  refine ⟨_, .inl rfl, _, _, rfl, rfl, Wd.to (V_var rfl) ⟨_, _, rfl, rfl, ?_⟩⟩
  rw [List.length_map]
  rw [decide_eq_true (by split <;> omega)]
  refine iteT (Wd.to (V_lenL (f := eN) (V_most_apart (V_var rfl) hG)) ⟨_, rfl, _, rfl, ?_⟩)
  rw [decide_eq_true (by omega)]
  refine iteF (T_next ?_)
  -- two rows, one row
  refine T_seq (T_if (WT_or (WT_t (W_ne (W_ib (Wd.to (V_var rfl) (Wd.to (V_nat 2) ⟨_, _, rfl, rfl, W_notN (W_two_rows (V_var rfl) (hk := fun d hd => ?_) hG)⟩)))))))
  obtain ⟨o, rfl, ho⟩ := hd
  have h2 : decide ((k : Int) ≤ ((2 : Nat) : Int)) = !isND (eOR o) := by
    rw [isND_eOR]
    rcases ho with ⟨rfl, hk⟩ | ⟨ra, rb, rfl, hk, _⟩
    · have : k = 3 := by
        rcases hf with ⟨_, e⟩ | ⟨_, _, q⟩ | ⟨e, _, _⟩
        · obtain ⟨t, ht, _⟩ := hk
          rw [e] at ht; cases ht
        · exact absurd hk q
        · exact e
      rw [this]; rfl
    · have : k ≤ 2 := by
        rcases hf with ⟨e, _⟩ | ⟨e, _, _⟩ | ⟨_, _, q⟩
        · omega
        · omega
        · exact absurd q hk
      rw [decide_eq_true (by omega)]; rfl
  refine ⟨(DL_bool _).sh, (DL_bool _).sh, _, rfl, ?_⟩
  rw [eqv_bool, h2, show ((!isND (eOR o)) == !isND (eOR o)) = true from by simp]
  refine iteF (WT_t (W_ne (Wd.to (V_eqN (V_var rfl) (V_nat 1)) (Wd.to (V_one_row (V_var rfl) hG) ⟨(DL_bool _).sh, (DL_bool _).sh, _, rfl, ?_⟩))))
  have h1 : decide (k = 1) = decide (trn n r = []) := decide_eq_decide.mpr ⟨fun e => by
    rcases hf with ⟨_, q⟩ | ⟨q, _, _⟩ | ⟨q, _, _⟩
    · exact q
    · omega
    · omega, fun e => by
    rcases hf with ⟨q, _⟩ | ⟨_, q, _⟩ | ⟨_, q, _⟩
    · exact q
    · exact absurd e q
    · exact absurd e q⟩
  rw [eqv_bool, h1, show ((decide (trn n r = [])) == decide (trn n r = [])) = true from by simp]
  refine iteF (T_next ?_)
  -- named anew, turned about
  refine T_seq (T_asgM (WM_callB (z := z1) rfl (.inl rfl) (Wd.to (V_listRg (n := n) (V_o0 (V_var rfl)) (by omega)) ⟨_, ⟨List.range n, by rw [List.length_range]; omega, rfl, rfl⟩, ?_⟩)))
  rintro _ z2 ⟨names, hnames, rfl⟩
  have ren := an_ren (r := r) hnames
  have hD0 : Dim3 n r := ⟨rows0, by assumption, ht0⟩
  refine T_seq (T_if (WT_or (WT_t (W_ne (W_fewest (V_law_anew (V_var rfl) (V_var rfl) hn hr' hnames) (hk := fun d hd => ?_) ⟨hG.1, hn, ren.po hr'⟩ (ren.dim3 hD0))))))
  obtain ⟨ka, rfl, hka⟩ := hd
  have eka : ka = k := few_uniq hka (ren.few hr' hf)
  refine Wd.to (V_var rfl) ⟨(DL_eN _).sh, (DL_eN _).sh, _, rfl, ?_⟩
  rw [show PyData.eqv (eN ka) (eN k) = decide (ka = k) from eqv_eN _ _, decide_eq_true eka]
  refine iteF (WT_t (W_ne (W_fewest (V_turned (V_var rfl) hG) (hk := fun d hd => ?_) ⟨hG.1, hn, po_turn hr'⟩ (dim3_turn hD0))))
  obtain ⟨kt, rfl, hkt⟩ := hd
  have ekt : kt = k := few_uniq hkt (few_turn hr' hf)
  refine Wd.to (V_var rfl) ⟨(DL_eN _).sh, (DL_eN _).sh, _, rfl, ?_⟩
  rw [show PyData.eqv (eN kt) (eN k) = decide (kt = k) from eqv_eN _ _, decide_eq_true ekt]
  refine iteF (T_next ?_)
  -- one row more, one less
  refine T_seq (T_asg (W_fewest_rows (V_var rfl) (hk := fun d hd => ?_) hG hD0))
  obtain ⟨rows, rfl, hrl, hrf, hrt⟩ := hd
  have ek : rows.length = k := few_uniq hrf hf
  have hrin := hrt.rw'
  have more : tellB n r (rows ++ rows.take 1) = true := (tell_iff (fun x hx => by
    rcases List.mem_append.mp hx with y | y
    · exact hrin x y
    · exact hrin x (List.mem_of_mem_take y))).mpr ⟨fun e => by
      have := congrArg List.length e
      rw [List.length_append, List.length_nil] at this
      omega, hrt.congr fun x => ⟨fun h => List.mem_append_left _ h, fun h => by
      rcases List.mem_append.mp h with y | y
      · exact y
      · exact List.mem_of_mem_take y⟩⟩
  have hless : rowsIn n (rows.drop 1) := fun x hx => hrin x (List.mem_of_mem_drop hx)
  have less : tellB n r (rows.drop 1) = false := by
    rw [← Bool.not_eq_true]
    intro e
    obtain ⟨q1, q2⟩ := (tell_iff hless).mp e
    have := few_le hf q2 q1
    rw [List.length_drop] at this
    omega
  refine T_seq (T_if (WT_or (WT_not (WT_B (Wd.to (V_tell (n := n) (r := r) (rows := rows ++ rows.take 1) (V_cat (f := eTN) (l := rows) (m := rows.take 1) (V_var rfl) (V_take (f := eTN) (V_var rfl) (V_nat 1) (by omega)) (by rw [List.length_take]; omega)) (V_var rfl) hG (by rw [List.length_append, List.length_take]; omega) (fun x hx => by
    rcases List.mem_append.mp hx with y | y
    · exact hrin x y
    · exact hrin x (List.mem_of_mem_take y))) ⟨_, rfl, ?_⟩)))))
  rw [more]
  refine iteF (WTd.to (VT_and (VT_t (V_gtN (V_var rfl) (V_nat 1))) fun hb => VT_B (V_tell (n := n) (r := r) (rows := rows.drop 1) (V_drop (f := eTN) (V_var rfl) (V_nat 1) (by omega)) (V_var rfl) hG (by rw [List.length_drop]; omega) hless)) ?_)
  rw [less, Bool.and_false]
  refine iteF (T_next ?_)
  -- drawn rows
  refine T_seq (T_asgM (WM_addN (c := 3) (WM_callB (z := z2) rfl (.inl rfl) (Wd.to (V_nat 3) ⟨_, ⟨3, by omega, by omega, rfl, rfl⟩, ?_⟩))))
  rintro _ z3 ⟨dg, hdg, rfl⟩
  refine ⟨dg, rfl, ?_⟩
  refine T_seq (T_asgM (WM_lcR (j := 9) (WM_addN (c := 1) (WM_callB (z := z3) rfl (.inl rfl) (Wd.to (V_nat 3) ⟨_, ⟨3, by omega, by omega, rfl, rfl⟩, ?_⟩)))))
  rintro _ z4 ⟨dg2, hdg2, rfl⟩
  refine ⟨dg2, rfl, 1 + dg2, rfl, by omega, fun i acc ss' => ∃ (dr : List (List Nat)) (z' : Int), acc = dr.map eTN ∧ dr.length = i ∧ rowsIn (3 + dg) dr ∧ ss' = [.no, .dat (eN 0), .own (.lst [.int z']), .dat (eO n r), .dat (eN k), .dat (eTN names), .dat (eLR rows), .dat (eN (3 + dg)), .no, .no], ⟨[], z4, rfl, rfl, fun x hx => (by cases hx), rfl⟩, ?_, ?_⟩
  · rintro i acc ss' hi ⟨dr, z', rfl, hdl, hdr, rfl⟩
    refine ⟨rfl, by rw [List.length_map]; omega, WM_callB (z := z') rfl (.inl rfl) (Wd.to (V_listRg (n := 3 + dg) (V_var rfl) (by omega)) ⟨_, ⟨List.range (3 + dg), by rw [List.length_range]; omega, rfl, rfl⟩, ?_⟩)⟩
    rintro _ z'' ⟨row, hrow, rfl⟩
    refine ⟨dr ++ [row], z'', by rw [List.map_append]; rfl, by rw [List.length_append, hdl]; rfl, fun x hx => ?_, rfl⟩
    rcases List.mem_append.mp hx with y | y
    · exact hdr x y
    · rw [List.mem_singleton] at y; rw [y]; exact hrow
  · rintro acc ss' ⟨dr, z', rfl, hdl, hdr, rfl⟩
    refine ⟨by rw [List.length_map]; omega, ?_⟩
    have hne : dr ≠ [] := fun e => by rw [e] at hdl; simp at hdl; omega
    have hd3 : dr.length ≤ 3 := by omega
    have tt := tol_tells hdr
    refine T_if (WT_t (W_ib (W_fewest (V_order (n := 3 + dg) (R := tolR dr) (V_var rfl) (V_law_told (V_var rfl) (V_var rfl) (by omega) (by omega) hdr)) (hk := fun d hd => ?_) ⟨by omega, by omega, tol_po hne⟩ (dim3_of tt hne hd3))))
    obtain ⟨kd, rfl, hkd⟩ := hd
    have hle := few_le hkd tt hne
    refine Wd.to (V_lenL (f := eTN) (l := dr) (V_var rfl)) ⟨_, _, rfl, rfl, _, rfl, ?_⟩
    rw [decide_eq_false (by omega)]
    exact iteF (T_next trivial)
end RO
namespace RO
open PySem PySem.Spec PyProof.Rows L2
theorem dfn_mk {K : PySem.W.Frag} {h : Heap} {mg : Str → Option Value} {x : Str} {st : Stmt} {ps : List Str} {f : Addr} {oc : Value} {od an : Option Addr} {osl : Array (Option Value)} {kV doc pm cdv ct : Value} (X : K.In h) (G : h.Ns mainGlobals mg)
    (b : ∀ {f fd}, Fun K x x st f fd → Binds K fd ps []) (a : PySem.W.nsIn K mainGlobals x = some (some (.ref f)))
    (l : K.lookup f = some ⟨oc, od, .func (PySem.W.fnOf x x (defArgs st) (defBody st) (defScope st) .none kV doc pm an cdv ct), osl⟩) (c : PySem.W.codeIn K cdv x = true) (k : PySem.W.keepIn K (.ref f) = true) : Dfn K mg x st ps :=
  ⟨f, _, fun_mk l c k, b (fun_mk l c k), PySem.W.mg_of X G a⟩
theorem bn_is_whole {K : PySem.W.Frag} {f : Addr} {fd : FuncData} (F : Fun K "is_whole" "is_whole" s_is_whole f fd) : Binds K fd ["thing"] [] := F.binds (ps := ["thing"]) fun _ _ _ _ _ _ us hl => match us, hl with | [_], _ => rfl
theorem bn_is_many {K : PySem.W.Frag} {f : Addr} {fd : FuncData} (F : Fun K "is_many" "is_many" s_is_many f fd) : Binds K fd ["thing"] [] := F.binds (ps := ["thing"]) fun _ _ _ _ _ _ us hl => match us, hl with | [_], _ => rfl
theorem bn_is_pair {K : PySem.W.Frag} {f : Addr} {fd : FuncData} (F : Fun K "is_pair" "is_pair" s_is_pair f fd) : Binds K fd ["many", "thing"] [] := F.binds (ps := ["many", "thing"]) fun _ _ _ _ _ _ us hl => match us, hl with | [_, _], _ => rfl
theorem bn_follows {K : PySem.W.Frag} {f : Addr} {fd : FuncData} (F : Fun K "follows" "follows" s_follows f fd) : Binds K fd ["pairs"] [] := F.binds (ps := ["pairs"]) fun _ _ _ _ _ _ us hl => match us, hl with | [_], _ => rfl
theorem bn_is_order {K : PySem.W.Frag} {f : Addr} {fd : FuncData} (F : Fun K "is_order" "is_order" s_is_order f fd) : Binds K fd ["thing"] [] := F.binds (ps := ["thing"]) fun _ _ _ _ _ _ us hl => match us, hl with | [_], _ => rfl
theorem bn_need_order {K : PySem.W.Frag} {f : Addr} {fd : FuncData} (F : Fun K "need_order" "need_order" s_need_order f fd) : Binds K fd ["order"] [] := F.binds (ps := ["order"]) fun _ _ _ _ _ _ us hl => match us, hl with | [_], _ => rfl
theorem bn_closed {K : PySem.W.Frag} {f : Addr} {fd : FuncData} (F : Fun K "closed" "closed" s_closed f fd) : Binds K fd ["many", "pairs"] [] := F.binds (ps := ["many", "pairs"]) fun _ _ _ _ _ _ us hl => match us, hl with | [_, _], _ => rfl
theorem bn_are_apart {K : PySem.W.Frag} {f : Addr} {fd : FuncData} (F : Fun K "are_apart" "are_apart" s_are_apart f fd) : Binds K fd ["order", "a", "b"] [] := F.binds (ps := ["order", "a", "b"]) fun _ _ _ _ _ _ us hl => match us, hl with | [_, _, _], _ => rfl
theorem bn_turned {K : PySem.W.Frag} {f : Addr} {fd : FuncData} (F : Fun K "turned" "turned" s_turned f fd) : Binds K fd ["order"] [] := F.binds (ps := ["order"]) fun _ _ _ _ _ _ us hl => match us, hl with | [_], _ => rfl
theorem bn_is_tuple_of_all {K : PySem.W.Frag} {f : Addr} {fd : FuncData} (F : Fun K "is_tuple_of_all" "is_tuple_of_all" s_is_tuple_of_all f fd) : Binds K fd ["many", "thing"] [] := F.binds (ps := ["many", "thing"]) fun _ _ _ _ _ _ us hl => match us, hl with | [_, _], _ => rfl
theorem bn_stands_ahead {K : PySem.W.Frag} {f : Addr} {fd : FuncData} (F : Fun K "stands_ahead" "stands_ahead" s_stands_ahead f fd) : Binds K fd ["row", "a", "b"] [] := F.binds (ps := ["row", "a", "b"]) fun _ _ _ _ _ _ us hl => match us, hl with | [_, _, _], _ => rfl
theorem bn_is_row_of {K : PySem.W.Frag} {f : Addr} {fd : FuncData} (F : Fun K "is_row_of" "is_row_of" s_is_row_of f fd) : Binds K fd ["thing", "order"] [] := F.binds (ps := ["thing", "order"]) fun _ _ _ _ _ _ us hl => match us, hl with | [_, _], _ => rfl
theorem bn_next_things {K : PySem.W.Frag} {f : Addr} {fd : FuncData} (F : Fun K "next_things" "next_things" s_next_things f fd) : Binds K fd ["order", "gone"] [] := F.binds (ps := ["order", "gone"]) fun _ _ _ _ _ _ us hl => match us, hl with | [_, _], _ => rfl
theorem bn_told_pairs {K : PySem.W.Frag} {f : Addr} {fd : FuncData} (F : Fun K "told_pairs" "told_pairs" s_told_pairs f fd) : Binds K fd ["many", "rows"] [] := F.binds (ps := ["many", "rows"]) fun _ _ _ _ _ _ us hl => match us, hl with | [_, _], _ => rfl
theorem bn_are_rows {K : PySem.W.Frag} {f : Addr} {fd : FuncData} (F : Fun K "are_rows" "are_rows" s_are_rows f fd) : Binds K fd ["thing", "order"] [] := F.binds (ps := ["thing", "order"]) fun _ _ _ _ _ _ us hl => match us, hl with | [_, _], _ => rfl
theorem bn_tell {K : PySem.W.Frag} {f : Addr} {fd : FuncData} (F : Fun K "tell" "tell" s_tell f fd) : Binds K fd ["thing", "order"] [] := F.binds (ps := ["thing", "order"]) fun _ _ _ _ _ _ us hl => match us, hl with | [_, _], _ => rfl
theorem bn_apart_lists {K : PySem.W.Frag} {f : Addr} {fd : FuncData} (F : Fun K "apart_lists" "apart_lists" s_apart_lists f fd) : Binds K fd ["order"] [] := F.binds (ps := ["order"]) fun _ _ _ _ _ _ us hl => match us, hl with | [_], _ => rfl
theorem bn_most_apart {K : PySem.W.Frag} {f : Addr} {fd : FuncData} (F : Fun K "most_apart" "most_apart" s_most_apart f fd) : Binds K fd ["order"] [] := F.binds (ps := ["order"]) fun _ _ _ _ _ _ us hl => match us, hl with | [_], _ => rfl
theorem bn_augmented {K : PySem.W.Frag} {f : Addr} {fd : FuncData} (F : Fun K "augmented" "augmented" s_augmented f fd) : Binds K fd ["order", "thing", "seen", "matched"] [] := F.binds (ps := ["order", "thing", "seen", "matched"]) fun _ _ _ _ _ _ us hl => match us, hl with | [_, _, _, _], _ => rfl
theorem bn_chains_of {K : PySem.W.Frag} {f : Addr} {fd : FuncData} (F : Fun K "chains_of" "chains_of" s_chains_of f fd) : Binds K fd ["order"] [] := F.binds (ps := ["order"]) fun _ _ _ _ _ _ us hl => match us, hl with | [_], _ => rfl
theorem bn_first_row_of {K : PySem.W.Frag} {f : Addr} {fd : FuncData} (F : Fun K "first_row_of" "first_row_of" s_first_row_of f fd) : Binds K fd ["order"] [] := F.binds (ps := ["order"]) fun _ _ _ _ _ _ us hl => match us, hl with | [_], _ => rfl
theorem bn_row_behind {K : PySem.W.Frag} {f : Addr} {fd : FuncData} (F : Fun K "row_behind" "row_behind" s_row_behind f fd) : Binds K fd ["order", "chain"] [] := F.binds (ps := ["order", "chain"]) fun _ _ _ _ _ _ us hl => match us, hl with | [_, _], _ => rfl
theorem bn_chain_rows {K : PySem.W.Frag} {f : Addr} {fd : FuncData} (F : Fun K "chain_rows" "chain_rows" s_chain_rows f fd) : Binds K fd ["order"] [] := F.binds (ps := ["order"]) fun _ _ _ _ _ _ us hl => match us, hl with | [_], _ => rfl
theorem bn_all_turns {K : PySem.W.Frag} {f : Addr} {fd : FuncData} (F : Fun K "all_turns" "all_turns" s_all_turns f fd) : Binds K fd ["order"] [] := F.binds (ps := ["order"]) fun _ _ _ _ _ _ us hl => match us, hl with | [_], _ => rfl
theorem bn_is_sharp {K : PySem.W.Frag} {f : Addr} {fd : FuncData} (F : Fun K "is_sharp" "is_sharp" s_is_sharp f fd) : Binds K fd ["order", "a", "b"] [] := F.binds (ps := ["order", "a", "b"]) fun _ _ _ _ _ _ us hl => match us, hl with | [_, _, _], _ => rfl
theorem bn_leads_on {K : PySem.W.Frag} {f : Addr} {fd : FuncData} (F : Fun K "leads_on" "leads_on" s_leads_on f fd) : Binds K fd ["order", "one", "other"] [] := F.binds (ps := ["order", "one", "other"]) fun _ _ _ _ _ _ us hl => match us, hl with | [_, _, _], _ => rfl
theorem bn_rows_by {K : PySem.W.Frag} {f : Addr} {fd : FuncData} (F : Fun K "rows_by" "rows_by" s_rows_by f fd) : Binds K fd ["points"] [] := F.binds (ps := ["points"]) fun _ _ _ _ _ _ us hl => match us, hl with | [_], _ => rfl
theorem bn_forces {K : PySem.W.Frag} {f : Addr} {fd : FuncData} (F : Fun K "forces" "forces" s_forces f fd) : Binds K fd ["some", "one", "other"] [] := F.binds (ps := ["some", "one", "other"]) fun _ _ _ _ _ _ us hl => match us, hl with | [_, _, _], _ => rfl
theorem bn_forced_of {K : PySem.W.Frag} {f : Addr} {fd : FuncData} (F : Fun K "forced_of" "forced_of" s_forced_of f fd) : Binds K fd ["some", "turn"] [] := F.binds (ps := ["some", "turn"]) fun _ _ _ _ _ _ us hl => match us, hl with | [_, _], _ => rfl
theorem bn_came_from {K : PySem.W.Frag} {f : Addr} {fd : FuncData} (F : Fun K "came_from" "came_from" s_came_from f fd) : Binds K fd ["some", "start"] [] := F.binds (ps := ["some", "start"]) fun _ _ _ _ _ _ us hl => match us, hl with | [_, _], _ => rfl
theorem bn_knot_of {K : PySem.W.Frag} {f : Addr} {fd : FuncData} (F : Fun K "knot_of" "knot_of" s_knot_of f fd) : Binds K fd ["order"] [] := F.binds (ps := ["order"]) fun _ _ _ _ _ _ us hl => match us, hl with | [_], _ => rfl
theorem bn_chosen {K : PySem.W.Frag} {f : Addr} {fd : FuncData} (F : Fun K "chosen" "chosen" s_chosen f fd) : Binds K fd ["order"] [] := F.binds (ps := ["order"]) fun _ _ _ _ _ _ us hl => match us, hl with | [_], _ => rfl
theorem bn_points_by {K : PySem.W.Frag} {f : Addr} {fd : FuncData} (F : Fun K "points_by" "points_by" s_points_by f fd) : Binds K fd ["order", "some"] [] := F.binds (ps := ["order", "some"]) fun _ _ _ _ _ _ us hl => match us, hl with | [_, _], _ => rfl
theorem bn_points_or_knot {K : PySem.W.Frag} {f : Addr} {fd : FuncData} (F : Fun K "points_or_knot" "points_or_knot" s_points_or_knot f fd) : Binds K fd ["order"] [] := F.binds (ps := ["order"]) fun _ _ _ _ _ _ us hl => match us, hl with | [_], _ => rfl
theorem bn_two_rows {K : PySem.W.Frag} {f : Addr} {fd : FuncData} (F : Fun K "two_rows" "two_rows" s_two_rows f fd) : Binds K fd ["order"] [] := F.binds (ps := ["order"]) fun _ _ _ _ _ _ us hl => match us, hl with | [_], _ => rfl
theorem bn_one_row {K : PySem.W.Frag} {f : Addr} {fd : FuncData} (F : Fun K "one_row" "one_row" s_one_row f fd) : Binds K fd ["order"] [] := F.binds (ps := ["order"]) fun _ _ _ _ _ _ us hl => match us, hl with | [_], _ => rfl
theorem bn_sharp_of {K : PySem.W.Frag} {f : Addr} {fd : FuncData} (F : Fun K "sharp_of" "sharp_of" s_sharp_of f fd) : Binds K fd ["order"] [] := F.binds (ps := ["order"]) fun _ _ _ _ _ _ us hl => match us, hl with | [_], _ => rfl
theorem bn_places_for {K : PySem.W.Frag} {f : Addr} {fd : FuncData} (F : Fun K "places_for" "places_for" s_places_for f fd) : Binds K fd ["put", "turn"] [] := F.binds (ps := ["put", "turn"]) fun _ _ _ _ _ _ us hl => match us, hl with | [_, _], _ => rfl
theorem bn_with_turn {K : PySem.W.Frag} {f : Addr} {fd : FuncData} (F : Fun K "with_turn" "with_turn" s_with_turn f fd) : Binds K fd ["many", "put", "place", "turn"] [] := F.binds (ps := ["many", "put", "place", "turn"]) fun _ _ _ _ _ _ us hl => match us, hl with | [_, _, _, _], _ => rfl
theorem bn_hardest {K : PySem.W.Frag} {f : Addr} {fd : FuncData} (F : Fun K "hardest" "hardest" s_hardest f fd) : Binds K fd ["put", "left"] [] := F.binds (ps := ["put", "left"]) fun _ _ _ _ _ _ us hl => match us, hl with | [_, _], _ => rfl
theorem bn_put_all {K : PySem.W.Frag} {f : Addr} {fd : FuncData} (F : Fun K "put_all" "put_all" s_put_all f fd) : Binds K fd ["many", "put", "left"] [] := F.binds (ps := ["many", "put", "left"]) fun _ _ _ _ _ _ us hl => match us, hl with | [_, _, _], _ => rfl
theorem bn_rows_by_search {K : PySem.W.Frag} {f : Addr} {fd : FuncData} (F : Fun K "rows_by_search" "rows_by_search" s_rows_by_search f fd) : Binds K fd ["order", "count"] [] := F.binds (ps := ["order", "count"]) fun _ _ _ _ _ _ us hl => match us, hl with | [_, _], _ => rfl
theorem bn_fewest_rows {K : PySem.W.Frag} {f : Addr} {fd : FuncData} (F : Fun K "fewest_rows" "fewest_rows" s_fewest_rows f fd) : Binds K fd ["order"] [] := F.binds (ps := ["order"]) fun _ _ _ _ _ _ us hl => match us, hl with | [_], _ => rfl
theorem bn_fewest {K : PySem.W.Frag} {f : Addr} {fd : FuncData} (F : Fun K "fewest" "fewest" s_fewest f fd) : Binds K fd ["order"] [] := F.binds (ps := ["order"]) fun _ _ _ _ _ _ us hl => match us, hl with | [_], _ => rfl
theorem bn_are_crossing {K : PySem.W.Frag} {f : Addr} {fd : FuncData} (F : Fun K "are_crossing" "are_crossing" s_are_crossing f fd) : Binds K fd ["order", "one", "other"] [] := F.binds (ps := ["order", "one", "other"]) fun _ _ _ _ _ _ us hl => match us, hl with | [_, _, _], _ => rfl
theorem bn_most_from {K : PySem.W.Frag} {f : Addr} {fd : FuncData} (F : Fun K "most_from" "most_from" s_most_from f fd) : Binds K fd ["order", "found", "left"] [] := F.binds (ps := ["order", "found", "left"]) fun _ _ _ _ _ _ us hl => match us, hl with | [_, _, _], _ => rfl
theorem bn_most_cross {K : PySem.W.Frag} {f : Addr} {fd : FuncData} (F : Fun K "most_cross" "most_cross" s_most_cross f fd) : Binds K fd ["order"] [] := F.binds (ps := ["order"]) fun _ _ _ _ _ _ us hl => match us, hl with | [_], _ => rfl
theorem bn_law_box {K : PySem.W.Frag} {f : Addr} {fd : FuncData} (F : Fun K "_law_box" "_law_box" s_law_box f fd) : Binds K fd ["script", "k"] [] := F.binds (ps := ["script", "k"]) fun _ _ _ _ _ _ us hl => match us, hl with | [_, _], _ => rfl
theorem bn_law_take {K : PySem.W.Frag} {f : Addr} {fd : FuncData} (F : Fun K "_law_take" "_law_take" s_law_take f fd) : Binds K fd ["box", "many"] [] := F.binds (ps := ["box", "many"]) fun _ _ _ _ _ _ us hl => match us, hl with | [_, _], _ => rfl
theorem bn_law_shuffled {K : PySem.W.Frag} {f : Addr} {fd : FuncData} (F : Fun K "_law_shuffled" "_law_shuffled" s_law_shuffled f fd) : Binds K fd ["box", "some"] [] := F.binds (ps := ["box", "some"]) fun _ _ _ _ _ _ us hl => match us, hl with | [_, _], _ => rfl
theorem bn_law_told {K : PySem.W.Frag} {f : Addr} {fd : FuncData} (F : Fun K "_law_told" "_law_told" s_law_told f fd) : Binds K fd ["many", "rows"] [] := F.binds (ps := ["many", "rows"]) fun _ _ _ _ _ _ us hl => match us, hl with | [_, _], _ => rfl
theorem bn_law_order {K : PySem.W.Frag} {f : Addr} {fd : FuncData} (F : Fun K "_law_order" "_law_order" s_law_order f fd) : Binds K fd ["box", "most"] [] := F.binds (ps := ["box", "most"]) fun _ _ _ _ _ _ us hl => match us, hl with | [_, _], _ => rfl
theorem bn_law_anew {K : PySem.W.Frag} {f : Addr} {fd : FuncData} (F : Fun K "_law_anew" "_law_anew" s_law_anew f fd) : Binds K fd ["order", "names"] [] := F.binds (ps := ["order", "names"]) fun _ _ _ _ _ _ us hl => match us, hl with | [_, _], _ => rfl
theorem bn_law {K : PySem.W.Frag} {f : Addr} {fd : FuncData} (F : Fun K "law" "law" s_law f fd) : Binds K fd ["script"] [] := F.binds (ps := ["script"]) fun _ _ _ _ _ _ us hl => match us, hl with | [_], _ => rfl
theorem with_dfn {C : Prop} {K : PySem.W.Frag} {h : Heap} {mg : Str → Option Value} {x : Str} {st : Stmt} {ps : List Str} {f : Addr} {oc : Value} {od an : Option Addr} {osl : Array (Option Value)} {kV doc pm cdv ct : Value} (X : K.In h) (G : h.Ns mainGlobals mg)
    (b : ∀ {f fd}, Fun K x x st f fd → Binds K fd ps []) (a : PySem.W.nsIn K mainGlobals x = some (some (.ref f)))
    (l : K.lookup f = some ⟨oc, od, .func (PySem.W.fnOf x x (defArgs st) (defBody st) (defScope st) .none kV doc pm an cdv ct), osl⟩) (c : PySem.W.codeIn K cdv x = true) (k : PySem.W.keepIn K (.ref f) = true) (cont : Dfn K mg x st ps → C) : C :=
  cont (dfn_mk X G b a l c k)
theorem with_most {C : Prop} {K : PySem.W.Frag} {h : Heap} {mg : Str → Option Value} {t : Tok} (X : K.In h) (G : h.Ns mainGlobals mg) (z : PySem.W.nsIn K mainGlobals "MOST_THINGS" = some (some (.int 8 t))) (cont : (∃ t, mg "MOST_THINGS" = some (.int 8 t)) → C) : C :=
  cont ⟨t, PySem.W.mg_of X G z⟩
theorem law_mk {l : PySem.W.OpenLaw} {w : World} {K : PySem.W.Frag} {h : Heap} {mg : Str → Option Value} {fa : Addr} (X : K.In h) (G : h.Ns mainGlobals mg) (hfa : mg "law" = some (.ref fa)) (T : Txt K mg)
    {f : Addr} {oc : Value} {od an : Option Addr} {osl : Array (Option Value)} {kV doc pm cdv ct : Value} (a : PySem.W.nsIn K mainGlobals "law" = some (some (.ref f)))
    (lk : K.lookup f = some ⟨oc, od, .func (PySem.W.fnOf "law" "law" (defArgs s_law) (defBody s_law) (defScope s_law) .none kV doc pm an cdv ct), osl⟩) (c : PySem.W.codeIn K cdv "law" = true) (k : PySem.W.keepIn K (.ref f) = true) :
    ∃ fd : FuncData, (∀ (s : Shared) (v : Value), BindsTo s fd ⟨[v], []⟩ [("script", v)]) ∧ ∀ base : Heap, K.In base → base.Ns mainGlobals mg → FnOk l.prog w K mg base CX0 52 fa fd ["script"] (SpLaw K) := by
  have e := hfa.symm.trans (PySem.W.mg_of X G a)
  cases e
  exact ⟨PySem.W.fnOf "law" "law" (defArgs s_law) (defBody s_law) (defScope s_law) .none kV doc pm an cdv ct, fun s v => .of_eq rfl, fun base _ _ => ok_law T (fun_mk lk c k)⟩
end RO
open PySem PySem.W PyProof.Rows
set_option maxHeartbeats 0 in
theorem PySem.Challenge.cw_rowsorder_k47_whole_no_fewer_rows_holds : PySem.Challenge.rw_rowsorder_k47_whole_no_fewer_rows.Holds := by
  w_on; o_law; k_head; (case hw => w_witness2)
  k_fill
  refine L2.walk_of (l := PySem.Challenge.rw_rowsorder_k47_whole_no_fewer_rows) (n := 63) (k := 52) (x := "script") (CX := fun _ => L2.CX0) (sp := fun w => RO.SpLaw _) rfl (by decide) rfl ⟨rfl, by decide, by decide⟩ (fun w h Y => PySem.W.kIn_of Y) ?F (fun _ _ a ns hl _ hS => ⟨a, ns, rfl, hS, fun _ => rfl⟩) (fun _ _ _ _ _ h => h)
  case F =>
    intro w mg fa h KX G hmg
    refine' RO.with_dfn (x := "is_whole") (st := RO.s_is_whole) (ps := ["thing"]) KX G RO.bn_is_whole ?a ?l ?c ?k (fun d_is_whole => ?_)
    (case a => k_is); (case l => k_is); (case c => k_is); (case k => k_is)
    refine' RO.with_dfn (x := "is_many") (st := RO.s_is_many) (ps := ["thing"]) KX G RO.bn_is_many ?a ?l ?c ?k (fun d_is_many => ?_)
    (case a => k_is); (case l => k_is); (case c => k_is); (case k => k_is)
    refine' RO.with_dfn (x := "is_pair") (st := RO.s_is_pair) (ps := ["many", "thing"]) KX G RO.bn_is_pair ?a ?l ?c ?k (fun d_is_pair => ?_)
    (case a => k_is); (case l => k_is); (case c => k_is); (case k => k_is)
    refine' RO.with_dfn (x := "follows") (st := RO.s_follows) (ps := ["pairs"]) KX G RO.bn_follows ?a ?l ?c ?k (fun d_follows => ?_)
    (case a => k_is); (case l => k_is); (case c => k_is); (case k => k_is)
    refine' RO.with_dfn (x := "is_order") (st := RO.s_is_order) (ps := ["thing"]) KX G RO.bn_is_order ?a ?l ?c ?k (fun d_is_order => ?_)
    (case a => k_is); (case l => k_is); (case c => k_is); (case k => k_is)
    refine' RO.with_dfn (x := "need_order") (st := RO.s_need_order) (ps := ["order"]) KX G RO.bn_need_order ?a ?l ?c ?k (fun d_need_order => ?_)
    (case a => k_is); (case l => k_is); (case c => k_is); (case k => k_is)
    refine' RO.with_dfn (x := "closed") (st := RO.s_closed) (ps := ["many", "pairs"]) KX G RO.bn_closed ?a ?l ?c ?k (fun d_closed => ?_)
    (case a => k_is); (case l => k_is); (case c => k_is); (case k => k_is)
    refine' RO.with_dfn (x := "are_apart") (st := RO.s_are_apart) (ps := ["order", "a", "b"]) KX G RO.bn_are_apart ?a ?l ?c ?k (fun d_are_apart => ?_)
    (case a => k_is); (case l => k_is); (case c => k_is); (case k => k_is)
    refine' RO.with_dfn (x := "turned") (st := RO.s_turned) (ps := ["order"]) KX G RO.bn_turned ?a ?l ?c ?k (fun d_turned => ?_)
    (case a => k_is); (case l => k_is); (case c => k_is); (case k => k_is)
    refine' RO.with_dfn (x := "is_tuple_of_all") (st := RO.s_is_tuple_of_all) (ps := ["many", "thing"]) KX G RO.bn_is_tuple_of_all ?a ?l ?c ?k (fun d_is_tuple_of_all => ?_)
    (case a => k_is); (case l => k_is); (case c => k_is); (case k => k_is)
    refine' RO.with_dfn (x := "stands_ahead") (st := RO.s_stands_ahead) (ps := ["row", "a", "b"]) KX G RO.bn_stands_ahead ?a ?l ?c ?k (fun d_stands_ahead => ?_)
    (case a => k_is); (case l => k_is); (case c => k_is); (case k => k_is)
    refine' RO.with_dfn (x := "is_row_of") (st := RO.s_is_row_of) (ps := ["thing", "order"]) KX G RO.bn_is_row_of ?a ?l ?c ?k (fun d_is_row_of => ?_)
    (case a => k_is); (case l => k_is); (case c => k_is); (case k => k_is)
    refine' RO.with_dfn (x := "next_things") (st := RO.s_next_things) (ps := ["order", "gone"]) KX G RO.bn_next_things ?a ?l ?c ?k (fun d_next_things => ?_)
    (case a => k_is); (case l => k_is); (case c => k_is); (case k => k_is)
    refine' RO.with_dfn (x := "told_pairs") (st := RO.s_told_pairs) (ps := ["many", "rows"]) KX G RO.bn_told_pairs ?a ?l ?c ?k (fun d_told_pairs => ?_)
    (case a => k_is); (case l => k_is); (case c => k_is); (case k => k_is)
    refine' RO.with_dfn (x := "are_rows") (st := RO.s_are_rows) (ps := ["thing", "order"]) KX G RO.bn_are_rows ?a ?l ?c ?k (fun d_are_rows => ?_)
    (case a => k_is); (case l => k_is); (case c => k_is); (case k => k_is)
    refine' RO.with_dfn (x := "tell") (st := RO.s_tell) (ps := ["thing", "order"]) KX G RO.bn_tell ?a ?l ?c ?k (fun d_tell => ?_)
    (case a => k_is); (case l => k_is); (case c => k_is); (case k => k_is)
    refine' RO.with_dfn (x := "apart_lists") (st := RO.s_apart_lists) (ps := ["order"]) KX G RO.bn_apart_lists ?a ?l ?c ?k (fun d_apart_lists => ?_)
    (case a => k_is); (case l => k_is); (case c => k_is); (case k => k_is)
    refine' RO.with_dfn (x := "most_apart") (st := RO.s_most_apart) (ps := ["order"]) KX G RO.bn_most_apart ?a ?l ?c ?k (fun d_most_apart => ?_)
    (case a => k_is); (case l => k_is); (case c => k_is); (case k => k_is)
    refine' RO.with_dfn (x := "augmented") (st := RO.s_augmented) (ps := ["order", "thing", "seen", "matched"]) KX G RO.bn_augmented ?a ?l ?c ?k (fun d_augmented => ?_)
    (case a => k_is); (case l => k_is); (case c => k_is); (case k => k_is)
    refine' RO.with_dfn (x := "chains_of") (st := RO.s_chains_of) (ps := ["order"]) KX G RO.bn_chains_of ?a ?l ?c ?k (fun d_chains_of => ?_)
    (case a => k_is); (case l => k_is); (case c => k_is); (case k => k_is)
    refine' RO.with_dfn (x := "first_row_of") (st := RO.s_first_row_of) (ps := ["order"]) KX G RO.bn_first_row_of ?a ?l ?c ?k (fun d_first_row_of => ?_)
    (case a => k_is); (case l => k_is); (case c => k_is); (case k => k_is)
    refine' RO.with_dfn (x := "row_behind") (st := RO.s_row_behind) (ps := ["order", "chain"]) KX G RO.bn_row_behind ?a ?l ?c ?k (fun d_row_behind => ?_)
    (case a => k_is); (case l => k_is); (case c => k_is); (case k => k_is)
    refine' RO.with_dfn (x := "chain_rows") (st := RO.s_chain_rows) (ps := ["order"]) KX G RO.bn_chain_rows ?a ?l ?c ?k (fun d_chain_rows => ?_)
    (case a => k_is); (case l => k_is); (case c => k_is); (case k => k_is)
    refine' RO.with_dfn (x := "all_turns") (st := RO.s_all_turns) (ps := ["order"]) KX G RO.bn_all_turns ?a ?l ?c ?k (fun d_all_turns => ?_)
    (case a => k_is); (case l => k_is); (case c => k_is); (case k => k_is)
    refine' RO.with_dfn (x := "is_sharp") (st := RO.s_is_sharp) (ps := ["order", "a", "b"]) KX G RO.bn_is_sharp ?a ?l ?c ?k (fun d_is_sharp => ?_)
    (case a => k_is); (case l => k_is); (case c => k_is); (case k => k_is)
    refine' RO.with_dfn (x := "leads_on") (st := RO.s_leads_on) (ps := ["order", "one", "other"]) KX G RO.bn_leads_on ?a ?l ?c ?k (fun d_leads_on => ?_)
    (case a => k_is); (case l => k_is); (case c => k_is); (case k => k_is)
    refine' RO.with_dfn (x := "rows_by") (st := RO.s_rows_by) (ps := ["points"]) KX G RO.bn_rows_by ?a ?l ?c ?k (fun d_rows_by => ?_)
    (case a => k_is); (case l => k_is); (case c => k_is); (case k => k_is)
    refine' RO.with_dfn (x := "forces") (st := RO.s_forces) (ps := ["some", "one", "other"]) KX G RO.bn_forces ?a ?l ?c ?k (fun d_forces => ?_)
    (case a => k_is); (case l => k_is); (case c => k_is); (case k => k_is)
    refine' RO.with_dfn (x := "forced_of") (st := RO.s_forced_of) (ps := ["some", "turn"]) KX G RO.bn_forced_of ?a ?l ?c ?k (fun d_forced_of => ?_)
    (case a => k_is); (case l => k_is); (case c => k_is); (case k => k_is)
    refine' RO.with_dfn (x := "came_from") (st := RO.s_came_from) (ps := ["some", "start"]) KX G RO.bn_came_from ?a ?l ?c ?k (fun d_came_from => ?_)
    (case a => k_is); (case l => k_is); (case c => k_is); (case k => k_is)
    refine' RO.with_dfn (x := "knot_of") (st := RO.s_knot_of) (ps := ["order"]) KX G RO.bn_knot_of ?a ?l ?c ?k (fun d_knot_of => ?_)
    (case a => k_is); (case l => k_is); (case c => k_is); (case k => k_is)
    refine' RO.with_dfn (x := "chosen") (st := RO.s_chosen) (ps := ["order"]) KX G RO.bn_chosen ?a ?l ?c ?k (fun d_chosen => ?_)
    (case a => k_is); (case l => k_is); (case c => k_is); (case k => k_is)
    refine' RO.with_dfn (x := "points_by") (st := RO.s_points_by) (ps := ["order", "some"]) KX G RO.bn_points_by ?a ?l ?c ?k (fun d_points_by => ?_)
    (case a => k_is); (case l => k_is); (case c => k_is); (case k => k_is)
    refine' RO.with_dfn (x := "points_or_knot") (st := RO.s_points_or_knot) (ps := ["order"]) KX G RO.bn_points_or_knot ?a ?l ?c ?k (fun d_points_or_knot => ?_)
    (case a => k_is); (case l => k_is); (case c => k_is); (case k => k_is)
    refine' RO.with_dfn (x := "two_rows") (st := RO.s_two_rows) (ps := ["order"]) KX G RO.bn_two_rows ?a ?l ?c ?k (fun d_two_rows => ?_)
    (case a => k_is); (case l => k_is); (case c => k_is); (case k => k_is)
    refine' RO.with_dfn (x := "one_row") (st := RO.s_one_row) (ps := ["order"]) KX G RO.bn_one_row ?a ?l ?c ?k (fun d_one_row => ?_)
    (case a => k_is); (case l => k_is); (case c => k_is); (case k => k_is)
    refine' RO.with_dfn (x := "sharp_of") (st := RO.s_sharp_of) (ps := ["order"]) KX G RO.bn_sharp_of ?a ?l ?c ?k (fun d_sharp_of => ?_)
    (case a => k_is); (case l => k_is); (case c => k_is); (case k => k_is)
    refine' RO.with_dfn (x := "places_for") (st := RO.s_places_for) (ps := ["put", "turn"]) KX G RO.bn_places_for ?a ?l ?c ?k (fun d_places_for => ?_)
    (case a => k_is); (case l => k_is); (case c => k_is); (case k => k_is)
    refine' RO.with_dfn (x := "with_turn") (st := RO.s_with_turn) (ps := ["many", "put", "place", "turn"]) KX G RO.bn_with_turn ?a ?l ?c ?k (fun d_with_turn => ?_)
    (case a => k_is); (case l => k_is); (case c => k_is); (case k => k_is)
    refine' RO.with_dfn (x := "hardest") (st := RO.s_hardest) (ps := ["put", "left"]) KX G RO.bn_hardest ?a ?l ?c ?k (fun d_hardest => ?_)
    (case a => k_is); (case l => k_is); (case c => k_is); (case k => k_is)
    refine' RO.with_dfn (x := "put_all") (st := RO.s_put_all) (ps := ["many", "put", "left"]) KX G RO.bn_put_all ?a ?l ?c ?k (fun d_put_all => ?_)
    (case a => k_is); (case l => k_is); (case c => k_is); (case k => k_is)
    refine' RO.with_dfn (x := "rows_by_search") (st := RO.s_rows_by_search) (ps := ["order", "count"]) KX G RO.bn_rows_by_search ?a ?l ?c ?k (fun d_rows_by_search => ?_)
    (case a => k_is); (case l => k_is); (case c => k_is); (case k => k_is)
    refine' RO.with_dfn (x := "fewest_rows") (st := RO.s_fewest_rows) (ps := ["order"]) KX G RO.bn_fewest_rows ?a ?l ?c ?k (fun d_fewest_rows => ?_)
    (case a => k_is); (case l => k_is); (case c => k_is); (case k => k_is)
    refine' RO.with_dfn (x := "fewest") (st := RO.s_fewest) (ps := ["order"]) KX G RO.bn_fewest ?a ?l ?c ?k (fun d_fewest => ?_)
    (case a => k_is); (case l => k_is); (case c => k_is); (case k => k_is)
    refine' RO.with_dfn (x := "are_crossing") (st := RO.s_are_crossing) (ps := ["order", "one", "other"]) KX G RO.bn_are_crossing ?a ?l ?c ?k (fun d_are_crossing => ?_)
    (case a => k_is); (case l => k_is); (case c => k_is); (case k => k_is)
    refine' RO.with_dfn (x := "most_from") (st := RO.s_most_from) (ps := ["order", "found", "left"]) KX G RO.bn_most_from ?a ?l ?c ?k (fun d_most_from => ?_)
    (case a => k_is); (case l => k_is); (case c => k_is); (case k => k_is)
    refine' RO.with_dfn (x := "most_cross") (st := RO.s_most_cross) (ps := ["order"]) KX G RO.bn_most_cross ?a ?l ?c ?k (fun d_most_cross => ?_)
    (case a => k_is); (case l => k_is); (case c => k_is); (case k => k_is)
    refine' RO.with_dfn (x := "_law_box") (st := RO.s_law_box) (ps := ["script", "k"]) KX G RO.bn_law_box ?a ?l ?c ?k (fun d_law_box => ?_)
    (case a => k_is); (case l => k_is); (case c => k_is); (case k => k_is)
    refine' RO.with_dfn (x := "_law_take") (st := RO.s_law_take) (ps := ["box", "many"]) KX G RO.bn_law_take ?a ?l ?c ?k (fun d_law_take => ?_)
    (case a => k_is); (case l => k_is); (case c => k_is); (case k => k_is)
    refine' RO.with_dfn (x := "_law_shuffled") (st := RO.s_law_shuffled) (ps := ["box", "some"]) KX G RO.bn_law_shuffled ?a ?l ?c ?k (fun d_law_shuffled => ?_)
    (case a => k_is); (case l => k_is); (case c => k_is); (case k => k_is)
    refine' RO.with_dfn (x := "_law_told") (st := RO.s_law_told) (ps := ["many", "rows"]) KX G RO.bn_law_told ?a ?l ?c ?k (fun d_law_told => ?_)
    (case a => k_is); (case l => k_is); (case c => k_is); (case k => k_is)
    refine' RO.with_dfn (x := "_law_order") (st := RO.s_law_order) (ps := ["box", "most"]) KX G RO.bn_law_order ?a ?l ?c ?k (fun d_law_order => ?_)
    (case a => k_is); (case l => k_is); (case c => k_is); (case k => k_is)
    refine' RO.with_dfn (x := "_law_anew") (st := RO.s_law_anew) (ps := ["order", "names"]) KX G RO.bn_law_anew ?a ?l ?c ?k (fun d_law_anew => ?_)
    (case a => k_is); (case l => k_is); (case c => k_is); (case k => k_is)
    refine' RO.with_dfn (x := "law") (st := RO.s_law) (ps := ["script"]) KX G RO.bn_law ?a ?l ?c ?k (fun d_law => ?_)
    (case a => k_is); (case l => k_is); (case c => k_is); (case k => k_is)
    have b_len : mg "len" = none := by
      refine' PySem.W.mg_none_of KX G ?z
      (case z => k_is)
    have b_all : mg "all" = none := by
      refine' PySem.W.mg_none_of KX G ?z
      (case z => k_is)
    have b_max : mg "max" = none := by
      refine' PySem.W.mg_none_of KX G ?z
      (case z => k_is)
    have b_isinstance : mg "isinstance" = none := by
      refine' PySem.W.mg_none_of KX G ?z
      (case z => k_is)
    have b_divmod : mg "divmod" = none := by
      refine' PySem.W.mg_none_of KX G ?z
      (case z => k_is)
    have b_tuple : mg "tuple" = none := by
      refine' PySem.W.mg_none_of KX G ?z
      (case z => k_is)
    have b_list : mg "list" = none := by
      refine' PySem.W.mg_none_of KX G ?z
      (case z => k_is)
    have b_set : mg "set" = none := by
      refine' PySem.W.mg_none_of KX G ?z
      (case z => k_is)
    have b_sorted : mg "sorted" = none := by
      refine' PySem.W.mg_none_of KX G ?z
      (case z => k_is)
    have b_range : mg "range" = none := by
      refine' PySem.W.mg_none_of KX G ?z
      (case z => k_is)
    have b_enumerate : mg "enumerate" = none := by
      refine' PySem.W.mg_none_of KX G ?z
      (case z => k_is)
    have b_int : mg "int" = none := by
      refine' PySem.W.mg_none_of KX G ?z
      (case z => k_is)
    have b_bool : mg "bool" = none := by
      refine' PySem.W.mg_none_of KX G ?z
      (case z => k_is)
    refine' RO.with_most KX G ?z (fun most => ?_)
    (case z => k_is)
    refine' RO.law_mk KX G hmg ⟨d_is_whole, d_is_many, d_is_pair, d_follows, d_is_order, d_need_order, d_closed, d_are_apart, d_turned, d_is_tuple_of_all, d_stands_ahead, d_is_row_of, d_next_things, d_told_pairs, d_are_rows, d_tell, d_apart_lists, d_most_apart, d_augmented, d_chains_of, d_first_row_of, d_row_behind, d_chain_rows, d_all_turns, d_is_sharp, d_leads_on, d_rows_by, d_forces, d_forced_of, d_came_from, d_knot_of, d_chosen, d_points_by, d_points_or_knot, d_two_rows, d_one_row, d_sharp_of, d_places_for, d_with_turn, d_hardest, d_put_all, d_rows_by_search, d_fewest_rows, d_fewest, d_are_crossing, d_most_from, d_most_cross, d_law_box, d_law_take, d_law_shuffled, d_law_told, d_law_order, d_law_anew, d_law, b_len, b_all, b_max, b_isinstance, b_divmod, b_tuple, b_list, b_set, b_sorted, b_range, b_enumerate, b_int, b_bool, most⟩ ?a ?l ?c ?k
    (case a => k_is); (case l => k_is); (case c => k_is); (case k => k_is)
