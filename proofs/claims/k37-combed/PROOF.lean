import PyProof.Rows.All
import Wide.All
import OpenK.AllK
import Wide.FinOn
import KE.KStateDown
import HandS.ForMost
import HandS.WordsExc
import HandS.Defaults
import HandS.Head0
import HandS.Head1
import HandS.Head2
import HandS.HeadEnd
import HandS.HeadHook1
import HandS.HeadHook2
import HandS.IsInst
import HandS.Walk
import HandS.Zip
import HandS.TupAny
import HandS.NoneIn
import HandS.Style
import HandS.Flow
import KE.GoesEnum
import PySem.Challenge.RW_unwound_k37_whole_combed_beside_single_m
set_option linter.all false
/-! The plain law of k37: combing by single moves. No program in sight. -/
namespace K37

/-- what stands at a leaf of a TERM or VALUE -/
inductive Lf where
  | thing (k : Int)
  | at (w : List Int)
  | call
  deriving DecidableEq

/-- a TERM or a VALUE -/
inductive Tr where
  | leaf (l : Lf)
  | node (m : Int) (ks : List Tr)

theorem Tr.ind {P : Tr → Prop} (hl : ∀ l, P (.leaf l)) (hn : ∀ m ks, (∀ c ∈ ks, P c) → P (.node m ks)) : ∀ t, P t := fun t =>
  Tr.rec (motive_1 := P) (motive_2 := fun ks => ∀ c ∈ ks, P c) hl hn (fun _ h => nomatch h)
    (fun k ks h1 h2 c hc => by
      rcases List.mem_cons.mp hc with e | e
      · rw [e]; exact h1
      · exact h2 c e) t

mutual
/-- how many makings stand one within another -/
def dep : Tr → Nat
  | .leaf _ => 0
  | .node _ ks => deps ks + 1
def deps : List Tr → Nat
  | [] => 0
  | k :: ks => max (dep k) (deps ks)
end
mutual
/-- the leaves from the left -/
def lvs : Tr → List Lf
  | .leaf l => [l]
  | .node _ ks => lvss ks
def lvss : List Tr → List Lf
  | [] => []
  | k :: ks => lvs k ++ lvss ks
end
/-- a bound for the depth that moves keep: makings of two add up, others nest -/
def rho2 (xs : List Nat) (mx : Nat) : Nat := match xs with
  | [a, b] => a + b + 1
  | _ => mx + 1
mutual
def rho : Tr → Nat
  | .leaf _ => 0
  | .node _ ks => rho2 (rhol ks) (rhos ks)
def rhos : List Tr → Nat
  | [] => 0
  | k :: ks => max (rho k) (rhos ks)
def rhol : List Tr → List Nat
  | [] => []
  | k :: ks => rho k :: rhol ks
end
/-- a number that every move lowers -/
def wt2 (xs : List Nat) : Nat := match xs with
  | [a, b] => 2 * a + b + 1
  | _ => xs.sum
mutual
def wt : Tr → Nat
  | .leaf _ => 0
  | .node _ ks => wt2 (wtl ks)
def wtl : List Tr → List Nat
  | [] => []
  | k :: ks => wt k :: wtl ks
end
mutual
/-- makers 1 or 2, one to three terms -/
def wf : Tr → Prop
  | .leaf _ => True
  | .node m ks => (m = 1 ∨ m = 2) ∧ 1 ≤ ks.length ∧ ks.length ≤ 3 ∧ wfs ks
def wfs : List Tr → Prop
  | [] => True
  | k :: ks => wf k ∧ wfs ks
end
/-- a making of two by M -/
def two (M : Int) : Tr → Bool
  | .leaf _ => false
  | .node m ks => decide (m = M) && ks.length == 2
theorem two_iff {M : Int} {t : Tr} : two M t = true ↔ ∃ a b, t = .node M [a, b] := by
  constructor
  · intro h
    cases t with
    | leaf l => cases h
    | node m ks =>
      have h' : m = M ∧ ks.length = 2 := by simpa [two] using h
      obtain ⟨rfl, h2⟩ := h'
      match ks, h2 with
      | [a, b], _ => exact ⟨a, b, rfl⟩
  · rintro ⟨a, b, rfl⟩
    simp [two]
theorem two_node (M : Int) (a b : Tr) : two M (.node M [a, b]) = true := by simp [two]

mutual
/-- what makings of two by M put in a row -/
def opd (M : Int) : Tr → List Tr
  | .leaf l => [.leaf l]
  | .node m ks => if m = M ∧ ks.length = 2 then opds M ks else [.node m ks]
def opds (M : Int) : List Tr → List Tr
  | [] => []
  | k :: ks => opd M k ++ opds M ks
end
theorem opd_two (M : Int) (a b : Tr) : opd M (.node M [a, b]) = opd M a ++ opd M b := by
  rw [opd, if_pos ⟨rfl, rfl⟩, opds, opds, opds, List.append_nil]
theorem opd_not {M : Int} {t : Tr} (h : two M t = false) : opd M t = [t] := by
  cases t with
  | leaf l => rw [opd]
  | node m ks =>
    rw [opd, if_neg]
    rintro ⟨rfl, h2⟩
    simp [two, h2] at h
theorem opd_ne (M : Int) : ∀ t, opd M t ≠ [] := by
  refine Tr.ind (fun l => ?_) fun m ks ih => ?_
  · rw [opd]; exact List.cons_ne_nil _ _
  · cases h : two M (.node m ks) with
    | false => rw [opd_not h]; exact List.cons_ne_nil _ _
    | true =>
      obtain ⟨a, b, e⟩ := two_iff.mp h
      injection e with e1 e2
      subst e1 e2
      rw [opd_two]
      intro q
      exact ih a (by simp) (List.append_eq_nil_iff.mp q).1
/-- the items of a row are none that open -/
theorem opd_items (M : Int) : ∀ t, ∀ p ∈ opd M t, two M p = false := by
  refine Tr.ind (fun l => ?_) fun m ks ih => ?_
  · rw [opd]
    intro p hp
    rw [List.mem_singleton.mp hp]
    rfl
  · cases h : two M (.node m ks) with
    | false =>
      rw [opd_not h]
      intro p hp
      rw [List.mem_singleton.mp hp]
      exact h
    | true =>
      obtain ⟨a, b, e⟩ := two_iff.mp h
      injection e with e1 e2
      subst e1 e2
      rw [opd_two]
      intro p hp
      rcases List.mem_append.mp hp with ql | qr
      · exact ih a (by simp) p ql
      · exact ih b (by simp) p qr

/-- a row put together from the right -/
def nest (M : Int) : Tr → List Tr → Tr
  | a, [] => a
  | a, b :: r => .node M [a, nest M b r]
def nestL (M : Int) : List Tr → Tr
  | [] => .leaf .call
  | a :: r => nest M a r
theorem nest_cons (M : Int) (a : Tr) {r : List Tr} (h : r ≠ []) : nest M a r = .node M [a, nestL M r] := by
  cases r with
  | nil => exact absurd rfl h
  | cons b r => rfl
theorem opd_nestL (M : Int) : ∀ (r : List Tr), r ≠ [] → (∀ p ∈ r, two M p = false) → opd M (nestL M r) = r
  | [], h, _ => absurd rfl h
  | [a], _, h => opd_not (h a (by simp))
  | a :: b :: r, _, h => by
    show opd M (.node M [a, nestL M (b :: r)]) = _
    rw [opd_two, opd_not (h a (by simp)), opd_nestL M (b :: r) (List.cons_ne_nil _ _) fun p hp => h p (List.mem_cons_of_mem _ hp)]
    rfl

mutual
/-- combed: the result of the program's own function -/
def cmb (M : Int) : Tr → Tr
  | .leaf l => .leaf l
  | .node m ks => nestL M (opd M (.node m (cmbs M ks)))
def cmbs (M : Int) : List Tr → List Tr
  | [] => []
  | k :: ks => cmb M k :: cmbs M ks
end
theorem cmbs_map (M : Int) : ∀ ks, cmbs M ks = ks.map (cmb M)
  | [] => rfl
  | k :: ks => by rw [cmbs, cmbs_map M ks]; rfl
theorem cmb_node (M m : Int) (ks : List Tr) : cmb M (.node m ks) = nestL M (opd M (.node m (ks.map (cmb M)))) := by
  rw [cmb, cmbs_map]
/-- the row that a combed one opens to -/
def row (M : Int) (t : Tr) : List Tr := opd M (cmb M t)
theorem row_two (M : Int) (a b : Tr) : row M (.node M [a, b]) = row M a ++ row M b := by
  unfold row
  rw [cmb_node]
  show opd M (nestL M (opd M (.node M [cmb M a, cmb M b]))) = _
  rw [opd_nestL M _ (opd_ne M _) (opd_items M _), opd_two]
theorem cmb_two (M : Int) (a b : Tr) : cmb M (.node M [a, b]) = nestL M (row M a ++ row M b) := by
  rw [cmb_node]
  show nestL M (opd M (.node M [cmb M a, cmb M b])) = _
  rw [opd_two]
  rfl
/-- a single move does not change the combed one -/
theorem cmb_assoc (M : Int) (a b c : Tr) : cmb M (.node M [.node M [a, b], c]) = cmb M (.node M [a, .node M [b, c]]) := by
  rw [cmb_two, cmb_two, row_two, row_two, List.append_assoc]

/-! ### no spot left: it is combed -/
mutual
def still (M : Int) : Tr → Prop
  | .leaf _ => True
  | .node m ks => ¬ (two M (.node m ks) = true ∧ ∃ a r, ks = a :: r ∧ two M a = true) ∧ stills M ks
def stills (M : Int) : List Tr → Prop
  | [] => True
  | k :: ks => still M k ∧ stills M ks
end
theorem stills_mem {M : Int} : ∀ {ks : List Tr}, stills M ks → ∀ c ∈ ks, still M c
  | [], _, _, h => nomatch h
  | k :: ks, h, c, hc => by
    rw [stills] at h
    rcases List.mem_cons.mp hc with e | e
    · rw [e]; exact h.1
    · exact stills_mem h.2 c e
theorem stills_of {M : Int} : ∀ {ks : List Tr}, (∀ c ∈ ks, still M c) → stills M ks
  | [], _ => trivial
  | k :: ks, h => ⟨h k (by simp), stills_of fun c hc => h c (List.mem_cons_of_mem _ hc)⟩
theorem nest_still (M : Int) : ∀ t, still M t → nestL M (opd M t) = t := by
  refine Tr.ind (fun l _ => by rw [opd]; rfl) fun m ks ih hs => ?_
  cases h : two M (.node m ks) with
  | false => rw [opd_not h]; rfl
  | true =>
    obtain ⟨a, b, e⟩ := two_iff.mp h
    injection e with e1 e2
    subst e1 e2
    rw [still] at hs
    have ha : two m a = false := by
      cases q : two m a with
      | false => rfl
      | true => exact absurd ⟨h, a, [b], rfl, q⟩ hs.1
    rw [opd_two, opd_not ha]
    show nest m a (opd m b) = _
    rw [nest_cons m a (opd_ne m b), ih b (by simp) (stills_mem hs.2 b (by simp))]
theorem cmb_still (M : Int) : ∀ t, still M t → cmb M t = t := by
  refine Tr.ind (fun l _ => by rw [cmb]) fun m ks ih hs => ?_
  have hs' := hs
  rw [still] at hs'
  have e : ks.map (cmb M) = ks := by
    have h : ∀ c ∈ ks, cmb M c = id c := fun c hc => ih c hc (stills_mem hs'.2 c hc)
    rw [List.map_congr_left h, List.map_id]
  rw [cmb_node, e]
  exact nest_still M _ hs

/-! ### single moves -/
inductive Mv (M : Int) : Tr → Tr → Prop where
  | top (a b c : Tr) : Mv M (.node M [.node M [a, b], c]) (.node M [a, .node M [b, c]])
  | sub (m : Int) (xs ys : List Tr) {c c' : Tr} : Mv M c c' → Mv M (.node m (xs ++ c :: ys)) (.node m (xs ++ c' :: ys))
theorem Mv.cmb {M : Int} {t t' : Tr} (h : Mv M t t') : cmb M t' = cmb M t := by
  induction h with
  | top a b c => exact (cmb_assoc M a b c).symm
  | sub m xs ys _ ih =>
    rw [cmb_node, cmb_node, List.map_append, List.map_append, List.map_cons, List.map_cons, ih]
theorem rhol_map : ∀ ks, rhol ks = ks.map rho
  | [] => rfl
  | k :: ks => by rw [rhol, rhol_map ks]; rfl
theorem wtl_map : ∀ ks, wtl ks = ks.map wt
  | [] => rfl
  | k :: ks => by rw [wtl, wtl_map ks]; rfl
theorem rho_node (m : Int) (ks : List Tr) : rho (.node m ks) = rho2 (ks.map rho) (rhos ks) := by rw [rho, rhol_map]
theorem wt_node (m : Int) (ks : List Tr) : wt (.node m ks) = wt2 (ks.map wt) := by rw [wt, wtl_map]
theorem rho_two (m : Int) (a b : Tr) : rho (.node m [a, b]) = rho a + rho b + 1 := by rw [rho_node]; rfl
theorem wt_two (m : Int) (a b : Tr) : wt (.node m [a, b]) = 2 * wt a + wt b + 1 := by rw [wt_node]; rfl
theorem rhos_app : ∀ (xs ys : List Tr), rhos (xs ++ ys) = max (rhos xs) (rhos ys)
  | [], ys => by rw [List.nil_append, rhos]; omega
  | x :: xs, ys => by
    show rhos (x :: (xs ++ ys)) = _
    rw [rhos, rhos, rhos_app xs ys]; omega
theorem Mv.rho {M : Int} {t t' : Tr} (h : Mv M t t') : rho t' = rho t := by
  induction h with
  | top a b c => rw [rho_two, rho_two, rho_two, rho_two]; omega
  | sub m xs ys _ ih =>
    rw [rho_node, rho_node, List.map_append, List.map_append, List.map_cons, List.map_cons, ih, rhos_app, rhos_app, rhos, rhos, ih]
theorem wt2_lt {xs ys : List Nat} {a b : Nat} (h : b < a) : wt2 (xs ++ b :: ys) < wt2 (xs ++ a :: ys) := by
  match xs, ys with
  | [], [] => show wt2 [b] < wt2 [a]; simp [wt2]; omega
  | [], [y] => show wt2 [b, y] < wt2 [a, y]; simp [wt2]; omega
  | [x], [] => show wt2 [x, b] < wt2 [x, a]; simp [wt2]; omega
  | [], y :: z :: ys => show wt2 (b :: y :: z :: ys) < wt2 (a :: y :: z :: ys); simp [wt2]; omega
  | [x], y :: ys => show wt2 (x :: b :: y :: ys) < wt2 (x :: a :: y :: ys); simp [wt2]; omega
  | x :: z :: xs, ys =>
    have e : ∀ n, wt2 (x :: z :: xs ++ n :: ys) = x + (z + (xs.sum + (n + ys.sum))) := fun n => by
      cases xs with
      | nil => show wt2 (x :: z :: n :: ys) = _; simp [wt2]
      | cons u xs => show wt2 (x :: z :: u :: (xs ++ n :: ys)) = _; simp [wt2]; omega
    rw [e, e]; omega
theorem Mv.wt {M : Int} {t t' : Tr} (h : Mv M t t') : wt t' < wt t := by
  induction h with
  | top a b c => rw [wt_two, wt_two, wt_two, wt_two]; omega
  | sub m xs ys _ ih =>
    rw [wt_node, wt_node, List.map_append, List.map_append, List.map_cons, List.map_cons]
    exact wt2_lt ih
theorem wfs_app : ∀ {xs ys : List Tr}, wfs (xs ++ ys) ↔ wfs xs ∧ wfs ys
  | [], ys => by simp [wfs]
  | x :: xs, ys => by
    show wfs (x :: (xs ++ ys)) ↔ _
    rw [wfs, wfs, wfs_app]
    exact and_assoc.symm
theorem wfs_mem : ∀ {ks : List Tr}, wfs ks → ∀ c ∈ ks, wf c
  | [], _, _, h => nomatch h
  | k :: ks, h, c, hc => by
    rw [wfs] at h
    rcases List.mem_cons.mp hc with e | e
    · rw [e]; exact h.1
    · exact wfs_mem h.2 c e
theorem wfs_of : ∀ {ks : List Tr}, (∀ c ∈ ks, wf c) → wfs ks
  | [], _ => trivial
  | k :: ks, h => ⟨h k (by simp), wfs_of fun c hc => h c (List.mem_cons_of_mem _ hc)⟩
theorem Mv.wf {M : Int} {t t' : Tr} (h : Mv M t t') : wf t → wf t' := by
  induction h with
  | top a b c =>
    intro h
    simp only [K37.wf, K37.wfs] at h ⊢
    obtain ⟨h1, _, _, ⟨_, _, _, ha, hb, _⟩, hc, _⟩ := h
    exact ⟨h1, by simp, by simp, ha, ⟨h1, by simp, by simp, hb, hc, trivial⟩, trivial⟩
  | sub m xs ys _ ih =>
    intro h
    rw [K37.wf, wfs_app, K37.wfs] at h ⊢
    obtain ⟨h1, h2, h3, h4, h5, h6⟩ := h
    rw [List.length_append, List.length_cons] at h2 h3 ⊢
    exact ⟨h1, h2, h3, h4, ih h5, h6⟩
theorem lvss_app : ∀ (xs ys : List Tr), lvss (xs ++ ys) = lvss xs ++ lvss ys
  | [], ys => rfl
  | x :: xs, ys => by
    show lvss (x :: (xs ++ ys)) = _
    rw [lvss, lvss, lvss_app xs ys, List.append_assoc]
theorem Mv.lvs {M : Int} {t t' : Tr} (h : Mv M t t') : lvs t' = lvs t := by
  induction h with
  | top a b c => simp only [K37.lvs, K37.lvss, List.append_nil, List.append_assoc]
  | sub m xs ys _ ih => rw [K37.lvs, K37.lvs, lvss_app, lvss_app, lvss, lvss, ih]

/-! ### the leaves of the combed one -/
theorem lvs_opd (M : Int) : ∀ t, lvss (opd M t) = lvs t := by
  refine Tr.ind (fun l => by rw [opd, lvss, lvss, List.append_nil]) fun m ks ih => ?_
  cases h : two M (.node m ks) with
  | false => rw [opd_not h, lvss, lvss, List.append_nil]
  | true =>
    obtain ⟨a, b, e⟩ := two_iff.mp h
    injection e with e1 e2
    subst e1 e2
    rw [opd_two, lvss_app, ih a (by simp), ih b (by simp), lvs, lvss, lvss, lvss, List.append_nil]
theorem lvs_nest (M : Int) : ∀ (r : List Tr), r ≠ [] → lvs (nestL M r) = lvss r
  | [], h => absurd rfl h
  | [a], _ => by show lvs a = _; rw [lvss, lvss, List.append_nil]
  | a :: b :: r, _ => by
    show lvs (.node M [a, nestL M (b :: r)]) = _
    rw [lvs, lvss, lvss, lvss, List.append_nil, lvs_nest M (b :: r) (List.cons_ne_nil _ _)]
    conv => rhs; rw [lvss]
theorem lvss_cong {f : Tr → Tr} : ∀ {ks : List Tr}, (∀ c ∈ ks, lvs (f c) = lvs c) → lvss (ks.map f) = lvss ks
  | [], _ => rfl
  | k :: ks, h => by
    rw [List.map_cons, lvss, lvss, h k (by simp), lvss_cong fun c hc => h c (List.mem_cons_of_mem _ hc)]
theorem lvs_cmb (M : Int) : ∀ t, lvs (cmb M t) = lvs t := by
  refine Tr.ind (fun l => by rw [cmb]) fun m ks ih => ?_
  rw [cmb_node, lvs_nest M _ (opd_ne M _), lvs_opd, lvs, lvs, lvss_cong ih]

/-! ### depths -/
theorem dep_le_deps : ∀ {ks : List Tr} {c : Tr}, c ∈ ks → dep c ≤ deps ks
  | k :: ks, c, h => by
    rw [deps]
    rcases List.mem_cons.mp h with e0 | e1
    · rw [e0]; omega
    · have := dep_le_deps e1; omega
theorem deps_le : ∀ {ks : List Tr} {n : Nat}, (∀ c ∈ ks, dep c ≤ n) → deps ks ≤ n
  | [], _, _ => by rw [deps]; omega
  | k :: ks, n, h => by
    rw [deps]
    have h1 := h k (by simp)
    have h2 := deps_le (ks := ks) (n := n) fun c hc => h c (List.mem_cons_of_mem _ hc)
    omega
theorem dep_kid {m : Int} {ks : List Tr} {c : Tr} (h : c ∈ ks) : dep c < dep (.node m ks) := by
  rw [dep]
  have := dep_le_deps h
  omega
theorem rho_le_rhos : ∀ {ks : List Tr} {c : Tr}, c ∈ ks → rho c ≤ rhos ks
  | k :: ks, c, h => by
    rw [rhos]
    rcases List.mem_cons.mp h with e0 | e1
    · rw [e0]; omega
    · have := rho_le_rhos e1; omega
theorem rhos_le : ∀ {ks : List Tr} {n : Nat}, (∀ c ∈ ks, rho c ≤ n) → rhos ks ≤ n
  | [], _, _ => by rw [rhos]; omega
  | k :: ks, n, h => by
    rw [rhos]
    have h1 := h k (by simp)
    have h2 := rhos_le (ks := ks) (n := n) fun c hc => h c (List.mem_cons_of_mem _ hc)
    omega
/-- a making is above its terms -/
theorem rho_kid {m : Int} {ks : List Tr} {c : Tr} (h : c ∈ ks) : rho c < rho (.node m ks) := by
  rw [rho_node]
  have h1 := rho_le_rhos h
  match ks, h with
  | [a, b], h =>
    show rho c < rho a + rho b + 1
    rcases List.mem_cons.mp h with e0 | e1
    · rw [e0]; omega
    · rw [List.mem_singleton.mp e1]; omega
  | [a], _ => show rho c < rhos [a] + 1; omega
  | a :: b :: d :: r, _ => show rho c < rhos (a :: b :: d :: r) + 1; omega
theorem dep_le_rho : ∀ t, dep t ≤ rho t := by
  refine Tr.ind (fun l => by rw [dep, rho]; omega) fun m ks ih => ?_
  cases ks with
  | nil => rw [dep, rho_node]; show deps [] + 1 ≤ rhos [] + 1; rw [deps, rhos]; omega
  | cons k ks =>
    have h : deps (k :: ks) ≤ rho (.node m (k :: ks)) - 1 := deps_le fun c hc => by
      have h1 := ih c hc
      have h2 := rho_kid (m := m) hc
      omega
    have h3 := rho_kid (m := m) (List.mem_cons_self (a := k) (l := ks))
    rw [dep]
    omega
theorem rho2_mono {xs ys : List Nat} {a b : Nat} (h : xs.length = ys.length) (hp : ∀ i : Nat, ∀ x y, xs[i]? = some x → ys[i]? = some y → x ≤ y) (hm : a ≤ b) : rho2 xs a ≤ rho2 ys b := by
  match xs, ys, h with
  | [], [], _ => show a + 1 ≤ b + 1; omega
  | [x], [y], _ => show a + 1 ≤ b + 1; omega
  | [x, x'], [y, y'], _ =>
    have h1 := hp 0 x y rfl rfl
    have h2 := hp 1 x' y' rfl rfl
    show x + x' + 1 ≤ y + y' + 1
    omega
  | x :: x' :: x'' :: xs, y :: y' :: y'' :: ys, _ => show a + 1 ≤ b + 1; omega
theorem rhos_map_le {f : Tr → Tr} : ∀ {ks : List Tr}, (∀ c ∈ ks, rho (f c) ≤ rho c) → rhos (ks.map f) ≤ rhos ks
  | [], _ => Nat.le_refl _
  | k :: ks, h => by
    rw [List.map_cons, rhos, rhos]
    have h1 := h k (by simp)
    have h2 := rhos_map_le (ks := ks) fun c hc => h c (List.mem_cons_of_mem _ hc)
    omega
theorem rho_map_le {m : Int} {f : Tr → Tr} {ks : List Tr} (h : ∀ c ∈ ks, rho (f c) ≤ rho c) : rho (.node m (ks.map f)) ≤ rho (.node m ks) := by
  rw [rho_node, rho_node]
  refine rho2_mono (by simp) (fun i x y hx hy => ?_) (rhos_map_le h)
  rw [List.getElem?_map, List.getElem?_map] at hx
  rw [List.getElem?_map] at hy
  cases e : ks[i]? with
  | none => rw [e] at hy; cases hy
  | some c =>
    rw [e] at hx hy
    cases hx
    cases hy
    exact h c (List.mem_of_getElem? e)
/-- the sum of a row's bounds and one for each joint -/
def rsum : List Tr → Nat
  | [] => 0
  | [a] => rho a
  | a :: r => rho a + rsum r + 1
theorem rsum_app : ∀ {xs ys : List Tr}, xs ≠ [] → ys ≠ [] → rsum (xs ++ ys) = rsum xs + rsum ys + 1
  | [], _, h, _ => absurd rfl h
  | [a], y :: ys, _, _ => by
    show rho a + rsum (y :: ys) + 1 = _
    rfl
  | a :: b :: r, ys, _, h => by
    have ih := rsum_app (xs := b :: r) (ys := ys) (List.cons_ne_nil _ _) h
    show rho a + rsum (b :: r ++ ys) + 1 = rho a + rsum (b :: r) + 1 + rsum ys + 1
    rw [ih]; omega
theorem rsum_opd (M : Int) : ∀ t, rsum (opd M t) = rho t := by
  refine Tr.ind (fun l => by rw [opd]; rfl) fun m ks ih => ?_
  cases h : two M (.node m ks) with
  | false => rw [opd_not h]; rfl
  | true =>
    obtain ⟨a, b, e⟩ := two_iff.mp h
    injection e with e1 e2
    subst e1 e2
    rw [opd_two, rsum_app (opd_ne _ a) (opd_ne _ b), ih a (by simp), ih b (by simp), rho_two]
theorem rho_nest (M : Int) : ∀ (r : List Tr), r ≠ [] → rho (nestL M r) = rsum r
  | [], h => absurd rfl h
  | [a], _ => rfl
  | a :: b :: r, _ => by
    show rho (.node M [a, nestL M (b :: r)]) = rho a + rsum (b :: r) + 1
    rw [rho_two, rho_nest M (b :: r) (List.cons_ne_nil _ _)]
theorem rho_cmb (M : Int) : ∀ t, rho (cmb M t) ≤ rho t := by
  refine Tr.ind (fun l => by rw [cmb]; omega) fun m ks ih => ?_
  rw [cmb_node, rho_nest M _ (opd_ne M _), rsum_opd]
  exact rho_map_le ih

/-- bounds by the depth, for makings of one to three terms -/
theorem rho_dep : ∀ t, rho t + 1 ≤ 2 ^ dep t := by
  refine Tr.ind (fun l => by rw [rho, dep]; decide) fun m ks ih => ?_
  have hp : ∀ c ∈ ks, rho c + 1 ≤ 2 ^ deps ks := fun c hc => Nat.le_trans (ih c hc) (Nat.pow_le_pow_right (by decide) (dep_le_deps hc))
  have h1 : 1 ≤ 2 ^ deps ks := Nat.one_le_two_pow
  rw [rho_node, dep, Nat.pow_succ]
  match ks, hp, h1 with
  | [], _, _ => show rhos [] + 1 + 1 ≤ _; rw [rhos, deps]; decide
  | [a], hp, h1 =>
    have h := hp a (by simp)
    show rhos [a] + 1 + 1 ≤ _
    rw [rhos, rhos]; omega
  | [a, b], hp, _ =>
    have h := hp a (by simp)
    have h' := hp b (by simp)
    show rho a + rho b + 1 + 1 ≤ _
    omega
  | a :: b :: d :: r, hp, h1 =>
    have h : rhos (a :: b :: d :: r) ≤ 2 ^ deps (a :: b :: d :: r) - 1 := rhos_le fun c hc => by
      have := hp c hc
      omega
    show rhos (a :: b :: d :: r) + 1 + 1 ≤ _
    omega
theorem wt_dep : ∀ t, wf t → 2 * wt t + 1 ≤ 3 ^ dep t := by
  refine Tr.ind (fun l _ => by rw [wt, dep]; decide) fun m ks ih hw => ?_
  rw [wf] at hw
  obtain ⟨_, l1, l3, hw⟩ := hw
  have hp : ∀ c ∈ ks, 2 * wt c + 1 ≤ 3 ^ deps ks := fun c hc => Nat.le_trans (ih c hc (wfs_mem hw c hc)) (Nat.pow_le_pow_right (by decide) (dep_le_deps hc))
  have h1 : 1 ≤ 3 ^ deps ks := Nat.one_le_pow _ _ (by decide)
  rw [wt_node, dep, Nat.pow_succ]
  match ks, l1, l3, hp, h1 with
  | [a], _, _, hp, h1 =>
    have h := hp a (by simp)
    show 2 * [wt a].sum + 1 ≤ _
    simp only [List.sum_cons, List.sum_nil]; omega
  | [a, b], _, _, hp, _ =>
    have h := hp a (by simp)
    have h' := hp b (by simp)
    show 2 * (2 * wt a + wt b + 1) + 1 ≤ _
    omega
  | [a, b, d], _, _, hp, h1 =>
    have h := hp a (by simp)
    have h' := hp b (by simp)
    have h'' := hp d (by simp)
    show 2 * [wt a, wt b, wt d].sum + 1 ≤ _
    simp only [List.sum_cons, List.sum_nil]; omega
theorem lvs_dep : ∀ t, wf t → (lvs t).length ≤ 3 ^ dep t := by
  refine Tr.ind (fun l _ => by rw [lvs, dep]; simp) fun m ks ih hw => ?_
  rw [wf] at hw
  obtain ⟨_, l1, l3, hw⟩ := hw
  have hp : ∀ c ∈ ks, (lvs c).length ≤ 3 ^ deps ks := fun c hc => Nat.le_trans (ih c hc (wfs_mem hw c hc)) (Nat.pow_le_pow_right (by decide) (dep_le_deps hc))
  rw [lvs, dep, Nat.pow_succ]
  match ks, l1, l3, hp with
  | [a], _, _, hp =>
    have h := hp a (by simp)
    simp only [lvss, List.append_nil, List.length_append]; omega
  | [a, b], _, _, hp =>
    have h := hp a (by simp)
    have h' := hp b (by simp)
    simp only [lvss, List.append_nil, List.length_append]; omega
  | [a, b, d], _, _, hp =>
    have h := hp a (by simp)
    have h' := hp b (by simp)
    have h'' := hp d (by simp)
    simp only [lvss, List.append_nil, List.length_append]; omega
theorem lvs_pos : ∀ t, wf t → 1 ≤ (lvs t).length := by
  refine Tr.ind (fun l _ => by rw [lvs]; simp) fun m ks ih hw => ?_
  rw [wf] at hw
  obtain ⟨_, l1, l3, hw⟩ := hw
  match ks, l1 with
  | k :: ks, _ =>
    have h := ih k (by simp) (wfs_mem hw k (by simp))
    rw [lvs, lvss, List.length_append]; omega
end K37

set_option Elab.async false
set_option linter.all false
set_option maxRecDepth 100000
set_option maxHeartbeats 0
namespace K37
open PySem PySem.Spec PyProof.Rows L2
def top (i : Nat) : Stmt := PySem.Challenge.pw_unwound_k37_whole_combed_beside_single_m.main.body.getD i (.Pass ⟨0, 0, 0, 0⟩)
abbrev FnP (K : PySem.W.Frag) (x : Str) (st : Stmt) (f : Addr) (fd : FuncData) : Prop := FunD K x x (defArgs st) (defBody st) (defScope st) [] [] f fd
def dd (x : Str) (i : Nat) : He.DefD := ⟨(x, none), x, x, defArgs (top i), defBody (top i), defScope (top i), [], []⟩
def fn : List He.DefD := [dd "tuple_of" 1, dd "_opened" 3, dd "_combed" 4, dd "combed" 5, dd "alike_by" 6, dd "_law_box" 8, dd "_law_take" 9, dd "_law_cells" 10, dd "_law_same" 11, dd "_law_lists" 12, dd "_law_of" 13, dd "_law_tree" 14, dd "_law_spots" 15, dd "_law_is_two" 16, dd "_law_moved" 17, dd "_law_all_moved" 18, dd "_law_turned" 19, dd "_law_bent" 20, dd "_law_right" 21, dd "_law_by_hand_right" 22, dd "law" 23]
def fa : List He.Fa := [.glo "tuple_of", .glo "_opened", .glo "_combed", .glo "combed", .glo "alike_by", .glo "_law_box", .glo "_law_take", .glo "_law_cells", .glo "_law_same", .glo "_law_lists", .glo "_law_of", .glo "_law_tree", .glo "_law_spots", .glo "_law_is_two", .glo "_law_moved", .glo "_law_all_moved", .glo "_law_turned", .glo "_law_bent", .glo "_law_right", .glo "_law_by_hand_right", .glo "law",
  .free "isinstance", .free "list", .free "tuple", .free "len", .free "abs", .free "int", .free "enumerate", .free "all", .free "zip", .free "range", .free "str", .free "bool"]
abbrev R : PySem.W.OpenRow := PySem.W.OpenLaw.row PySem.Challenge.rw_unwound_k37_whole_combed_beside_single_m
abbrev hk : PySem.W.Hook := He.hookD 4 fa fn
def ob (s : PySem.W.SharedT) : He.AlD := He.obsDG 4 fa fn (HandSHeadRun.getT s)
theorem ob_eq (s : PySem.W.SharedT) : ob s = hk.obs s.abs := He.obsDG_eq (HandSHeadRun.getT_eq s)
def loose : List Str := ["tuple_of", "_opened", "_combed", "combed", "alike_by", "_law_box", "_law_take", "_law_cells", "_law_same", "_law_lists", "_law_of", "_law_tree", "_law_spots", "_law_is_two", "_law_moved", "_law_all_moved", "_law_turned", "_law_bent", "_law_right", "_law_by_hand_right"]
theorem run (w : World) : HandSHeadRun.RunEq R (PySem.W.view R.prog [23]) hk ob 4000 loose w := by
  intro os
  kernel_rfl
end K37

set_option Elab.async false
set_option linter.all false
set_option maxRecDepth 100000
set_option maxHeartbeats 4000000
/-! Data in the abstract heap; TERMS and VALUES as data. -/
namespace K37
open PySem PySem.Spec PyProof.Rows L2

mutual
/-- the value v stands in H for the datum d -/
def At (H : Hp) : PyData → V → Prop
  | .none, v => v = .non
  | .bool b, v => v = .bl b
  | .int i, v => v = .int i
  | .str x, v => v = .str x
  | .list ds, v => ∃ a xs, v = .ref a ∧ H a = some (.lst xs) ∧ AtL H ds xs
  | .tuple ds, v => ∃ a xs, v = .ref a ∧ H a = some (.tup xs) ∧ AtL H ds xs
  | .dict _, _ => False
def AtL (H : Hp) : List PyData → List V → Prop
  | [], vs => vs = []
  | d :: ds, vs => ∃ v r, vs = v :: r ∧ At H d v ∧ AtL H ds r
end
mutual
theorem At.same {H H' : Hp} (s : Same H H') : ∀ (d : PyData) (v : V), At H d v → At H' d v
  | .none, v, h => by rw [At] at h ⊢; exact h
  | .bool b, v, h => by rw [At] at h ⊢; exact h
  | .int i, v, h => by rw [At] at h ⊢; exact h
  | .str x, v, h => by rw [At] at h ⊢; exact h
  | .list ds, v, h => by
    rw [At] at h ⊢
    obtain ⟨a, xs, e, h1, h2⟩ := h
    exact ⟨a, xs, e, s _ _ h1, AtL.same s ds xs h2⟩
  | .tuple ds, v, h => by
    rw [At] at h ⊢
    obtain ⟨a, xs, e, h1, h2⟩ := h
    exact ⟨a, xs, e, s _ _ h1, AtL.same s ds xs h2⟩
  | .dict _, v, h => by rw [At] at h; exact h.elim
theorem AtL.same {H H' : Hp} (s : Same H H') : ∀ (ds : List PyData) (vs : List V), AtL H ds vs → AtL H' ds vs
  | [], vs, h => by rw [AtL] at h ⊢; exact h
  | d :: ds, vs, h => by
    rw [AtL] at h ⊢
    obtain ⟨v, r, e, h1, h2⟩ := h
    exact ⟨v, r, e, At.same s d v h1, AtL.same s ds r h2⟩
end
mutual
theorem At.dp {K : PySem.W.Frag} {H : Hp} : ∀ (d : PyData) (v : V), At H d v → Dp K H v d
  | .none, v, h => by rw [At] at h; subst h; exact .non
  | .bool b, v, h => by rw [At] at h; subst h; exact .bl b
  | .int i, v, h => by rw [At] at h; subst h; exact .int i
  | .str x, v, h => by rw [At] at h; subst h; exact .str x
  | .list ds, v, h => by
    rw [At] at h
    obtain ⟨a, xs, rfl, h1, h2⟩ := h
    exact .lst (.inl (.inl h1)) (AtL.dp ds xs h2)
  | .tuple ds, v, h => by
    rw [At] at h
    obtain ⟨a, xs, rfl, h1, h2⟩ := h
    exact .tup (.inl (.inl h1)) (AtL.dp ds xs h2)
  | .dict _, v, h => by rw [At] at h; exact h.elim
theorem AtL.dp {K : PySem.W.Frag} {H : Hp} : ∀ (ds : List PyData) (vs : List V), AtL H ds vs → DpAll K H vs ds
  | [], vs, h => by rw [AtL] at h; subst h; exact .nil
  | d :: ds, vs, h => by
    rw [AtL] at h
    obtain ⟨v, r, rfl, h1, h2⟩ := h
    exact .cons (At.dp d v h1) (AtL.dp ds r h2)
end
section
variable {H H' : Hp}
theorem AtL.length : ∀ {ds : List PyData} {vs : List V}, AtL H ds vs → vs.length = ds.length
  | [], vs, h => by rw [AtL] at h; subst h; rfl
  | d :: ds, vs, h => by
    rw [AtL] at h
    obtain ⟨v, r, rfl, _, h2⟩ := h
    rw [List.length_cons, List.length_cons, AtL.length h2]
theorem AtL.nil : AtL H [] [] := by rw [AtL]
theorem AtL.cons {d : PyData} {ds : List PyData} {v : V} {vs : List V} (h : At H d v) (t : AtL H ds vs) : AtL H (d :: ds) (v :: vs) := by
  rw [AtL]
  exact ⟨v, vs, rfl, h, t⟩
theorem AtL.get : ∀ {ds : List PyData} {vs : List V} {i : Nat} {v : V}, AtL H ds vs → vs[i]? = some v → ∃ d, ds[i]? = some d ∧ At H d v
  | [], vs, i, v, h, e => by rw [AtL] at h; subst h; simp at e
  | d :: ds, vs, i, v, h, e => by
    rw [AtL] at h
    obtain ⟨u, r, rfl, h1, h2⟩ := h
    cases i with
    | zero =>
      have q : u = v := by simpa using e
      subst q
      exact ⟨d, by simp, h1⟩
    | succ i =>
      obtain ⟨x, q1, q2⟩ := AtL.get (i := i) (v := v) h2 (by simpa using e)
      exact ⟨x, by simpa using q1, q2⟩
theorem AtL.get' : ∀ {ds : List PyData} {vs : List V} {i : Nat} {d : PyData}, AtL H ds vs → ds[i]? = some d → ∃ v, vs[i]? = some v ∧ At H d v
  | [], vs, i, d, h, e => by simp at e
  | c :: ds, vs, i, d, h, e => by
    rw [AtL] at h
    obtain ⟨u, r, rfl, h1, h2⟩ := h
    cases i with
    | zero =>
      have q : c = d := by simpa using e
      subst q
      exact ⟨u, by simp, h1⟩
    | succ i =>
      obtain ⟨x, q1, q2⟩ := AtL.get' (i := i) (d := d) h2 (by simpa using e)
      exact ⟨x, by simpa using q1, q2⟩
theorem AtL.append : ∀ {ds es : List PyData} {vs ws : List V}, AtL H ds vs → AtL H es ws → AtL H (ds ++ es) (vs ++ ws)
  | [], es, vs, ws, h, h' => by rw [AtL] at h; subst h; exact h'
  | d :: ds, es, vs, ws, h, h' => by
    rw [AtL] at h
    obtain ⟨u, r, rfl, h1, h2⟩ := h
    exact AtL.cons h1 (AtL.append h2 h')
theorem AtL.take : ∀ {ds : List PyData} {vs : List V} (n : Nat), AtL H ds vs → AtL H (ds.take n) (vs.take n)
  | _, _, 0, _ => by rw [List.take_zero, List.take_zero]; exact AtL.nil
  | [], vs, n + 1, h => by rw [AtL] at h; subst h; exact AtL.nil
  | d :: ds, vs, n + 1, h => by
    rw [AtL] at h
    obtain ⟨u, r, rfl, h1, h2⟩ := h
    exact AtL.cons h1 (AtL.take n h2)
theorem AtL.drop : ∀ {ds : List PyData} {vs : List V} (n : Nat), AtL H ds vs → AtL H (ds.drop n) (vs.drop n)
  | _, _, 0, h => h
  | [], vs, n + 1, h => by rw [AtL] at h; subst h; exact AtL.nil
  | d :: ds, vs, n + 1, h => by
    rw [AtL] at h
    obtain ⟨u, r, rfl, h1, h2⟩ := h
    exact AtL.drop n h2
theorem AtL.reverse : ∀ {ds : List PyData} {vs : List V}, AtL H ds vs → AtL H ds.reverse vs.reverse
  | [], vs, h => by rw [AtL] at h; subst h; exact AtL.nil
  | d :: ds, vs, h => by
    rw [AtL] at h
    obtain ⟨u, r, rfl, h1, h2⟩ := h
    simp only [List.reverse_cons]
    exact AtL.append (AtL.reverse h2) (AtL.cons h1 AtL.nil)
end

mutual
/-- tuples alone, no list -/
def tupD : PyData → Prop
  | .none | .bool _ | .int _ | .str _ => True
  | .list _ | .dict _ => False
  | .tuple ds => tupDs ds
def tupDs : List PyData → Prop
  | [] => True
  | d :: ds => tupD d ∧ tupDs ds
end
/-- all tuples stay -/
def Tups (H H' : Hp) : Prop := ∀ b xs, H b = some (.tup xs) → H' b = some (.tup xs)
theorem Same.tups {H H' : Hp} (s : Same H H') : Tups H H' := fun _ _ e => s _ _ e
mutual
theorem At.tups {H H' : Hp} (s : Tups H H') : ∀ (d : PyData) (v : V), tupD d → At H d v → At H' d v
  | .none, v, _, h => by rw [At] at h ⊢; exact h
  | .bool b, v, _, h => by rw [At] at h ⊢; exact h
  | .int i, v, _, h => by rw [At] at h ⊢; exact h
  | .str x, v, _, h => by rw [At] at h ⊢; exact h
  | .list ds, v, t, h => by rw [tupD] at t; exact t.elim
  | .tuple ds, v, t, h => by
    rw [At] at h ⊢
    rw [tupD] at t
    obtain ⟨a, xs, e, h1, h2⟩ := h
    exact ⟨a, xs, e, s _ _ h1, AtL.tups s ds xs t h2⟩
  | .dict _, v, _, h => by rw [At] at h; exact h.elim
theorem AtL.tups {H H' : Hp} (s : Tups H H') : ∀ (ds : List PyData) (vs : List V), tupDs ds → AtL H ds vs → AtL H' ds vs
  | [], vs, _, h => by rw [AtL] at h ⊢; exact h
  | d :: ds, vs, t, h => by
    rw [AtL] at h ⊢
    rw [tupDs] at t
    obtain ⟨v, r, e, h1, h2⟩ := h
    exact ⟨v, r, e, At.tups s d v t.1 h1, AtL.tups s ds r t.2 h2⟩
end

/-! ### TERMS and VALUES as data -/
def encF : Lf → PyData
  | .thing k => .tuple [.str "thing", .int k]
  | .at w => .tuple [.str "at", .tuple (w.map .int)]
  | .call => .tuple [.str "call", .int 0, .tuple [.int 0]]
mutual
def enc : Tr → PyData
  | .leaf l => encF l
  | .node m ks => .tuple [.str "make", .int m, .tuple (encs ks)]
def encs : List Tr → List PyData
  | [] => []
  | k :: ks => enc k :: encs ks
end
theorem encs_map : ∀ ks, encs ks = ks.map enc
  | [] => rfl
  | k :: ks => by rw [encs, encs_map ks]; rfl
theorem tupDs_ints : ∀ w : List Int, tupDs (w.map .int)
  | [] => trivial
  | i :: w => ⟨trivial, tupDs_ints w⟩
theorem tupDs_of : ∀ {ds : List PyData}, (∀ d ∈ ds, tupD d) → tupDs ds
  | [], _ => trivial
  | d :: ds, h => ⟨h d (by simp), tupDs_of fun c hc => h c (List.mem_cons_of_mem _ hc)⟩
theorem tupD_encF : ∀ l, tupD (encF l)
  | .thing k => ⟨trivial, trivial, trivial⟩
  | .at w => ⟨trivial, tupDs_ints w, trivial⟩
  | .call => ⟨trivial, trivial, ⟨trivial, trivial⟩, trivial⟩
theorem tupD_enc : ∀ t, tupD (enc t) := by
  refine Tr.ind (fun l => by rw [enc]; exact tupD_encF l) fun m ks ih => ?_
  rw [enc]
  refine ⟨trivial, trivial, ?_, trivial⟩
  show tupDs (encs ks)
  rw [encs_map]
  refine tupDs_of fun d hd => ?_
  obtain ⟨c, hc, rfl⟩ := List.mem_map.mp hd
  exact ih c hc
/-- v stands in H for the TERM or VALUE t -/
def TAt (H : Hp) (t : Tr) (v : V) : Prop := At H (enc t) v
def TAtL (H : Hp) (ts : List Tr) (vs : List V) : Prop := AtL H (ts.map enc) vs
section
variable {H H' : Hp}
theorem TAt.tups {t : Tr} {v : V} (h : TAt H t v) (s : Tups H H') : TAt H' t v := At.tups s _ _ (tupD_enc t) h
theorem TAtL.tups {ts : List Tr} {vs : List V} (h : TAtL H ts vs) (s : Tups H H') : TAtL H' ts vs := AtL.tups s _ _ (tupDs_of fun d hd => by
  obtain ⟨c, _, rfl⟩ := List.mem_map.mp hd
  exact tupD_enc c) h
theorem TAt.same {t : Tr} {v : V} (h : TAt H t v) (s : Same H H') : TAt H' t v := h.tups (Same.tups s)
theorem TAtL.same {ts : List Tr} {vs : List V} (h : TAtL H ts vs) (s : Same H H') : TAtL H' ts vs := h.tups (Same.tups s)
/-- a making -/
theorem TAt.node {m : Int} {ks : List Tr} {v : V} : TAt H (.node m ks) v ↔ ∃ a b xs, v = .ref a ∧ H a = some (.tup [.str "make", .int m, .ref b]) ∧ H b = some (.tup xs) ∧ TAtL H ks xs := by
  constructor
  · intro h
    unfold TAt at h
    rw [enc, encs_map, At] at h
    obtain ⟨a, xs, rfl, h1, h2⟩ := h
    rw [AtL] at h2
    obtain ⟨v1, r1, rfl, q1, h2⟩ := h2
    rw [AtL] at h2
    obtain ⟨v2, r2, rfl, q2, h2⟩ := h2
    rw [AtL] at h2
    obtain ⟨v3, r3, rfl, q3, h2⟩ := h2
    rw [AtL] at h2
    subst h2
    rw [At] at q1
    rw [At] at q2
    rw [At] at q3
    obtain ⟨b, ys, rfl, g1, g2⟩ := q3
    subst q1 q2
    exact ⟨a, b, ys, rfl, h1, g1, g2⟩
  · rintro ⟨a, b, xs, rfl, h1, h2, h3⟩
    unfold TAt
    rw [enc, encs_map, At]
    refine ⟨a, _, rfl, h1, AtL.cons (by rw [At]) (AtL.cons (by rw [At]) (AtL.cons ?_ AtL.nil))⟩
    rw [At]
    exact ⟨b, xs, rfl, h2, h3⟩
/-- how a leaf begins -/
def headF : Lf → Str
  | .thing _ => "thing"
  | .at _ => "at"
  | .call => "call"
theorem TAt.leaf {l : Lf} {v : V} (h : TAt H (.leaf l) v) : ∃ a r, v = .ref a ∧ H a = some (.tup (.str (headF l) :: r)) := by
  unfold TAt at h
  rw [enc] at h
  cases l with
  | thing k =>
    rw [encF, At] at h
    obtain ⟨a, xs, rfl, h1, h2⟩ := h
    rw [AtL] at h2
    obtain ⟨v1, r1, rfl, q1, h2⟩ := h2
    rw [At] at q1
    subst q1
    exact ⟨a, r1, rfl, h1⟩
  | «at» w =>
    rw [encF, At] at h
    obtain ⟨a, xs, rfl, h1, h2⟩ := h
    rw [AtL] at h2
    obtain ⟨v1, r1, rfl, q1, h2⟩ := h2
    rw [At] at q1
    subst q1
    exact ⟨a, r1, rfl, h1⟩
  | call =>
    rw [encF, At] at h
    obtain ⟨a, xs, rfl, h1, h2⟩ := h
    rw [AtL] at h2
    obtain ⟨v1, r1, rfl, q1, h2⟩ := h2
    rw [At] at q1
    subst q1
    exact ⟨a, r1, rfl, h1⟩
theorem headF_ne (l : Lf) : (headF l == ("make" : Str)) = false := by
  cases l with
  | thing k => show (("thing" : Str) == "make") = false; decide +kernel
  | «at» k => show (("at" : Str) == "make") = false; decide +kernel
  | call => show (("call" : Str) == "make") = false; decide +kernel
theorem TAtL.length {ts : List Tr} {vs : List V} (h : TAtL H ts vs) : vs.length = ts.length := by
  rw [AtL.length h, List.length_map]
theorem TAtL.get {ts : List Tr} {vs : List V} {i : Nat} {v : V} (h : TAtL H ts vs) (e : vs[i]? = some v) : ∃ t, ts[i]? = some t ∧ TAt H t v := by
  obtain ⟨d, e1, h1⟩ := AtL.get h e
  rw [List.getElem?_map] at e1
  obtain ⟨t, e2, rfl⟩ := Option.map_eq_some_iff.mp e1
  exact ⟨t, e2, h1⟩
theorem TAtL.get' {ts : List Tr} {vs : List V} {i : Nat} {t : Tr} (h : TAtL H ts vs) (e : ts[i]? = some t) : ∃ v, vs[i]? = some v ∧ TAt H t v :=
  AtL.get' h (by rw [List.getElem?_map, e]; rfl)
theorem TAtL.nil : TAtL H [] [] := AtL.nil
theorem TAtL.cons {t : Tr} {ts : List Tr} {v : V} {vs : List V} (h : TAt H t v) (r : TAtL H ts vs) : TAtL H (t :: ts) (v :: vs) := AtL.cons h r
theorem TAtL.append {ts us : List Tr} {vs ws : List V} (h : TAtL H ts vs) (h' : TAtL H us ws) : TAtL H (ts ++ us) (vs ++ ws) := by
  unfold TAtL
  rw [List.map_append]
  exact AtL.append h h'
theorem TAtL.reverse {ts : List Tr} {vs : List V} (h : TAtL H ts vs) : TAtL H ts.reverse vs.reverse := by
  unfold TAtL
  rw [List.map_reverse]
  exact AtL.reverse h
theorem TAtL.take {ts : List Tr} {vs : List V} (n : Nat) (h : TAtL H ts vs) : TAtL H (ts.take n) (vs.take n) := by
  unfold TAtL
  rw [List.map_take]
  exact AtL.take n h
theorem TAtL.drop {ts : List Tr} {vs : List V} (n : Nat) (h : TAtL H ts vs) : TAtL H (ts.drop n) (vs.drop n) := by
  unfold TAtL
  rw [List.map_drop]
  exact AtL.drop n h
theorem TAtL.inv1 {t : Tr} {vs : List V} (h : TAtL H [t] vs) : ∃ v, vs = [v] ∧ TAt H t v := by
  unfold TAtL at h
  rw [List.map_cons, AtL] at h
  obtain ⟨v, r, rfl, h1, h2⟩ := h
  rw [List.map_nil, AtL] at h2
  subst h2
  exact ⟨v, rfl, h1⟩
theorem TAtL.inv {t : Tr} {ts : List Tr} {vs : List V} (h : TAtL H (t :: ts) vs) : ∃ v r, vs = v :: r ∧ TAt H t v ∧ TAtL H ts r := by
  unfold TAtL at h
  rw [List.map_cons, AtL] at h
  exact h
theorem TAtL.inv2 {t u : Tr} {vs : List V} (h : TAtL H [t, u] vs) : ∃ v w, vs = [v, w] ∧ TAt H t v ∧ TAt H u w := by
  obtain ⟨v, r, rfl, h1, h2⟩ := h.inv
  obtain ⟨w, rfl, h3⟩ := h2.inv1
  exact ⟨v, w, rfl, h1, h3⟩
end

/-! ### heaps -/
theorem same_new {H : Hp} {p : Addr} (h : H p = none) (o : HO) : Same H (upd H p o) := fun b u q => by rw [upd_ne (ne_of_none q h)]; exact q
/-- all but what stands at a -/
def But (a : Addr) (H H' : Hp) : Prop := ∀ b o, b ≠ a → H b = some o → H' b = some o
theorem But.refl (a : Addr) (H : Hp) : But a H H := fun _ _ _ e => e
theorem But.trans {a : Addr} {H H1 H2 : Hp} (x : But a H H1) (y : But a H1 H2) : But a H H2 := fun b o n e => y b o n (x b o n e)
theorem Same.but {H H' : Hp} (s : Same H H') (a : Addr) : But a H H' := fun b o _ e => s b o e
theorem But.upd {a : Addr} {H : Hp} (o : HO) : But a H (upd H a o) := fun b u n e => by rw [upd_ne n]; exact e
theorem But.tups {a : Addr} {H H' : Hp} {xs : List V} (s : But a H H') (h : H a = some (.lst xs)) : Tups H H' := fun b ys e => s b _ (fun q => by
  rw [q, h] at e
  cases e) e
end K37

set_option Elab.async false
set_option linter.all false
set_option maxRecDepth 100000
set_option maxHeartbeats 4000000
/-! Rules that this law wants beside the layer's: row[-2::-1], enumerate of a tuple, == of deeper data. -/
namespace K37
open PySem PySem.Spec PyProof.Rows L2

/-! ### row[-2::-1] -/
theorem pick_back (items : Array Value) (h : 1 ≤ items.size) : slicePick items (some (-2)) none (some (-1)) = items.toList.dropLast.reverse.toArray := by
  have e : sliceBounds (some (-2)) none (some (-1)) items.size = (((items.size - 1 : Nat) : Int) - 1, -1, -1) := by
    unfold sliceBounds
    simp only [Option.getD_some]
    refine Prod.ext ?_ rfl
    show max (-1) (min (-2 + (items.size : Int)) ((items.size : Int) - 1)) = ((items.size - 1 : Nat) : Int) - 1
    omega
  have r := pick_run items 0 (items.size - 1)
  rw [show ((0 + ·) : Nat → Nat) = id from funext fun k => Nat.zero_add k, List.map_id, List.drop_zero] at r
  unfold slicePick
  rw [e]
  show (List.filterMap (fun x => items[x]?) (sliceRange (((items.size - 1 : Nat) : Int) - 1) (-1) (-1))).toArray = _
  rw [PySem.W.krv_sliceRange, PySem.W.krv_range, List.filterMap_reverse, r, List.dropLast_eq_take, Array.length_toList]
def tBack (K : PySem.W.Frag) (te : TE) : TE := fun σ H Q => te σ H fun x H1 => ∃ a xs, x = .ref a ∧ SqL K H1 a xs ∧ 1 ≤ xs.length ∧ ∀ p, H1 p = none → Q (.ref p) (upd H1 p (.lst xs.dropLast.reverse))
theorem pe_back {X : Cx} {e : Expr} {te : TE} {k k' : Nat} {p1 p2 p4 p5 p3 pos : Pos} (he : PE X e te) :
    PE X (.Subscript e (.Slice (some (.UnaryOp .USub (.Constant (.int 2) k' p4) p5)) none (some (.UnaryOp .USub (.Constant (.int 1) k p1) p2)) p3) pos) (tBack X.K te) := by
  have one : PO X (some (.UnaryOp .USub (.Constant (.int 1) k p1) p2)) (tPart (tUn (rU fun i => .int (-i)) (tC (.int 1)))) := po_some (pe_un un_neg pe_int)
  have twoP : PO X (some (.UnaryOp .USub (.Constant (.int 2) k' p4) p5)) (tPart (tUn (rU fun i => .int (-i)) (tC (.int 2)))) := po_some (pe_un un_neg pe_int)
  constructor
  intro pins u0 σ G0 R J0 rd
  refine Subscript_ (thn (he.run pins u0 σ G0 _ J0 rd) fun lv u1 got => ?_)
  obtain ⟨x, G1, J1, rx, a, xs, ex, hx, hl, q⟩ := got
  subst ex
  cases rx
  refine wpAny_Slice (thn (twoP.run pins u1 σ G1 (fun o G => o = some (-2) ∧ G = G1) J1 ⟨2, rfl, -2, rfl, rfl, rfl⟩) fun vl u2 got2 => ?_)
  obtain ⟨o2, G2, J2, pl, rfl, rfl⟩ := got2
  refine thn (po_none.run pins u2 σ G2 (fun o G => o = none ∧ G = G2) J2 ⟨rfl, rfl⟩) fun vu u3 got3 => ?_
  obtain ⟨o3, G3, J3, pu, rfl, rfl⟩ := got3
  refine thn (one.run pins u3 σ G3 (fun o G => o = some (-1) ∧ G = G3) J3 ⟨1, rfl, -1, rfl, rfl, rfl⟩) fun vs u4 got4 => ?_
  obtain ⟨o4, G4, J4, ps, rfl, rfl⟩ := got4
  have J : Inv X pins σ G4 { u4 with heap := u4.heap.push { cls := .type "slice", data := .fields #[vl, vu, vs] } } := J4.kept (t' := u4.toks) fun _ _ z => Heap.get?_push_of_some _ z
  obtain ⟨its, vals, plain, small⟩ := J.list hx
  have len := vals.length
  have low : 1 ≤ its.toArray.size := by rw [List.size_toArray]; omega
  have high : its.toArray.size ≤ sizeLine := by rw [List.size_toArray]; omega
  show wpAny (model X.prog X.w) X.A (subscriptTail e (.Slice (some (.UnaryOp .USub (.Constant (.int 2) k' p4) p5)) none (some (.UnaryOp .USub (.Constant (.int 1) k p1) p2)) p3) (.ref a) (.ref u4.heap.objs.size)) (EP X pins σ R) X.xe { u4 with heap := u4.heap.push { cls := .type "slice", data := .fields #[vl, vu, vs] } }
  refine tail_any (ops := [.ref a, .ref u4.heap.objs.size]) plain.isList.typeIs PySem.slot_list_getitem.lookup ?_ (by with_unfolding_all rfl)
  refine wpAny_getItem_list_slice plain.isList (Heap.IsSliceOf.new _ vl vu vs) pl pu ps (by decide) ?_ high
  rw [pick_back _ low]
  have rev : Vals xs.dropLast.reverse its.dropLast.reverse := by
    rw [List.dropLast_eq_take, List.dropLast_eq_take, len]
    exact (vals.take _).reverse
  have fit : xs.dropLast.reverse.length ≤ sizeLine := by rw [List.length_reverse, List.length_dropLast]; omega
  exact ⟨.ref _, _, J.laid (t' := u4.toks) (o := .lst xs.dropLast.reverse) (fun _ _ z => Heap.get?_push_of_some _ z) (Nat.le_refl _) ⟨fit, _, 0, rev, Heap.get?_push_size _ rfl⟩, rfl, q _ (J.hok.fresh (Nat.le_refl _))⟩

/-! ### for i, x in enumerate(t), t a tuple -/
/-- what enumerate(v) makes: v's iterator o, then itself -/
abbrev enumObj (it : Addr) : Obj := { cls := .type "enumerate", data := .fields #[.none, .bool false, .ref it, rawInt 0, .none, .none] }
set_option maxHeartbeats 4000000 in
theorem enum_new {v : Value} {o : Obj} {G : Heap → Prop} (B : Begins v o G) :
    Meets (Builtin.«enumerate.__new__» ⟨[.type "enumerate", v], []⟩) (fun _ R s => G s.heap ∧ R (.ok (.ret (.ref (s.heap.push o).objs.size))) { s with heap := (s.heap.push o).push (enumObj s.heap.objs.size) }) := by
  refine .of_wp fun prog w A R st0 hyp => ?_
  obtain ⟨hp0, gens0, drawn0, toks0, os0⟩ := st0
  obtain ⟨g1, fin⟩ := hyp
  have sub := sub_enumerate
  have it1 : ∀ {A' : Around} {E : Value → Shared → Prop} {Q : Value → Shared → Prop}, Q (.ref hp0.objs.size) ⟨hp0.push o, gens0, drawn0, toks0, os0⟩ → wpAny (model prog w) A' (pyIter v) Q E ⟨hp0, gens0, drawn0, toks0, os0⟩ :=
    fun q => B.iter prog w _ _ ⟨hp0, gens0, drawn0, toks0, os0⟩ _ g1 q
  wp_walk using it1
  refine wpAny_stack_any fun _ => wpAny_pure ?_
  split
  · rename_i cl _ _ _ _ _
    cases (cl == Value.type "enumerate") <;> (wp_walk using it1; exact ⟨_, rfl, fin⟩)
  · wp_walk using it1
    exact ⟨_, rfl, fin⟩
theorem enum_call {prog : Program} {w : World} {A : Around} {E : Value → Shared → Prop} {s : Shared} {v : Value} {o : Obj} {G : Heap → Prop} {Q : Value → Shared → Prop} (B : Begins v o G) (g1 : G s.heap)
    (fin : ∀ h', IsEnum h' (s.heap.objs.size + 1) s.heap.objs.size 0 .none → h'.get? s.heap.objs.size = some o → (∀ b u, s.heap.get? b = some u → h'.get? b = some u) → Q (.ref (s.heap.objs.size + 1)) { s with heap := h' }) :
    wpAny (model prog w) A (call (.type "enumerate") [v]) Q E s := by
  have size1 : (s.heap.push o).objs.size = s.heap.objs.size + 1 := Heap.size_push ..
  have at1 : IsEnum ((s.heap.push o).push (enumObj s.heap.objs.size)) (s.heap.objs.size + 1) s.heap.objs.size 0 .none := by
    have z := Heap.get?_push_size (s.heap.push o) (o := enumObj s.heap.objs.size) rfl
    rw [size1] at z
    exact z
  refine callType_new F.called_enumerate (by decide) (F.typeCall_enumerate_1 _) (F.newCall_enumerate_1 _) (fun obj => F.args_object_init_2 obj _) F.entry_enumerate_new (enum_new B) ⟨g1, ?_⟩
  show _ ∧ _
  rw [size1]
  exact ⟨⟨_, at1, rfl⟩, fin _ at1 (Heap.get?_push_of_some _ (Heap.get?_push_size _ B.free)) fun _ _ z => Heap.get?_push_of_some _ (Heap.get?_push_of_some _ z)⟩
/-- the tuple at a, each item in a new pair with its place -/
def ItE (K : PySem.W.Frag) (a : Addr) : It where
  go := fun i H => ∃ (xs : List V) (x : V), SqT K H a xs ∧ xs[i]? = some x
  yld := fun i H v H' => ∃ T x, v = .ref T ∧ H T = none ∧ H' = upd H T (.tup [.int (i : Nat), x]) ∧ ∀ xs, SqT K H a xs → xs[i]? = some x
  stop := fun i H => ∃ xs : List V, SqT K H a xs ∧ xs.length ≤ i
theorem turn_enumT {P : Program} {w : World} {K : PySem.W.Frag} {elts : List Expr} {kk : Nat} {tpos : Pos} (a e it : Addr) (hai : a ≠ it) (hae : a ≠ e) (hne : e ≠ it) :
    Turn P w K (.Tuple elts kk tpos) (ItE K a) [e, it] e (fun i h => (∃ old, IsEnum h e it ((i : Nat) : Int) old) ∧ h.IsTupleIter it a i) where
  mem := List.mem_cons_self
  obj := by
    rintro i h ⟨⟨old, en⟩, ⟨ob, eo, _, ed⟩⟩ b hb
    rcases (show b = e ∨ b = it by simpa using hb) with rfl | rfl
    · exact ⟨_, en, fun _ z => nomatch z⟩
    · exact ⟨ob, eo, fun _ z => by rw [ed] at z; cases z⟩
  keep := fun i h h' st kp => ⟨⟨st.1.choose, kp e (by simp) _ st.1.choose_spec⟩, st.2.at fun ob z => kp it (by simp) ob z⟩
  item := by
    intro X eP eW eK calm i pins u σ G En I fp st go
    subst eP eW eK
    obtain ⟨⟨old, en⟩, ti⟩ := st
    obtain ⟨xs, x, sq, ex⟩ := go
    obtain ⟨its, vals, tp, _⟩ := I.tuple sq
    obtain ⟨y0, ey0, ry0⟩ := vals.get ex
    have small : i < its.toArray.size := by
      rw [List.size_toArray]
      exact (List.getElem?_eq_some_iff.mp ey0).1
    have lte : e < u.heap.objs.size := Heap.lt_size en
    have lti : it < u.heap.objs.size := by obtain ⟨_, z, _⟩ := ti; exact Heap.lt_size z
    refine wpAny_pyNext_enum_itemC (Draws.tuple (prog := X.prog) (w := X.w) (A := X.A.in1) (I.ok.hd calm) it a hai its.toArray) en ⟨ti, tp⟩ small hne (by simp [hne, Ne.symm hae]) fun y g' tk py out st' pair _ kp => ?_
    have ey : y0 = y := by
      have z : its[i]? = some y := by simpa using py
      exact Option.some.inj (ey0.symm.trans z)
    subst ey
    refine ⟨_, rfl, wpAny_letOwnedTupleGo_enum (s := { u with heap := g', toks := tk + 1 }) out fun g2 en2 sb => ?_⟩
    have pair2 : g2.get? u.heap.objs.size = some { cls := .type "tuple", data := .seq #[.int i tk, y0] } := (sb.2 _ (Nat.ne_of_gt lte)).trans pair
    have J : Inv X pins σ (upd G u.heap.objs.size (.tup [.int (i : Nat), x])) { u with heap := g2, toks := tk + 1 } := by
      refine I.turnedNew (ch := [e, it]) (fun b ob nb z => (sb.2 b fun q => nb (by simp [q])).trans (kp b ob (fun q => nb (by simp [q])) (fun q => nb (by simp [q])) z)) fp (Nat.le_refl _) ?_
      exact ⟨by show 2 ≤ sizeLine; decide, [.int i tk, y0], .cons ⟨_, rfl⟩ (.cons ry0 .nil), ⟨_, pair2, rfl, _, rfl⟩⟩
    refine ⟨.ref u.heap.objs.size, _, J, rfl, ⟨_, x, rfl, I.hok.fresh (Nat.le_refl _), rfl, fun ys sy => by rw [I.tuple_inj sy sq]; exact ex⟩, ⟨⟨y0, ?_⟩, st'.1.at fun ob z => (sb.2 it (Ne.symm hne)).trans z⟩, fun b hb => ?_⟩
    · rw [show ((i + 1 : Nat) : Int) = (i : Int) + 1 by omega]
      exact en2
    · have lb : b ≠ u.heap.objs.size := by
        rcases (show b = e ∨ b = it by simpa using hb) with rfl | rfl
        · exact Nat.ne_of_lt lte
        · exact Nat.ne_of_lt lti
      rw [upd_ne lb]
      exact (fp b hb).1
  done := by
    intro X eP eW eK calm i pins u σ G En I fp st stop
    subst eP eW eK
    obtain ⟨⟨old, en⟩, ti⟩ := st
    obtain ⟨xs, sq, le⟩ := stop
    obtain ⟨its, vals, tp, _⟩ := I.tuple sq
    obtain ⟨c0, c1, _, c3, c4, c5⟩ := fp it (by simp)
    have len := vals.length
    have ty : u.TypeIs (.ref e) "enumerate" := ⟨_, en, rfl⟩
    unfold pyNext
    refine wpAny_bind (wpAny_attempt (wpAny_callSpecial?_slot (name := Str.ofString "__next__") ty F.slot_enumerate_next (wpAny_call_entry F.slot_enumerate_next ty F.entry_enumerate_next ?_ (F.args_enumerate_next_1 _))))
    show wpAny _ _ (field (.ref e) 2 >>= fun _ => _) _ _ _
    refine wpAny_bind (wpAny_field (x := .ref it) en rfl rfl ?_)
    refine wpAny_bind (wpAny_nextOf_tuple_end (I.ok.hd calm) ti (show u.heap.IsTuple a its.toArray from tp) (by simp; omega) fun g' x eb stopIt => ?_)
    obtain ⟨ob, eo, co⟩ := stopIt
    refine wpAny_bind (wpAny_isInstance (T := "StopIteration") (b := true) ⟨ob, eo, co⟩ isSubtype_stop ?_)
    exact wpAny_pure ⟨rfl, I.turned (t' := u.toks) (fun b ob nb z => eb b ob nb z) c0 c1 c3 c4 c5⟩
  self := fun A i s Q E st h => wpAny_pyIter_enum st.1.choose_spec h
def iEnumT (K : PySem.W.Frag) (ta : TA) : TI := fun σ H R => ta σ H fun vs H1 => ∃ a xs, vs = [.ref a] ∧ SqT K H1 a xs ∧ R (ItE K a) H1
theorem pi_enumT {X : Cx} {e : Expr} {ta : TA} {p pos tpos : Pos} {elts : List Expr} {kk : Nat} (hg : Gl X "enumerate") (hm : X.mg "enumerate" = none) (ha : PA X [e] ta) (hs : starEach [e] X.env = [(false, eval e X.env)] := by rfl) :
    PI X (.Tuple elts kk tpos) (.Call (.Name "enumerate" p) [e] [] pos) (iEnumT X.K ta) := by
  constructor
  intro pins u σ G R I rd
  refine Call_ (ld_blt I hg hm boot_enumerate (PyProof.Rows.callWith_type1 (thn (ha.run pos pins u σ G _ I rd) fun args u1 got => ?_) hs rfl))
  obtain ⟨vs, G1, I1, ra, a, xs, ev, sq, q⟩ := got
  subst ev
  cases ra with
  | cons r0 rr =>
    cases rr
    cases r0
    obtain ⟨its, _, tp, _⟩ := I1.tuple sq
    have lta : a < u1.heap.objs.size := tp.lt
    refine enum_call (begins_tuple a its.toArray) (show u1.heap.IsTuple a its.toArray from tp) fun g' en ti kp => wpAny_pyIter_enum en ?_
    have J : Inv X pins σ G1 { u1 with heap := g' } := I1.kept (t' := u1.toks) kp
    refine ⟨u1.heap.objs.size + 1, [u1.heap.objs.size + 1, u1.heap.objs.size], _, _, G1, rfl, J, turn_enumT a (u1.heap.objs.size + 1) u1.heap.objs.size (Nat.ne_of_lt lta) (Nat.ne_of_lt (Nat.lt_succ_of_lt lta)) (Nat.succ_ne_self _), ⟨⟨.none, en⟩, _, ti, rfl, rfl⟩, fun b hb => ?_, q⟩
    have above : u1.heap.objs.size ≤ b := by
      rcases (show b = u1.heap.objs.size + 1 ∨ b = u1.heap.objs.size by simpa using hb) with rfl | rfl
      · exact Nat.le_succ _
      · exact Nat.le_refl _
    exact I1.fpOk above (I1.hok.fresh above)
theorem walk_enumT {K : PySem.W.Frag} {a : Addr} {xs : List V} : Walk (ItE K a) xs.length (fun H => SqT K H a xs) (YPair (fun i => some (.int (i : Nat))) (fun i => xs[i]?)) where
  goes := fun i _ lt sq => ⟨xs, xs[i], sq, List.getElem?_eq_getElem lt⟩
  stops := fun _ sq => ⟨xs, sq, Nat.le_refl _⟩
  yields := by
    rintro i H v H' _ sq ⟨T, x, ev, eT, eH, at_⟩
    exact ⟨T, _, x, ev, eT, eH, rfl, at_ xs sq⟩

/-! ### zip of two tuples as a walk -/
theorem walk_zipT {K : PySem.W.Frag} {a b : Addr} {xs ys : List V} {n : Nat} (hn : n = min xs.length ys.length) : Walk (RZ.ItzT K a b) n (fun H => SqT K H a xs ∧ SqT K H b ys) (YPair (fun i => xs[i]?) (fun i => ys[i]?)) where
  goes := by
    intro i H lt sq
    have lx : i < xs.length := Nat.lt_of_lt_of_le (hn ▸ lt) (Nat.min_le_left _ _)
    have ly : i < ys.length := Nat.lt_of_lt_of_le (hn ▸ lt) (Nat.min_le_right _ _)
    exact ⟨xs, ys, _, _, sq.1, sq.2, List.getElem?_eq_getElem lx, List.getElem?_eq_getElem ly⟩
  stops := fun H sq => ⟨xs, ys, sq.1, sq.2, by omega⟩
  yields := by
    rintro i H v H' _ sq ⟨T, x, y, ev, eT, eH, atx, aty⟩
    exact ⟨T, x, y, ev, eT, eH, atx xs sq.1, aty ys sq.2⟩

/-! ### == and != of data up to 200 levels -/
def eqR (n : Bool) : R2 := fun x y H Q => ∃ d e, At H d x ∧ At H e y ∧ d.canLay0 = true ∧ e.canLay0 = true ∧ d.depth ≤ 200 ∧ Q (.bl (n ^^ PyData.eqv d e)) H
theorem op_eqA {X : Cx} {k : Nat} (hr : Room k X.A) : OpR X (compareOp .Eq) (eqR false) := by
  intro pins s σ H x y v u Q I rx ry rd
  obtain ⟨d, e, hd, he, sd, se, hn, q⟩ := rd
  obtain ⟨as, r1⟩ := Dp.reads I d x v (At.dp d x hd) rx
  obtain ⟨bs, r2⟩ := Dp.reads I e y u (At.dp e y he) ry
  have room : X.A.units + min d.depth e.depth < cLine := by
    have h1 := hr.un
    have h2 : min d.depth e.depth ≤ d.depth := Nat.min_le_left _ _
    omega
  refine SeqAt.compareEq_reads r1 r2 sd se room ⟨.bl _, H, I, rfl, ?_⟩
  rw [Bool.false_xor] at q
  exact q
theorem op_neA {X : Cx} {k : Nat} (hr : Room k X.A) : OpR X (compareOp .NotEq) (eqR true) := by
  intro pins s σ H x y v u Q I rx ry rd
  obtain ⟨d, e, hd, he, sd, se, hn, q⟩ := rd
  obtain ⟨as, r1⟩ := Dp.reads I d x v (At.dp d x hd) rx
  obtain ⟨bs, r2⟩ := Dp.reads I e y u (At.dp e y he) ry
  have room : X.A.units + min d.depth e.depth < cLine := by
    have h1 := hr.un
    have h2 : min d.depth e.depth ≤ d.depth := Nat.min_le_left _ _
    omega
  refine SeqAt.compareNe_reads r1 r2 sd se room ⟨.bl _, H, I, rfl, ?_⟩
  rw [Bool.true_xor] at q
  exact q
end K37

set_option Elab.async false
set_option linter.all false
set_option maxRecDepth 100000
set_option maxHeartbeats 4000000
/-! What all defs of this law share: a def by its name, comprehensions, isinstance. -/
namespace K37
open PySem PySem.Spec PyProof.Rows L2

/-! ### a def of the text -/
structure Df (K : PySem.W.Frag) (mg : Str → Option Value) (x : Str) (i : Nat) (ps : List Str) where
  f : Addr
  fd : FuncData
  F : FnP K x (top i) f fd
  b : Binds K fd ps []
  m : mg x = some (.ref f)
section
variable {P : Program} {w : World} {K : PySem.W.Frag} {mg : Str → Option Value} {base : Heap}
/-- the def keeps the promise sp, by at most k calls one in another -/
abbrev Kp (P : Program) (w : World) (K : PySem.W.Frag) (mg : Str → Option Value) (base : Heap) {x : Str} {i : Nat} {ps : List Str} (D : Df K mg x i ps) (k : Nat) (sp : Sp) : Prop := FnOk P w K mg base CX0 k D.f D.fd ps sp
theorem Df.ok {x : Str} {i : Nat} {ps N : List Str} {k : Nat} {sp : Sp} (D : Df K mg x i ps) (S : FnScope N ps (defScope (top i))) (len : ∀ vs H Q E, sp vs H Q E → vs.length = ps.length)
    (body : ∀ (cdv : Value) (A : Around) (outer : List Env) (s : Shared) (H : Hp) (vs : List V) (Q : VK) (E : XK), Room k (A.deeper (envOfC x (defScope (top i)) s.heap.objs.size D.f cdv)) → sp vs H Q E →
      ∃ t, PSs (cxOf CX0 P w K mg base N x (defScope (top i)) D.f cdv A outer s H E).nox (defBody (top i)) t ∧ t { nx := fun _ H' => Q .non H', rt := Q } (start N vs) H) : Kp P w K mg base D (k + 1) sp :=
  D.F.ok S len fun cdv A outer s H vs Q E hr h => let ⟨t, h1, h2⟩ := body cdv A outer s H vs Q E hr h; ⟨t, PSs.nox h1, h2⟩
/-- nothing is ever asked -/
theorem kp_none {x : Str} {i : Nat} {ps : List Str} {sp : Sp} (D : Df K mg x i ps) (no : ∀ vs H Q E, ¬ sp vs H Q E) : Kp P w K mg base D 0 sp :=
  ⟨fun vs H Q E h => absurd h (no vs H Q E), fun A outer s H args us vs Q E _ _ _ _ h => absurd h (no vs H Q E)⟩
end
theorem bt_isinstance : bootBuiltins "isinstance" = some (.builtin "isinstance") := by decide +kernel
theorem bt_list : bootBuiltins "list" = some (.type "list") := by decide +kernel
theorem bt_tuple : bootBuiltins "tuple" = some (.type "tuple") := by decide +kernel
theorem bt_bool : bootBuiltins "bool" = some (.type "bool") := by decide +kernel
theorem bt_str : bootBuiltins "str" = some (.type "str") := by decide +kernel
theorem bt_int : bootBuiltins "int" = some (.type "int") := by decide +kernel
theorem bt_len : bootBuiltins "len" = some (.builtin "len") := by decide +kernel
theorem bt_abs : bootBuiltins "abs" = some (.builtin "abs") := by decide +kernel
theorem bt_all : bootBuiltins "all" = some (.builtin "all") := by decide +kernel
/-- the built-in names that the text uses are no names of the module -/
structure Free (mg : Str → Option Value) : Prop where
  isinstance : mg "isinstance" = none
  list : mg "list" = none
  tuple : mg "tuple" = none
  len : mg "len" = none
  abs : mg "abs" = none
  int : mg "int" = none
  enumerate : mg "enumerate" = none
  all : mg "all" = none
  zip : mg "zip" = none
  range : mg "range" = none
  str : mg "str" = none
  bool : mg "bool" = none

/-! ### isinstance -/
def isSeq : PyData → Bool
  | .list _ => true
  | .tuple _ => true
  | _ => false
def tyN : PyData → String
  | .none => "NoneType"
  | .bool _ => "bool"
  | .int _ => "int"
  | .str _ => "str"
  | .list _ => "list"
  | .tuple _ => "tuple"
  | .dict _ => "dict"
theorem tyx {K : PySem.W.Frag} {H : Hp} {d : PyData} {v : V} (h : At H d v) : TyX K H v (.type (tyN d)) := by
  cases d with
  | none => rw [At] at h; subst h; exact .base .non
  | bool b => rw [At] at h; subst h; exact .base (.bl b)
  | int i => rw [At] at h; subst h; exact .base (.int i)
  | str x => rw [At] at h; subst h; exact .base (.str x)
  | list ds => rw [At] at h; obtain ⟨a, xs, rfl, h1, _⟩ := h; exact .base (.lst h1)
  | tuple ds => rw [At] at h; obtain ⟨a, xs, rfl, h1, _⟩ := h; exact .base (.tup h1)
  | dict _ => rw [At] at h; exact h.elim
theorem kit1 {K : PySem.W.Frag} (T c : String) (hT : T = "NoneType" ∨ T = "bool" ∨ T = "int" ∨ T = "str" ∨ T = "list" ∨ T = "tuple") (hc : c = "list" ∨ c = "tuple" ∨ c = "str") : PySem.W.kitOne K (.type T) (.type c) = some (T == c) := by
  refine kit_ty ?_
  rcases hT with rfl | rfl | rfl | rfl | rfl | rfl <;> rcases hc with rfl | rfl | rfl <;> decide +kernel
theorem kitB1 {K : PySem.W.Frag} (T : String) (hT : T = "NoneType" ∨ T = "bool" ∨ T = "int" ∨ T = "str" ∨ T = "list" ∨ T = "tuple") : PySem.W.kitOne K (.type T) (.type "bool") = some (T == "bool") := by
  refine kit_ty ?_
  rcases hT with rfl | rfl | rfl | rfl | rfl | rfl <;> decide +kernel
theorem kitI1 {K : PySem.W.Frag} (T : String) (hT : T = "NoneType" ∨ T = "bool" ∨ T = "int" ∨ T = "str" ∨ T = "list" ∨ T = "tuple") : PySem.W.kitOne K (.type T) (.type "int") = some (T == "int" || T == "bool") := by
  refine kit_ty ?_
  rcases hT with rfl | rfl | rfl | rfl | rfl | rfl <;> decide +kernel
theorem kit2 {K : PySem.W.Frag} {T c c' : Value} {x y : Bool} (h1 : PySem.W.kitOne K T c = some x) (h2 : PySem.W.kitOne K T c' = some y) : PySem.W.kitAny K T [c, c'] = some (x || y) := by
  cases x with
  | true => exact kitAny_cons h1 (fun z => nomatch z) fun _ => rfl
  | false => exact kitAny_cons h1 (fun _ => by
      cases y with
      | true => exact kitAny_cons h2 (fun z => nomatch z) fun _ => rfl
      | false => exact kitAny_cons h2 (fun _ => kitAny_nil) fun z => nomatch z) fun z => nomatch z
theorem tyN_in {H : Hp} {d : PyData} {v : V} (h : At H d v) : tyN d = "NoneType" ∨ tyN d = "bool" ∨ tyN d = "int" ∨ tyN d = "str" ∨ tyN d = "list" ∨ tyN d = "tuple" := by
  cases d with
  | dict _ => rw [At] at h; exact h.elim
  | _ => simp [tyN]
/-- isinstance(x, (list, tuple)), isinstance(x, (bool, str)): the tuple just laid -/
theorem cls2 {x y : String} : Paired ClsV [.ty x, .ty y] [.type x, .type y] := .cons (.ty _) (.cons (.ty _) .nil)
theorem kit_seq {K : PySem.W.Frag} {H : Hp} {d : PyData} {v : V} (h : At H d v) : PySem.W.kitAny K (.type (tyN d)) [.type "list", .type "tuple"] = some (isSeq d) := by
  have e : (tyN d == "list" || tyN d == "tuple") = isSeq d := by cases d <;> rfl
  rw [← e]
  exact kit2 (kit1 _ _ (tyN_in h) (by simp)) (kit1 _ _ (tyN_in h) (by simp))
theorem kit_bs {K : PySem.W.Frag} {H : Hp} {d : PyData} {v : V} (h : At H d v) : PySem.W.kitAny K (.type (tyN d)) [.type "bool", .type "str"] = some (tyN d == "bool" || tyN d == "str") := kit2 (kitB1 _ (tyN_in h)) (kit1 _ _ (tyN_in h) (by simp))
theorem tyx_new {K : PySem.W.Frag} {H : Hp} {d : PyData} {v : V} {p : Addr} {o : HO} (h : At H d v) (np : H p = none) : TyX K (upd H p o) v (.type (tyN d)) := tyx (At.same (same_new np o) d v h)

/-! ### comprehensions -/
theorem wipe1 {σ : L2.St} {i : Nat} {x : Option V} : wipe ((wipe σ [i]).set i x) [i] = wipe σ [i] := by
  show (((σ.set i none).set i x).set i none) = σ.set i none
  rw [List.set_set, List.set_set]
/-- [e for x in ..]: Fr of the heap along the way, R of each item made, both kept by whatever happens -/
theorem lc_gen {J : It} {n : Nat} {G : Hp → Prop} {Y : Nat → Hp → V → Hp → Prop} (wk : Walk J n G Y) {i : Nat} {te : TE} {σ : L2.St} {H1 : Hp} {D : Addr} {Qd : Hp → Prop} (Fr : Hp → Prop) (R : Nat → V → Hp → Prop)
    (h0 : Fr (upd H1 D (.lst []))) (hG : ∀ H, Fr H → G H)
    (hset : ∀ H acc new, H D = some (.lst acc) → Fr H → Fr (upd H D (.lst new)) ∧ ∀ j y, R j y H → R j y (upd H D (.lst new)))
    (turn : ∀ k x H H' acc (Q : VK), k < n → Fr H → H D = some (.lst acc) → Y k H x H' → (∀ y H4, Fr H4 → H4 D = H D → (∀ j z, R j z H → R j z H4) → R k y H4 → Q y H4) → te ((wipe σ [i]).set i (some x)) H' Q)
    (done : ∀ H acc, Fr H → H D = some (.lst acc) → acc.length = n → (∀ j y, acc[j]? = some y → R j y H) → Qd H) (hn : n ≤ 1000) :
    ∃ W : Nat → Nat → Hp → Prop, (∃ m, W 0 m (upd H1 D (.lst []))) ∧ ∀ k m H, W k m H →
      (J.stop k H ∧ Qd H) ∨ (J.go k H ∧ ∃ Nx : Hp → Prop, (∀ H', Nx H' → ∃ m', m' < m ∧ W (k + 1) m' H') ∧ ∀ x H', J.yld k H x H' → gName i x (wipe σ [i]) H' fun σ2 H2 => wipe σ2 [i] = wipe σ [i] ∧ tYes σ2 H2 fun b H3 =>
        if b = true then te σ2 H3 fun y H4 => ∃ ms, H4 D = some (.lst ms) ∧ ms.length < sizeLine ∧ Nx (upd H4 D (.lst (ms ++ [y]))) else Nx H3) := by
  refine lc_it wk (fun k H => Fr H ∧ ∃ acc, H D = some (.lst acc) ∧ acc.length = k ∧ ∀ j y, acc[j]? = some y → R j y H) ⟨h0, [], upd_same, rfl, fun j y e => by simp at e⟩ (fun k H _ p => hG H p.1) (fun k x H H' hk p y => ?_) fun H p => ?_
  · obtain ⟨f, acc, e, l, r⟩ := p
    refine ⟨wipe1, ?_⟩
    unfold tYes
    refine (if_pos rfl).mpr ?_
    refine turn k x H H' acc _ hk f e y fun y H4 f4 d4 k4 r4 => ?_
    rw [e] at d4
    obtain ⟨s1, s2⟩ := hset H4 acc (acc ++ [y]) d4 f4
    refine ⟨acc, d4, small1000 (by omega), s1, acc ++ [y], upd_same, by rw [List.length_append, l]; rfl, fun j z ez => ?_⟩
    by_cases hj : j < acc.length
    · rw [List.getElem?_append_left hj] at ez
      exact s2 _ _ (k4 _ _ (r j z ez))
    · have ej : j = acc.length := by
        have := (List.getElem?_eq_some_iff.mp ez).1
        rw [List.length_append, List.length_singleton] at this
        omega
      subst ej
      rw [List.getElem?_append_right (Nat.le_refl _), Nat.sub_self] at ez
      cases ez
      rw [l]
      exact s2 _ _ r4
  · obtain ⟨f, acc, e, l, r⟩ := p
    exact done H acc f e l r

/-! ### lists of data by their places -/
theorem AtL.of_get {H : Hp} : ∀ {ds : List PyData} {vs : List V}, vs.length = ds.length → (∀ (j : Nat) v, vs[j]? = some v → ∃ d, ds[j]? = some d ∧ At H d v) → AtL H ds vs
  | [], vs, l, _ => by
    rw [List.length_eq_zero_iff.mp l]
    exact AtL.nil
  | d :: ds, [], l, _ => by cases l
  | d :: ds, v :: vs, l, h => by
    obtain ⟨d', e, h1⟩ := h 0 v rfl
    have e' : d = d' := by simpa using e
    subst e'
    exact AtL.cons h1 (AtL.of_get (by simpa using l) fun j u hu => by
      obtain ⟨x, e1, e2⟩ := h (j + 1) u (by simpa using hu)
      exact ⟨x, by simpa using e1, e2⟩)
end K37

set_option Elab.async false
set_option linter.all false
set_option maxRecDepth 100000
set_option maxHeartbeats 4000000
/-! tuple_of, _law_lists. -/
namespace K37
open PySem PySem.Spec PyProof.Rows L2

/-! ### the mathematics -/
mutual
/-- tuples in the place of lists -/
def tup : PyData → PyData
  | .list ds => .tuple (tups ds)
  | .tuple ds => .tuple (tups ds)
  | d => d
def tups : List PyData → List PyData
  | [] => []
  | d :: ds => tup d :: tups ds
end
theorem tups_map : ∀ ds, tups ds = ds.map tup
  | [] => rfl
  | d :: ds => by rw [tups, tups_map ds]; rfl
mutual
/-- no dict, no row above 1000 -/
def slim : PyData → Prop
  | .none | .bool _ | .int _ | .str _ => True
  | .dict _ => False
  | .list ds | .tuple ds => ds.length ≤ 1000 ∧ slims ds
def slims : List PyData → Prop
  | [] => True
  | d :: ds => slim d ∧ slims ds
end
theorem slims_mem : ∀ {ds : List PyData}, slims ds → ∀ d ∈ ds, slim d
  | [], _, _, h => nomatch h
  | d :: ds, h, c, hc => by
    rw [slims] at h
    rcases List.mem_cons.mp hc with e | e
    · rw [e]; exact h.1
    · exact slims_mem h.2 c e
mutual
theorem tupD_tup : ∀ d : PyData, slim d → tupD (tup d)
  | .none, _ => trivial
  | .bool _, _ => trivial
  | .int _, _ => trivial
  | .str _, _ => trivial
  | .dict _, h => by rw [slim] at h; exact h.elim
  | .list ds, h => by
    rw [slim] at h
    rw [tup, tupD]
    exact tupDs_tups ds h.2
  | .tuple ds, h => by
    rw [slim] at h
    rw [tup, tupD]
    exact tupDs_tups ds h.2
theorem tupDs_tups : ∀ ds : List PyData, slims ds → tupDs (tups ds)
  | [], _ => trivial
  | d :: ds, h => by
    rw [slims] at h
    rw [tups, tupDs]
    exact ⟨tupD_tup d h.1, tupDs_tups ds h.2⟩
end
theorem depth_mem : ∀ {ds : List PyData} {d : PyData}, d ∈ ds → d.depth ≤ PyData.depthAll ds
  | c :: ds, d, h => by
    rw [PyData.depthAll]
    rcases List.mem_cons.mp h with e0 | e1
    · rw [e0]; omega
    · have := depth_mem e1; omega

/-! ### the promise -/
def spTup (n : Nat) : Sp := fun vs H Q _ => ∃ (d : PyData) (v : V), vs = [v] ∧ At H d v ∧ slim d ∧ d.depth < n ∧ ∀ (r : V) (H' : Hp), Same H H' → At H' (tup d) r → Q r H'
section
variable {P : Program} {w : World} {K : PySem.W.Frag} {mg : Str → Option Value} {base : Heap}
theorem sc1 : FnScope ["thing", "part"] ["thing"] (defScope (top 1)) := ⟨rfl, rfl, rfl, by decide +kernel, rfl, by decide +kernel, by decide +kernel⟩
/-- the items of a list or tuple, each made a tuple of -/
theorem tup_map {J : It} {G : Hp → Prop} {n : Nat} {xs : List V} {ds : List PyData} {σ : L2.St} {H1 : Hp} {D : Addr} {Qd : Hp → Prop} (wk : Walk J xs.length G (YAt xs)) (hG : ∀ H, Same H1 H → G H) (nD : H1 D = none) (hσ : 1 < σ.length)
    (hx : AtL H1 ds xs) (sl : slims ds) (hn : ds.length ≤ 1000) (hd : PyData.depthAll ds < n)
    (done : ∀ H acc, Same H1 H → H D = some (.lst acc) → AtL H (ds.map tup) acc → Qd H) :
    ∃ W : Nat → Nat → Hp → Prop, (∃ m, W 0 m (upd H1 D (.lst []))) ∧ ∀ k m H, W k m H →
      (J.stop k H ∧ Qd H) ∨ (J.go k H ∧ ∃ Nx : Hp → Prop, (∀ H', Nx H' → ∃ m', m' < m ∧ W (k + 1) m' H') ∧ ∀ x H', J.yld k H x H' → gName 1 x (wipe σ [1]) H' fun σ2 H2 => wipe σ2 [1] = wipe σ [1] ∧ tYes σ2 H2 fun b H3 =>
        if b = true then tCall (spTup n) [] E0 (tCons (tVar 1) tNil) σ2 H3 fun y H4 => ∃ acc, H4 D = some (.lst acc) ∧ acc.length < sizeLine ∧ Nx (upd H4 D (.lst (acc ++ [y]))) else Nx H3) := by
  have lx : xs.length = ds.length := hx.length
  have ups : ∀ H acc new, H D = some (.lst acc) → Tups H (upd H D (.lst new)) := fun H acc new e b ys q => by
    rw [upd_ne (fun z => by rw [z, e] at q; cases q)]
    exact q
  refine lc_gen wk (Same H1) (fun j y H => ∃ d, ds[j]? = some d ∧ tupD (tup d) ∧ At H (tup d) y) (same_new nD _) hG (fun H acc new e s => ⟨fun b o q => ?_, fun j y r => ?_⟩) (fun k x H H' acc Q hk s e y q => ?_) (fun H acc s e l r => ?_) (by omega)
  · rw [upd_ne (ne_of_none q nD)]
    exact s b o q
  · obtain ⟨d, e1, e2, e3⟩ := r
    exact ⟨d, e1, e2, At.tups (ups H acc new e) _ _ e2 e3⟩
  · obtain ⟨rfl, ex⟩ := y
    obtain ⟨d, ed, hd1⟩ := hx.get ex
    have md := List.mem_of_getElem? ed
    refine ⟨x, List.getElem?_set_self (by rw [wipe_length]; exact hσ), d, x, rfl, At.same s d x hd1, slims_mem sl d md, Nat.lt_of_le_of_lt (depth_mem md) hd, fun r H4 s4 h4 => ?_⟩
    exact q r H4 (s.trans s4) (by rw [e]; exact s4 _ _ e) (fun j z ⟨c, e1, e2, e3⟩ => ⟨c, e1, e2, At.same s4 _ _ e3⟩) ⟨d, ed, tupD_tup d (slims_mem sl d md), h4⟩
  · refine done H acc s e (AtL.of_get (by rw [List.length_map]; omega) fun j v ev => ?_)
    obtain ⟨d, e1, _, e3⟩ := r j v ev
    exact ⟨tup d, by rw [List.getElem?_map, e1]; rfl, e3⟩
theorem ok_tup (D : Df K mg "tuple_of" 1 ["thing"]) (Z : Free mg) : ∀ n : Nat, Kp P w K mg base D n (spTup n)
  | 0 => kp_none D fun vs H Q E h => by
    obtain ⟨d, v, _, _, _, h, _⟩ := h
    exact Nat.not_lt_zero _ h
  | n + 1 => by
    have G := ok_tup D Z n
    refine D.ok sc1 (fun vs H Q E h => ?_) (fun cdv A outer s H vs Q E hr h => ?_)
    · obtain ⟨d, v, rfl, _⟩ := h
      rfl
    obtain ⟨d, v, rfl, hv, sl, hd, q⟩ := h
    cases hq : isSeq d with
    | false =>
      refine ⟨_, pss_cons (ps_if (pt_val (pe_callB call_isiT (by rfl) Z.isinstance bt_isinstance (pa_cons (pv 0) (pa_cons (pe_tup (pa_cons (pe_bltn (v := .ty "list") (by rfl) Z.list bt_list rfl) (pa_cons (pe_bltn (v := .ty "tuple") (by rfl) Z.tuple bt_tuple rfl) pa_nil))) pa_nil))))
          (pss_one (ps_ret (pe_callTy call_tuple_of (by rfl) Z.tuple bt_tuple (pa_cons (pe_lc (own := [("part", 1)]) (g := gName 1) (tt := tYes) rfl sc1.nd (pi_list (pv 0)) (blkOk_by (N := ["thing", "part"]) (sc := defScope (top 1)) (by decide +kernel)) (fun _ _ _ _ _ => pg_name (i := 1) sc1.nd rfl (Or.inl rfl)) (fun _ _ _ _ _ => pts_nil)
            (fun _ _ _ _ _ => pe_call G hr rfl D.m D.F.kp D.b .nil pass0 (pa_cons (pv 1) pa_nil))) pa_nil)))) pss_nil)
        (pss_one (ps_ret (pv 0))), ?_⟩
      refine ⟨v, rfl, (by show 2 ≤ sizeLine; decide), fun p np => ?_⟩
      refine ⟨_, p, _, _, _, _, rfl, upd_same, cls2, tyx_new hv np, kit_seq hv, _, rfl, ?_⟩
      rw [hq]
      refine iteF ?_
      have s1 : Same H (upd H p (.tup [.ty "list", .ty "tuple"])) := same_new np _
      refine ⟨v, rfl, q _ _ s1 ?_⟩
      have e : tup d = d := by
        cases d with
        | list _ => cases hq
        | tuple _ => cases hq
        | _ => rfl
      rw [e]
      exact At.same s1 d v hv
    | true =>
      cases d with
      | list ds =>
        have hv' := hv
        rw [At] at hv'
        obtain ⟨a, xs, rfl, ha, hx⟩ := hv'
        rw [slim] at sl
        rw [PyData.depth] at hd
        refine ⟨_, pss_cons (ps_if (pt_val (pe_callB call_isiT (by rfl) Z.isinstance bt_isinstance (pa_cons (pv 0) (pa_cons (pe_tup (pa_cons (pe_bltn (v := .ty "list") (by rfl) Z.list bt_list rfl) (pa_cons (pe_bltn (v := .ty "tuple") (by rfl) Z.tuple bt_tuple rfl) pa_nil))) pa_nil))))
            (pss_one (ps_ret (pe_callTy call_tuple_of (by rfl) Z.tuple bt_tuple (pa_cons (pe_lc (own := [("part", 1)]) (g := gName 1) (tt := tYes) rfl sc1.nd (pi_list (pv 0)) (blkOk_by (N := ["thing", "part"]) (sc := defScope (top 1)) (by decide +kernel)) (fun _ _ _ _ _ => pg_name (i := 1) sc1.nd rfl (Or.inl rfl)) (fun _ _ _ _ _ => pts_nil)
              (fun _ _ _ _ _ => pe_call G hr rfl D.m D.F.kp D.b .nil pass0 (pa_cons (pv 1) pa_nil))) pa_nil)))) pss_nil)
          (pss_one (ps_ret (pv 0))), ?_⟩
        refine ⟨.ref a, rfl, (by show 2 ≤ sizeLine; decide), fun p np => ?_⟩
        refine ⟨_, p, _, _, _, _, rfl, upd_same, cls2, tyx_new hv np, kit_seq hv, _, rfl, ?_⟩
        refine iteT ?_
        have s1 : Same H (upd H p (.tup [.ty "list", .ty "tuple"])) := same_new np _
        refine ⟨.ref a, rfl, a, rfl, ⟨xs, SqL.of (s1 _ _ ha)⟩, fun C nC => ?_⟩
        refine tup_map (walk_list (K := K) (a := a) (xs := xs)) (fun H' s' => SqL.of (s' _ _ (s1 _ _ ha))) nC (by show 1 < 2; decide) (AtL.same s1 _ _ hx) sl.2 sl.1 (by omega) fun H' acc s' e h' => ?_
        refine ⟨C, acc, rfl, .inl ⟨SqL.of e, fun l nl => ?_⟩⟩
        have s2 : Same H' (upd H' l (.tup acc)) := same_new nl _
        refine q _ _ ((s1.trans s').trans s2) ?_
        rw [tup, tups_map, At]
        exact ⟨l, acc, rfl, upd_same, AtL.same s2 _ _ h'⟩
      | tuple ds =>
        have hv' := hv
        rw [At] at hv'
        obtain ⟨a, xs, rfl, ha, hx⟩ := hv'
        rw [slim] at sl
        rw [PyData.depth] at hd
        refine ⟨_, pss_cons (ps_if (pt_val (pe_callB call_isiT (by rfl) Z.isinstance bt_isinstance (pa_cons (pv 0) (pa_cons (pe_tup (pa_cons (pe_bltn (v := .ty "list") (by rfl) Z.list bt_list rfl) (pa_cons (pe_bltn (v := .ty "tuple") (by rfl) Z.tuple bt_tuple rfl) pa_nil))) pa_nil))))
            (pss_one (ps_ret (pe_callTy call_tuple_of (by rfl) Z.tuple bt_tuple (pa_cons (pe_lc (own := [("part", 1)]) (g := gName 1) (tt := tYes) rfl sc1.nd (pi_tup (pv 0)) (blkOk_by (N := ["thing", "part"]) (sc := defScope (top 1)) (by decide +kernel)) (fun _ _ _ _ _ => pg_name (i := 1) sc1.nd rfl (Or.inl rfl)) (fun _ _ _ _ _ => pts_nil)
              (fun _ _ _ _ _ => pe_call G hr rfl D.m D.F.kp D.b .nil pass0 (pa_cons (pv 1) pa_nil))) pa_nil)))) pss_nil)
          (pss_one (ps_ret (pv 0))), ?_⟩
        refine ⟨.ref a, rfl, (by show 2 ≤ sizeLine; decide), fun p np => ?_⟩
        refine ⟨_, p, _, _, _, _, rfl, upd_same, cls2, tyx_new hv np, kit_seq hv, _, rfl, ?_⟩
        refine iteT ?_
        have s1 : Same H (upd H p (.tup [.ty "list", .ty "tuple"])) := same_new np _
        refine ⟨.ref a, rfl, a, rfl, ⟨xs, SqT.of (s1 _ _ ha)⟩, fun C nC => ?_⟩
        refine tup_map (walk_tup (K := K) (a := a) (xs := xs)) (fun H' s' => SqT.of (s' _ _ (s1 _ _ ha))) nC (by show 1 < 2; decide) (AtL.same s1 _ _ hx) sl.2 sl.1 (by omega) fun H' acc s' e h' => ?_
        refine ⟨C, acc, rfl, .inl ⟨SqL.of e, fun l nl => ?_⟩⟩
        have s2 : Same H' (upd H' l (.tup acc)) := same_new nl _
        refine q _ _ ((s1.trans s').trans s2) ?_
        rw [tup, tups_map, At]
        exact ⟨l, acc, rfl, upd_same, AtL.same s2 _ _ h'⟩
      | _ => cases hq
end
end K37

set_option Elab.async false
set_option linter.all false
set_option maxRecDepth 100000
set_option maxHeartbeats 4000000
/-! _law_lists. -/
namespace K37
open PySem PySem.Spec PyProof.Rows L2
mutual
/-- lists in the place of tuples -/
def lst : PyData → PyData
  | .list ds => .list (lsts ds)
  | .tuple ds => .list (lsts ds)
  | d => d
def lsts : List PyData → List PyData
  | [] => []
  | d :: ds => lst d :: lsts ds
end
theorem lsts_map : ∀ ds, lsts ds = ds.map lst
  | [] => rfl
  | d :: ds => by rw [lsts, lsts_map ds]; rfl
mutual
theorem tup_lst : ∀ d, tup (lst d) = tup d
  | .none => rfl
  | .bool _ => rfl
  | .int _ => rfl
  | .str _ => rfl
  | .dict _ => rfl
  | .list ds => by rw [lst, tup, tup, tups_lsts ds]
  | .tuple ds => by rw [lst, tup, tup, tups_lsts ds]
theorem tups_lsts : ∀ ds, tups (lsts ds) = tups ds
  | [] => rfl
  | d :: ds => by rw [lsts, tups, tups, tup_lst d, tups_lsts ds]
end
mutual
theorem tup_self : ∀ d, tupD d → tup d = d
  | .none, _ => rfl
  | .bool _, _ => rfl
  | .int _, _ => rfl
  | .str _, _ => rfl
  | .dict _, _ => rfl
  | .list ds, h => by rw [tupD] at h; exact h.elim
  | .tuple ds, h => by rw [tupD] at h; rw [tup, tups_self ds h]
theorem tups_self : ∀ ds, tupDs ds → tups ds = ds
  | [], _ => rfl
  | d :: ds, h => by rw [tupDs] at h; rw [tups, tup_self d h.1, tups_self ds h.2]
end
mutual
theorem lst_slim : ∀ d, slim d → slim (lst d)
  | .none, _ => trivial
  | .bool _, _ => trivial
  | .int _, _ => trivial
  | .str _, _ => trivial
  | .dict _, h => h
  | .list ds, h => by rw [slim] at h; rw [lst, slim, lsts_map, List.length_map, ← lsts_map]; exact ⟨h.1, lsts_slims ds h.2⟩
  | .tuple ds, h => by rw [slim] at h; rw [lst, slim, lsts_map, List.length_map, ← lsts_map]; exact ⟨h.1, lsts_slims ds h.2⟩
theorem lsts_slims : ∀ ds, slims ds → slims (lsts ds)
  | [], _ => trivial
  | d :: ds, h => by rw [slims] at h; rw [lsts, slims]; exact ⟨lst_slim d h.1, lsts_slims ds h.2⟩
end
mutual
theorem lst_depth : ∀ d : PyData, (lst d).depth = d.depth
  | .none => rfl
  | .bool _ => rfl
  | .int _ => rfl
  | .str _ => rfl
  | .dict _ => rfl
  | .list ds => by rw [lst, PyData.depth, PyData.depth, lsts_depth ds]
  | .tuple ds => by rw [lst, PyData.depth, PyData.depth, lsts_depth ds]
theorem lsts_depth : ∀ ds : List PyData, PyData.depthAll (lsts ds) = PyData.depthAll ds
  | [] => rfl
  | d :: ds => by rw [lsts, PyData.depthAll, PyData.depthAll, lst_depth d, lsts_depth ds]
end
/-- what H' tracks and H does not -/
def newer (H H' : Hp) : Hp := fun b => match H b with
  | none => H' b
  | some _ => none
theorem newer_iff {H H' : Hp} {b : Addr} {o : HO} : newer H H' b = some o ↔ H b = none ∧ H' b = some o := by
  unfold newer
  cases e : H b with
  | none => simp
  | some u => simp
theorem newer_same {H H' : Hp} : Same (newer H H') H' := fun b o e => (newer_iff.mp e).2
/-- the same but for what stands at C -/
def less (C : Addr) (H : Hp) : Hp := fun b => if b = C then none else H b
theorem less_iff {C : Addr} {H : Hp} {b : Addr} {o : HO} : less C H b = some o ↔ b ≠ C ∧ H b = some o := by
  unfold less
  by_cases e : b = C
  · simp [e]
  · simp [e]
def spLst (n : Nat) : Sp := fun vs H Q _ => ∃ (d : PyData) (v : V), vs = [v] ∧ At H d v ∧ tupD d ∧ slim d ∧ d.depth < n ∧ ∀ (r : V) (H' : Hp), Same H H' → At (newer H H') (lst d) r → Q r H'
section
variable {P : Program} {w : World} {K : PySem.W.Frag} {mg : Str → Option Value} {base : Heap}
theorem sc12 : FnScope ["_law_matter", "_law_own"] ["_law_matter"] (defScope (top 12)) := ⟨rfl, rfl, rfl, by decide +kernel, rfl, by decide +kernel, by decide +kernel⟩
theorem lst_map {J : It} {G : Hp → Prop} {n : Nat} {xs : List V} {ds : List PyData} {σ : L2.St} {H1 : Hp} {D : Addr} {Qd : Hp → Prop} (wk : Walk J xs.length G (YAt xs)) (hG : ∀ H, Same H1 H → G H) (nD : H1 D = none) (hσ : 1 < σ.length)
    (hx : AtL H1 ds xs) (ht : tupDs ds) (sl : slims ds) (hn : ds.length ≤ 1000) (hd : PyData.depthAll ds < n)
    (done : ∀ H acc, Same H1 H → H D = some (.lst acc) → AtL (less D (newer H1 H)) (ds.map lst) acc → Qd H) :
    ∃ W : Nat → Nat → Hp → Prop, (∃ m, W 0 m (upd H1 D (.lst []))) ∧ ∀ k m H, W k m H →
      (J.stop k H ∧ Qd H) ∨ (J.go k H ∧ ∃ Nx : Hp → Prop, (∀ H', Nx H' → ∃ m', m' < m ∧ W (k + 1) m' H') ∧ ∀ x H', J.yld k H x H' → gName 1 x (wipe σ [1]) H' fun σ2 H2 => wipe σ2 [1] = wipe σ [1] ∧ tYes σ2 H2 fun b H3 =>
        if b = true then tCall (spLst n) [] E0 (tCons (tVar 1) tNil) σ2 H3 fun y H4 => ∃ acc, H4 D = some (.lst acc) ∧ acc.length < sizeLine ∧ Nx (upd H4 D (.lst (acc ++ [y]))) else Nx H3) := by
  have lx : xs.length = ds.length := hx.length
  refine lc_gen wk (Same H1) (fun j y H => ∃ d, ds[j]? = some d ∧ At (less D (newer H1 H)) (lst d) y) (same_new nD _) hG (fun H acc new e s => ⟨fun b o q => ?_, fun j y r => ?_⟩) (fun k x H H' acc Q hk s e y q => ?_) (fun H acc s e l r => ?_) (by omega)
  · rw [upd_ne (ne_of_none q nD)]
    exact s b o q
  · obtain ⟨d, e1, e3⟩ := r
    refine ⟨d, e1, At.same (fun b o z => ?_) _ _ e3⟩
    obtain ⟨z1, z2⟩ := less_iff.mp z
    obtain ⟨z2, z3⟩ := newer_iff.mp z2
    exact less_iff.mpr ⟨z1, newer_iff.mpr ⟨z2, by rw [upd_ne z1]; exact z3⟩⟩
  · obtain ⟨rfl, ex⟩ := y
    obtain ⟨d, ed, hd1⟩ := hx.get ex
    have md := List.mem_of_getElem? ed
    have td : ∀ {es : List PyData}, tupDs es → ∀ c ∈ es, tupD c := fun {es} => by
      induction es with
      | nil => intro _ c h; cases h
      | cons a r ih =>
        intro h c hc
        rw [tupDs] at h
        rcases List.mem_cons.mp hc with z | z
        · rw [z]; exact h.1
        · exact ih h.2 c z
    refine ⟨x, List.getElem?_set_self (by rw [wipe_length]; exact hσ), d, x, rfl, At.same s d x hd1, td ht d md, slims_mem sl d md, Nat.lt_of_le_of_lt (depth_mem md) hd, fun r H4 s4 h4 => ?_⟩
    refine q r H4 (s.trans s4) (by rw [e]; exact s4 _ _ e) (fun j z ⟨c, e1, e3⟩ => ⟨c, e1, At.same (fun b o z => ?_) _ _ e3⟩) ⟨d, ed, At.same (fun b o z => ?_) _ _ h4⟩
    · obtain ⟨z1, z2⟩ := less_iff.mp z
      obtain ⟨z2, z3⟩ := newer_iff.mp z2
      exact less_iff.mpr ⟨z1, newer_iff.mpr ⟨z2, s4 _ _ z3⟩⟩
    · obtain ⟨z2, z3⟩ := newer_iff.mp z
      refine less_iff.mpr ⟨fun z1 => ?_, newer_iff.mpr ⟨Same.free s z2, z3⟩⟩
      rw [z1, e] at z2
      cases z2
  · refine done H acc s e (AtL.of_get (by rw [List.length_map]; omega) fun j v ev => ?_)
    obtain ⟨d, e1, e3⟩ := r j v ev
    exact ⟨lst d, by rw [List.getElem?_map, e1]; rfl, e3⟩
theorem ok_lst (D : Df K mg "_law_lists" 12 ["_law_matter"]) (Z : Free mg) : ∀ n : Nat, Kp P w K mg base D n (spLst n)
  | 0 => kp_none D fun vs H Q E h => by
    obtain ⟨d, v, _, _, _, _, h, _⟩ := h
    exact Nat.not_lt_zero _ h
  | n + 1 => by
    have G := ok_lst D Z n
    refine D.ok sc12 (fun vs H Q E h => ?_) (fun cdv A outer s H vs Q E hr h => ?_)
    · obtain ⟨d, v, rfl, _⟩ := h
      rfl
    obtain ⟨d, v, rfl, hv, td, sl, hd, q⟩ := h
    refine ⟨_, pss_one (ps_ret (pe_ifExp (pt_val (pe_callB call_isiT (by rfl) Z.isinstance bt_isinstance (pa_cons (pv 0) (pa_cons (pe_tup (pa_cons (pe_bltn (v := .ty "list") (by rfl) Z.list bt_list rfl) (pa_cons (pe_bltn (v := .ty "tuple") (by rfl) Z.tuple bt_tuple rfl) pa_nil))) pa_nil))))
        (pe_lc (own := [("_law_own", 1)]) (g := gName 1) (tt := tYes) rfl sc12.nd (pi_tup (pv 0)) (blkOk_by (N := ["_law_matter", "_law_own"]) (sc := defScope (top 12)) (by decide +kernel)) (fun _ _ _ _ _ => pg_name (i := 1) sc12.nd rfl (Or.inl rfl)) (fun _ _ _ _ _ => pts_nil)
          (fun _ _ _ _ _ => pe_call G hr rfl D.m D.F.kp D.b .nil pass0 (pa_cons (pv 1) pa_nil)))
        (pv 0))), ?_⟩
    refine ⟨v, rfl, (by show 2 ≤ sizeLine; decide), fun p np => ?_⟩
    refine ⟨_, p, _, _, _, _, rfl, upd_same, cls2, tyx_new hv np, kit_seq hv, _, rfl, ?_⟩
    have s1 : Same H (upd H p (.tup [.ty "list", .ty "tuple"])) := same_new np _
    cases hq : isSeq d with
    | false =>
      refine iteF ?_
      refine ⟨v, rfl, q _ _ s1 ?_⟩
      cases d with
      | list _ => cases hq
      | tuple _ => cases hq
      | none => rw [At] at hv; rw [show lst .none = .none from rfl, At]; exact hv
      | bool b => rw [At] at hv; rw [show lst (.bool b) = .bool b from rfl, At]; exact hv
      | int i => rw [At] at hv; rw [show lst (.int i) = .int i from rfl, At]; exact hv
      | str x => rw [At] at hv; rw [show lst (.str x) = .str x from rfl, At]; exact hv
      | dict _ => rw [At] at hv; exact hv.elim
    | true =>
      refine iteT ?_
      cases d with
      | list ds => rw [tupD] at td; exact td.elim
      | tuple ds =>
        rw [At] at hv
        obtain ⟨a, xs, rfl, ha, hx⟩ := hv
        rw [slim] at sl
        rw [PyData.depth] at hd
        rw [tupD] at td
        refine ⟨.ref a, rfl, a, rfl, ⟨xs, SqT.of (s1 _ _ ha)⟩, fun C nC => ?_⟩
        refine lst_map (walk_tup (K := K) (a := a) (xs := xs)) (fun H' s' => SqT.of (s' _ _ (s1 _ _ ha))) nC (by show 1 < 2; decide) (AtL.same s1 _ _ hx) td sl.2 sl.1 (by omega) fun H' acc s' e h' => ?_
        refine q _ _ (s1.trans s') ?_
        rw [lst, lsts_map, At]
        refine ⟨C, acc, rfl, newer_iff.mpr ⟨Same.free s1 nC, e⟩, AtL.same (fun b o z => ?_) _ _ h'⟩
        obtain ⟨z1, z2⟩ := less_iff.mp z
        obtain ⟨z2, z3⟩ := newer_iff.mp z2
        exact newer_iff.mpr ⟨Same.free s1 z2, z3⟩
      | _ => cases hq
end
end K37

set_option Elab.async false
set_option linter.all false
set_option maxRecDepth 100000
set_option maxHeartbeats 4000000
/-! _opened. -/
namespace K37
open PySem PySem.Spec PyProof.Rows L2
theorem at0 {xs : List V} {x : V} : atI (x :: xs) 0 = some x := atI_nat (j := 0) rfl
theorem at1 {xs : List V} {x y : V} : atI (x :: y :: xs) 1 = some y := atI_nat (j := 1) rfl
theorem at2 {xs : List V} {x y z : V} : atI (x :: y :: z :: xs) 2 = some z := atI_nat (j := 2) rfl
theorem dmake (l : Lf) : decide (V.str (headF l) = V.str "make") = false := by rw [dec_str]; exact headF_ne l
theorem dint {i j : Int} (h : i = j) : decide (V.int i = V.int j) = true := decide_eq_true (by rw [h])
theorem dintn {i j : Int} (h : ¬ i = j) : decide (V.int i = V.int j) = false := decide_eq_false fun e => h (V.int.inj e)
def spOpd (n : Nat) : Sp := fun vs H Q _ => ∃ (t : Tr) (v : V) (M : Int), vs = [v, .int M] ∧ TAt H t v ∧ dep t < n ∧ (opd M t).length ≤ 1000 ∧
  ∀ (r : Addr) (H' : Hp) (ws : List V), Same H H' → H' r = some (.lst ws) → TAtL H' (opd M t) ws → Q (.ref r) H'
section
variable {P : Program} {w : World} {K : PySem.W.Frag} {mg : Str → Option Value} {base : Heap}
theorem sc3 : FnScope ["one", "maker"] ["one", "maker"] (defScope (top 3)) := ⟨rfl, rfl, rfl, by decide +kernel, rfl, by decide +kernel, by decide +kernel⟩
theorem ok_opd (D : Df K mg "_opened" 3 ["one", "maker"]) (Z : Free mg) : ∀ n : Nat, Kp P w K mg base D n (spOpd n)
  | 0 => kp_none D fun vs H Q E h => by
    obtain ⟨t, v, M, _, _, h, _⟩ := h
    exact Nat.not_lt_zero _ h
  | n + 1 => by
    have G := ok_opd D Z n
    refine D.ok sc3 (fun vs H Q E h => ?_) (fun cdv A outer s H vs Q E hr h => ?_)
    · obtain ⟨t, v, M, rfl, _⟩ := h
      rfl
    obtain ⟨t, v, M, rfl, hv, hd, hl, q⟩ := h
    refine ⟨_, pss_cons (ps_if (PW.pt (pw_and (pt_cmpR op_eq (pe_ix ix_tup (pv 0) pe_int (fun _ _ => rfl)) pe_str (nomark _))
          (pw_and (pt_cmpR op_eq (pe_ix ix_tup (pv 0) pe_int (fun _ _ => rfl)) (pv 1) (nomark _))
          (pw_and1 (pt_cmpR op_eq (pe_callB call_len_seq (by rfl) Z.len bt_len (pa_cons (pe_ix ix_tup (pv 0) pe_int (fun _ _ => rfl)) pa_nil)) pe_int (nomark _))))))
        (pss_one (ps_ret (pe_op op_cat
          (pe_call G hr rfl D.m D.F.kp D.b .nil pass0 (pa_cons (pe_ix ix_tup (pe_ix ix_tup (pv 0) pe_int (fun _ _ => rfl)) pe_int (fun _ _ => rfl)) (pa_cons (pv 1) pa_nil)))
          (pe_call G hr rfl D.m D.F.kp D.b .nil pass0 (pa_cons (pe_ix ix_tup (pe_ix ix_tup (pv 0) pe_int (fun _ _ => rfl)) pe_int (fun _ _ => rfl)) (pa_cons (pv 1) pa_nil)))))) pss_nil)
      (pss_one (ps_ret (pe_lst (pa_cons (pv 0) pa_nil)))), ?_⟩
    have last : two M t = false → ∀ p : Addr, H p = none → Q (.ref p) (upd H p (.lst [v])) := fun h p np => by
      have s1 : Same H (upd H p (.lst [v])) := same_new np _
      refine q p _ [v] s1 upd_same ?_
      rw [opd_not h]
      exact TAtL.cons (hv.same s1) TAtL.nil
    cases t with
    | leaf l =>
      obtain ⟨a, r, rfl, ha⟩ := hv.leaf
      refine ⟨.ref a, rfl, a, _, 0, _, rfl, rfl, SqT.of ha, at0, rfl, _, rfl, ?_⟩
      rw [dmake]
      refine iteF (iteF ?_)
      exact ⟨.ref a, rfl, (by show 1 ≤ sizeLine; decide), last rfl⟩
    | node m ks =>
      obtain ⟨a, b, xs, rfl, ha, hb, hx⟩ := TAt.node.mp hv
      refine ⟨.ref a, rfl, a, _, 0, _, rfl, rfl, SqT.of ha, at0, rfl, _, rfl, iteT ?_⟩
      refine ⟨.ref a, rfl, a, _, 1, _, rfl, rfl, SqT.of ha, at1, .int M, rfl, rfl, _, rfl, ?_⟩
      by_cases hm : m = M
      · rw [dint hm]
        refine iteT ⟨.ref a, rfl, a, _, 2, _, rfl, rfl, SqT.of ha, at2, b, _, rfl, .inr (SqT.of hb), rfl, _, rfl, ?_⟩
        by_cases h2 : ks.length = 2
        · have e2 : ((xs.length : Nat) : Int) = 2 := by rw [hx.length, h2]; rfl
          rw [dint e2]
          refine iteT ?_
          match ks, h2 with
          | [c, d], _ =>
            subst hm
            obtain ⟨u, u', rfl, hu, hu'⟩ := hx.inv2
            have k1 : dep c < n := Nat.lt_of_lt_of_le (dep_kid (m := m) (ks := [c, d]) (by simp)) (Nat.le_of_lt_succ hd)
            have k2 : dep d < n := Nat.lt_of_lt_of_le (dep_kid (m := m) (ks := [c, d]) (by simp)) (Nat.le_of_lt_succ hd)
            rw [opd_two, List.length_append] at hl
            refine ⟨.ref a, rfl, a, _, 2, _, rfl, rfl, SqT.of ha, at2, b, _, 0, u, rfl, rfl, SqT.of hb, at0, .int m, rfl, c, u, m, rfl, hu, k1, by omega, fun r1 H1 w1 s1 e1 t1 => ?_⟩
            refine ⟨.ref a, rfl, a, _, 2, _, rfl, rfl, SqT.of (s1 _ _ ha), at2, b, _, 1, u', rfl, rfl, SqT.of (s1 _ _ hb), at1, .int m, rfl, d, u', m, rfl, hu'.same s1, k2, by omega, fun r2 H2 w2 s2 e2' t2 => ?_⟩
            have l1 := t1.length
            have l2 := t2.length
            refine ⟨r1, r2, w1, w2, rfl, rfl, s2 _ _ e1, e2', Nat.le_of_lt (small1000 (by omega)), fun p np => ?_⟩
            have s3 : Same H2 (upd H2 p (.lst (w1 ++ w2))) := same_new np _
            refine q p _ (w1 ++ w2) ((s1.trans s2).trans s3) upd_same ?_
            rw [opd_two]
            exact ((t1.same s2).append t2).same s3
        · have e2 : ¬ ((xs.length : Nat) : Int) = 2 := by rw [hx.length]; omega
          rw [dintn e2]
          refine iteF ?_
          exact ⟨.ref a, rfl, (by show 1 ≤ sizeLine; decide), last (by simp [two, h2])⟩
      · rw [dintn hm]
        refine iteF (iteF ?_)
        exact ⟨.ref a, rfl, (by show 1 ≤ sizeLine; decide), last (by simp [two, hm])⟩
end
end K37

set_option Elab.async false
set_option linter.all false
set_option maxRecDepth 100000
set_option maxHeartbeats 4000000
/-! _combed, combed, alike_by. -/
namespace K37
open PySem PySem.Spec PyProof.Rows L2
/-! ### the mathematics -/
mutual
/-- rows of at most 1000 terms -/
def nar : Tr → Prop
  | .leaf _ => True
  | .node _ ks => ks.length ≤ 1000 ∧ nars ks
def nars : List Tr → Prop
  | [] => True
  | k :: ks => nar k ∧ nars ks
end
theorem nars_mem : ∀ {ks : List Tr}, nars ks → ∀ c ∈ ks, nar c
  | [], _, _, h => nomatch h
  | k :: ks, h, c, hc => by
    rw [nars] at h
    rcases List.mem_cons.mp hc with e | e
    · rw [e]; exact h.1
    · exact nars_mem h.2 c e
theorem rsum_len : ∀ r : List Tr, r.length ≤ rsum r + 1
  | [] => by rw [rsum]; decide
  | [a] => by show 1 ≤ rho a + 1; omega
  | a :: b :: r => by
    have ih := rsum_len (b :: r)
    show (b :: r).length + 1 ≤ rho a + rsum (b :: r) + 1 + 1
    omega
theorem opd_len (M : Int) (t : Tr) : (opd M t).length ≤ rho t + 1 := by
  have h := rsum_len (opd M t)
  rw [rsum_opd] at h
  exact h
theorem nestL_drop (M : Int) {r : List Tr} {j : Nat} (h : j + 1 < r.length) : nestL M (r.drop j) = .node M [r[j], nestL M (r.drop (j + 1))] := by
  have h1 : r.drop j = r[j] :: r.drop (j + 1) := List.drop_eq_getElem_cons (by omega)
  rw [h1]
  exact nest_cons M _ (by
    intro e
    have := congrArg List.length e
    rw [List.length_drop, List.length_nil] at this
    omega)
theorem nest_one {M : Int} {t : Tr} (h : (opd M t).length = 1) : nestL M (opd M t) = t := by
  cases q : two M t with
  | false => rw [opd_not q]; rfl
  | true =>
    obtain ⟨a, b, rfl⟩ := two_iff.mp q
    rw [opd_two, List.length_append] at h
    have h1 := opd_ne M a
    have h2 := opd_ne M b
    have h3 : 1 ≤ (opd M a).length := List.length_pos_iff.mpr h1
    have h4 : 1 ≤ (opd M b).length := List.length_pos_iff.mpr h2
    omega
/-- row[-2::-1] at place i is row[k - 2 - i] -/
theorem back_get {α : Type} {xs : List α} {i : Nat} {x : α} (h : xs.dropLast.reverse[i]? = some x) : i + 1 < xs.length ∧ xs[xs.length - 2 - i]? = some x := by
  have hl := (List.getElem?_eq_some_iff.mp h).1
  rw [List.length_reverse, List.length_dropLast] at hl
  refine ⟨by omega, ?_⟩
  rw [List.getElem?_reverse (by rw [List.length_dropLast]; omega), List.length_dropLast, List.getElem?_dropLast] at h
  rw [if_pos (by omega)] at h
  rw [show xs.length - 2 - i = xs.length - 1 - 1 - i by omega]
  exact h
/-! ### _combed -/
def spCmb (n : Nat) : Sp := fun vs H Q _ => ∃ (t : Tr) (v : V) (M : Int), vs = [v, .int M] ∧ TAt H t v ∧ nar t ∧ rho t < n ∧ n ≤ 100 ∧
  ∀ (r : V) (H' : Hp), Same H H' → TAt H' (cmb M t) r → Q r H'
section
variable {P : Program} {w : World} {K : PySem.W.Frag} {mg : Str → Option Value} {base : Heap}
theorem sc4 : FnScope ["one", "maker", "own", "row", "found", "part"] ["one", "maker"] (defScope (top 4)) := ⟨rfl, rfl, rfl, by decide +kernel, rfl, by decide +kernel, by decide +kernel⟩
theorem cmb_map {n : Nat} {a : Addr} {M : Int} {xs : List V} {ks : List Tr} {σ : L2.St} {H1 : Hp} {D : Addr} {Qd : Hp → Prop} (ha : H1 a = some (.tup xs)) (nD : H1 D = none) (hσ : 5 < σ.length) (hM : (wipe σ [5])[1]? = some (some (.int M)))
    (hx : TAtL H1 ks xs) (sl : nars ks) (hn : ks.length ≤ 1000) (hd : ∀ c ∈ ks, rho c < n) (h100 : n ≤ 100)
    (done : ∀ H acc, Same H1 H → H D = some (.lst acc) → TAtL H (ks.map (cmb M)) acc → Qd H) :
    ∃ W : Nat → Nat → Hp → Prop, (∃ m, W 0 m (upd H1 D (.lst []))) ∧ ∀ k m H, W k m H →
      ((Itt K a).stop k H ∧ Qd H) ∨ ((Itt K a).go k H ∧ ∃ Nx : Hp → Prop, (∀ H', Nx H' → ∃ m', m' < m ∧ W (k + 1) m' H') ∧ ∀ x H', (Itt K a).yld k H x H' → gName 5 x (wipe σ [5]) H' fun σ2 H2 => wipe σ2 [5] = wipe σ [5] ∧ tYes σ2 H2 fun b H3 =>
        if b = true then tCall (spCmb n) [] E0 (tCons (tVar 5) (tCons (tVar 1) tNil)) σ2 H3 fun y H4 => ∃ acc, H4 D = some (.lst acc) ∧ acc.length < sizeLine ∧ Nx (upd H4 D (.lst (acc ++ [y]))) else Nx H3) := by
  have lx : xs.length = ks.length := hx.length
  have ups : ∀ H acc new, H D = some (.lst acc) → Tups H (upd H D (.lst new)) := fun H acc new e b ys q => by
    rw [upd_ne (fun z => by rw [z, e] at q; cases q)]
    exact q
  refine lc_gen (walk_tup (K := K) (a := a) (xs := xs)) (Same H1) (fun j y H => ∃ c, ks[j]? = some c ∧ TAt H (cmb M c) y) (same_new nD _) (fun H s => SqT.of (s _ _ ha)) (fun H acc new e s => ⟨fun b o q => ?_, fun j y r => ?_⟩) (fun k x H H' acc Q hk s e y q => ?_) (fun H acc s e l r => ?_) (by omega)
  · rw [upd_ne (ne_of_none q nD)]
    exact s b o q
  · obtain ⟨c, e1, e3⟩ := r
    exact ⟨c, e1, e3.tups (ups H acc new e)⟩
  · obtain ⟨rfl, ex⟩ := y
    obtain ⟨c, ec, hc⟩ := hx.get ex
    have mc := List.mem_of_getElem? ec
    refine ⟨x, List.getElem?_set_self (by rw [wipe_length]; exact hσ), .int M, by rw [List.getElem?_set_ne (by decide)]; exact hM, c, x, M, rfl, hc.same s, nars_mem sl c mc, hd c mc, h100, fun r H4 s4 h4 => ?_⟩
    exact q r H4 (s.trans s4) (by rw [e]; exact s4 _ _ e) (fun j z ⟨c, e1, e3⟩ => ⟨c, e1, e3.same s4⟩) ⟨c, ec, h4⟩
  · refine done H acc s e (AtL.of_get (by rw [List.length_map, List.length_map]; omega) fun j v ev => ?_)
    obtain ⟨c, e1, e3⟩ := r j v ev
    exact ⟨enc (cmb M c), by rw [List.getElem?_map, List.getElem?_map, e1]; rfl, e3⟩
theorem ok_cmb (D : Df K mg "_combed" 4 ["one", "maker"]) (DO : Df K mg "_opened" 3 ["one", "maker"]) (Z : Free mg) : ∀ n : Nat, Kp P w K mg base D (100 + n) (spCmb n)
  | 0 => FnOk.mono (kp_none D fun vs H Q E h => by
    obtain ⟨t, v, M, _, _, _, h, _⟩ := h
    exact Nat.not_lt_zero _ h) (Nat.zero_le _)
  | n + 1 => by
    have G := ok_cmb D DO Z n
    have GO := ok_opd (P := P) (w := w) (base := base) DO Z 100
    refine D.ok sc4 (fun vs H Q E h => ?_) (fun cdv A outer s H vs Q E hr h => ?_)
    · obtain ⟨t, v, M, rfl, _⟩ := h
      rfl
    obtain ⟨t, v, M, rfl, hv, na, hd, h100, q⟩ := h
    refine ⟨_, pss_cons (ps_if (pt_cmpR op_ne (pe_ix ix_tup (pv 0) pe_int (fun _ _ => rfl)) pe_str (nomark _)) (pss_one (ps_ret (pv 0))) pss_nil)
      (pss_cons (ps_set (i := 2) sc4.nd rfl (Or.inl rfl) (pe_tup (pa_cons pe_str (pa_cons (pe_ix ix_tup (pv 0) pe_int (fun _ _ => rfl)) (pa_cons
          (pe_callTy call_tuple_of (by rfl) Z.tuple bt_tuple (pa_cons (pe_lc (own := [("part", 5)]) (g := gName 5) (tt := tYes) rfl sc4.nd (pi_tup (pe_ix ix_tup (pv 0) pe_int (fun _ _ => rfl))) (blkOk_by (N := ["one", "maker", "own", "row", "found", "part"]) (sc := defScope (top 4)) (by decide +kernel)) (fun _ _ _ _ _ => pg_name (i := 5) sc4.nd rfl (Or.inl rfl)) (fun _ _ _ _ _ => pts_nil)
            (fun _ _ _ _ _ => pe_call G hr rfl D.m D.F.kp D.b .nil pass0 (pa_cons (pv 5) (pa_cons (pv 1) pa_nil)))) pa_nil)) pa_nil)))))
      (pss_cons (ps_set (i := 3) sc4.nd rfl (Or.inl rfl) (pe_call GO (hr.mono (show 100 ≤ 100 + n from Nat.le_add_right _ _)) rfl DO.m DO.F.kp DO.b .nil pass0 (pa_cons (pv 2) (pa_cons (pv 1) pa_nil))))
      (pss_cons (ps_if (pt_cmpR op_eq (pe_callB call_len_seq (by rfl) Z.len bt_len (pa_cons (pv 3) pa_nil)) pe_int (nomark _)) (pss_one (ps_ret (pv 2))) pss_nil)
      (pss_cons (ps_set (i := 4) sc4.nd rfl (Or.inl rfl) (pe_ix ix_list (pv 3) (pe_un un_neg pe_int) (fun _ _ => rfl)))
      (pss_cons (ps_for PassesOwn.never rfl (pi_list (pe_back (pv 3))) (pg_name (i := 5) sc4.nd rfl (Or.inl rfl))
        (pss_one (ps_set (i := 4) sc4.nd rfl (Or.inl rfl) (pe_tup (pa_cons pe_str (pa_cons (pv 1) (pa_cons (pe_tup (pa_cons (pv 5) (pa_cons (pv 4) pa_nil))) pa_nil)))))))
      (pss_one (ps_ret (pv 4)))))))), ?_⟩
    cases t with
    | leaf l =>
      obtain ⟨a, r, rfl, ha⟩ := hv.leaf
      refine ⟨.ref a, rfl, a, _, 0, _, rfl, rfl, SqT.of ha, at0, rfl, _, rfl, ?_⟩
      rw [dmake]
      refine iteT ⟨.ref a, rfl, q _ _ (Same.refl H) ?_⟩
      rw [cmb]
      exact hv
    | node m ks =>
      obtain ⟨a, b, xs, rfl, ha, hb, hx⟩ := TAt.node.mp hv
      rw [nar] at na
      refine ⟨.ref a, rfl, a, _, 0, _, rfl, rfl, SqT.of ha, at0, rfl, _, rfl, iteF ?_⟩
      refine ⟨.ref a, rfl, a, _, 1, _, rfl, rfl, SqT.of ha, at1, .ref a, rfl, a, _, 2, _, rfl, rfl, SqT.of ha, at2, b, rfl, ⟨xs, SqT.of hb⟩, fun C nC => ?_⟩
      refine cmb_map (K := K) (M := M) hb nC (by show 5 < 6; decide) rfl hx na.2 na.1 (fun c hc => by have := rho_kid (m := m) hc; omega) (by omega) fun H1 acc s1 e1 h1 => ?_
      refine ⟨C, acc, rfl, .inl ⟨SqL.of e1, fun l nl => ?_⟩⟩
      have s2 : Same H1 (upd H1 l (.tup acc)) := same_new nl _
      refine ⟨(by show 3 ≤ sizeLine; decide), fun o no => ?_⟩
      have s3 : Same (upd H1 l (.tup acc)) (upd (upd H1 l (.tup acc)) o (.tup [.str "make", .int m, .ref l])) := same_new no _
      have hown : TAt (upd (upd H1 l (.tup acc)) o (.tup [.str "make", .int m, .ref l])) (.node m (ks.map (cmb M))) (.ref o) :=
        TAt.node.mpr ⟨o, l, acc, rfl, upd_same, s3 _ _ upd_same, h1.same (s2.trans s3)⟩
      have s03 := s1.trans (s2.trans s3)
      generalize upd (upd H1 l (.tup acc)) o (.tup [.str "make", .int m, .ref l]) = H3 at hown s03
      have hr1 : rho (.node m (ks.map (cmb M))) ≤ rho (.node m ks) := rho_map_le fun c _ => rho_cmb M c
      have hd1 := dep_le_rho (.node m (ks.map (cmb M)))
      have hl1 := opd_len M (.node m (ks.map (cmb M)))
      have ecmb := cmb_node M m ks
      have hne := opd_ne M (.node m (ks.map (cmb M)))
      refine ⟨.ref o, rfl, .int M, rfl, .node m (ks.map (cmb M)), .ref o, M, rfl, hown, by omega, by omega, fun r H4 ws s4 e4 h4 => ?_⟩
      have l4 := h4.length
      refine ⟨.ref r, rfl, r, ws, rfl, .inl (SqL.of e4), rfl, _, rfl, ?_⟩
      by_cases h1' : (opd M (.node m (ks.map (cmb M)))).length = 1
      · rw [dint (show ((ws.length : Nat) : Int) = 1 by rw [l4, h1']; rfl)]
        refine iteT ⟨.ref o, rfl, q _ _ (s03.trans s4) ?_⟩
        rw [ecmb, nest_one h1']
        exact hown.same s4
      · rw [dintn (show ¬ ((ws.length : Nat) : Int) = 1 by rw [l4]; omega)]
        refine iteF ?_
        generalize hrow : opd M (.node m (ks.map (cmb M))) = rw' at *
        have hpos : 1 ≤ rw'.length := List.length_pos_iff.mpr hne
        obtain ⟨ini, lst', hws⟩ : ∃ ini z, ws = ini ++ [z] := by
          have hw : ws ≠ [] := fun z => by rw [z, List.length_nil] at l4; omega
          exact ⟨ws.dropLast, ws.getLast hw, (List.dropLast_concat_getLast hw).symm⟩
        have hat : atI ws (-1) = some lst' := by rw [hws]; exact atI_last ini lst'
        have hlast : ws[ws.length - 1]? = some lst' := by rw [hws]; simp
        obtain ⟨tl, etl, htl⟩ := h4.get hlast
        refine ⟨.ref r, rfl, 1, rfl, r, ws, -1, lst', rfl, rfl, SqL.of e4, hat, ?_⟩
        refine ⟨.ref r, rfl, r, ws, rfl, SqL.of e4, by omega, fun bk nb => ?_⟩
        have s5 : Same H4 (upd H4 bk (.lst ws.dropLast.reverse)) := same_new nb _
        refine ⟨bk, rfl, ⟨_, SqL.of upd_same⟩, ?_⟩
        refine for_list (K := K) (a := bk) (xs := ws.dropLast.reverse) (fun i σ H' => ∃ (fv : V) (p : Option V), σ = [some (.ref a), some (.int M), some (.ref o), some (.ref r), some fv, p] ∧ Same (upd H4 bk (.lst ws.dropLast.reverse)) H' ∧ TAt H' (nestL M (rw'.drop (rw'.length - 1 - i))) fv)
          ⟨lst', none, rfl, Same.refl _, ?_⟩ (fun i σ H' _ p => ?_) (fun i x σ H' hx' p => ?_) fun σ H' p => ?_
        · have e1 : rw'.drop (rw'.length - 1 - 0) = [tl] := by
            rw [Nat.sub_zero]
            have := (List.getElem?_eq_some_iff.mp etl)
            obtain ⟨j1, j2⟩ := this
            rw [l4] at j1
            have e2 : rw'[rw'.length - 1]? = some tl := by rw [← l4]; exact etl
            obtain ⟨j3, j4⟩ := List.getElem?_eq_some_iff.mp e2
            rw [List.drop_eq_getElem_cons j3, j4, List.drop_eq_nil_of_le (by omega)]
          rw [e1]
          exact htl.same s5
        · obtain ⟨_, _, _, s6, _⟩ := p
          exact SqL.of (s6 _ _ upd_same)
        · obtain ⟨fv, p, rfl, s6, hf⟩ := p
          obtain ⟨k1, k2⟩ := back_get hx'
          obtain ⟨c, ec, hc⟩ := h4.get k2
          rw [l4] at k1 ec
          refine ⟨.int M, rfl, x, rfl, fv, rfl, (by show 2 ≤ sizeLine; decide), fun t1 n1 => ⟨(by show 3 ≤ sizeLine; decide), fun t2 n2 => ?_⟩⟩
          have s7 : Same H' (upd H' t1 (.tup [x, fv])) := same_new n1 _
          have s8 : Same (upd H' t1 (.tup [x, fv])) (upd (upd H' t1 (.tup [x, fv])) t2 (.tup [.str "make", .int M, .ref t1])) := same_new n2 _
          refine ⟨.ref t2, some x, rfl, s6.trans (s7.trans s8), ?_⟩
          have hj : rw'.length - 1 - (i + 1) = rw'.length - 2 - i := by omega
          obtain ⟨j3, j4⟩ := List.getElem?_eq_some_iff.mp ec
          rw [hj, nestL_drop M (by omega), j4, show rw'.length - 2 - i + 1 = rw'.length - 1 - i by omega]
          exact TAt.node.mpr ⟨t2, t1, [x, fv], rfl, upd_same, s8 _ _ upd_same, TAtL.cons (hc.same (s5.trans (s6.trans (s7.trans s8)))) (TAtL.cons (hf.same (s7.trans s8)) TAtL.nil)⟩
        · obtain ⟨fv, p, rfl, s6, hf⟩ := p
          refine ⟨fv, rfl, q _ _ (s03.trans (s4.trans (s5.trans s6))) ?_⟩
          rw [List.length_reverse, List.length_dropLast, l4, Nat.sub_self, List.drop_zero] at hf
          rw [ecmb]
          exact hf
end
end K37

set_option Elab.async false
set_option linter.all false
set_option maxRecDepth 100000
set_option maxHeartbeats 4000000
/-! combed, alike_by. -/
namespace K37
open PySem PySem.Spec PyProof.Rows L2
/-! ### data without bools: == is equality -/
mutual
def bare : PyData → Prop
  | .int _ | .str _ => True
  | .none | .bool _ | .dict _ => False
  | .list ds | .tuple ds => bares ds
def bares : List PyData → Prop
  | [] => True
  | d :: ds => bare d ∧ bares ds
end
mutual
theorem eqv_iff : ∀ d e : PyData, bare d → bare e → (PyData.eqv d e = true ↔ d = e)
  | .int i, e, _, he => by
    cases e with
    | int j => rw [PyData.eqv]; constructor
               · intro h; rw [eq_of_beq h]
               · intro h; cases h; exact beq_self_eq_true i
    | str _ => rw [PyData.eqv]; exact ⟨(fun h => nomatch h), (fun h => nomatch h)⟩
    | list _ => rw [PyData.eqv]; exact ⟨(fun h => nomatch h), (fun h => nomatch h)⟩
    | tuple _ => rw [PyData.eqv]; exact ⟨(fun h => nomatch h), (fun h => nomatch h)⟩
    | _ => exact he.elim
  | .str x, e, _, he => by
    cases e with
    | str y => rw [PyData.eqv]; constructor
               · intro h; rw [eq_of_beq h]
               · intro h; cases h; exact beq_self_eq_true x
    | int _ => rw [PyData.eqv]; exact ⟨(fun h => nomatch h), (fun h => nomatch h)⟩
    | list _ => rw [PyData.eqv]; exact ⟨(fun h => nomatch h), (fun h => nomatch h)⟩
    | tuple _ => rw [PyData.eqv]; exact ⟨(fun h => nomatch h), (fun h => nomatch h)⟩
    | _ => exact he.elim
  | .list xs, e, hd, he => by
    cases e with
    | list ys =>
      rw [bare] at hd he
      rw [PyData.eqv]
      exact (eqvs_iff xs ys hd he).trans ⟨fun h => by rw [h], fun h => by cases h; rfl⟩
    | str _ => rw [PyData.eqv]; exact ⟨(fun h => nomatch h), (fun h => nomatch h)⟩
    | int _ => rw [PyData.eqv]; exact ⟨(fun h => nomatch h), (fun h => nomatch h)⟩
    | tuple _ => rw [PyData.eqv]; exact ⟨(fun h => nomatch h), (fun h => nomatch h)⟩
    | _ => exact he.elim
  | .tuple xs, e, hd, he => by
    cases e with
    | tuple ys =>
      rw [bare] at hd he
      rw [PyData.eqv]
      exact (eqvs_iff xs ys hd he).trans ⟨fun h => by rw [h], fun h => by cases h; rfl⟩
    | str _ => rw [PyData.eqv]; exact ⟨(fun h => nomatch h), (fun h => nomatch h)⟩
    | int _ => rw [PyData.eqv]; exact ⟨(fun h => nomatch h), (fun h => nomatch h)⟩
    | list _ => rw [PyData.eqv]; exact ⟨(fun h => nomatch h), (fun h => nomatch h)⟩
    | _ => exact he.elim
  | .none, _, h, _ => h.elim
  | .bool _, _, h, _ => h.elim
  | .dict _, _, h, _ => h.elim
theorem eqvs_iff : ∀ ds es : List PyData, bares ds → bares es → (PyData.eqvAll ds es = true ↔ ds = es)
  | [], [], _, _ => by rw [PyData.eqvAll]; exact ⟨fun _ => rfl, fun _ => rfl⟩
  | [], _ :: _, _, _ => by rw [PyData.eqvAll]; exact ⟨(fun h => nomatch h), (fun h => nomatch h)⟩
  | _ :: _, [], _, _ => by rw [PyData.eqvAll]; exact ⟨(fun h => nomatch h), (fun h => nomatch h)⟩
  | d :: ds, e :: es, hd, he => by
    rw [bares] at hd he
    rw [PyData.eqvAll, Bool.and_eq_true, eqv_iff d e hd.1 he.1, eqvs_iff ds es hd.2 he.2]
    exact ⟨fun h => by rw [h.1, h.2], fun h => by cases h; exact ⟨rfl, rfl⟩⟩
end
theorem bares_ints : ∀ w : List Int, bares (w.map .int)
  | [] => trivial
  | i :: w => ⟨trivial, bares_ints w⟩
theorem bares_of : ∀ {ds : List PyData}, (∀ d ∈ ds, bare d) → bares ds
  | [], _ => trivial
  | d :: ds, h => ⟨h d (by simp), bares_of fun c hc => h c (List.mem_cons_of_mem _ hc)⟩
theorem bare_encF : ∀ l, bare (encF l)
  | .thing k => ⟨trivial, trivial, trivial⟩
  | .at w => ⟨trivial, bares_ints w, trivial⟩
  | .call => ⟨trivial, trivial, ⟨trivial, trivial⟩, trivial⟩
theorem bare_enc : ∀ t, bare (enc t) := by
  refine Tr.ind (fun l => by rw [enc]; exact bare_encF l) fun m ks ih => ?_
  rw [enc]
  refine ⟨trivial, trivial, ?_, trivial⟩
  show bares (encs ks)
  rw [encs_map]
  refine bares_of fun d hd => ?_
  obtain ⟨c, hc, rfl⟩ := List.mem_map.mp hd
  exact ih c hc
/-! ### enc tells a TERM -/
theorem map_int_inj : ∀ {a b : List Int}, a.map PyData.int = b.map PyData.int → a = b
  | [], [], _ => rfl
  | [], _ :: _, h => by cases h
  | _ :: _, [], h => by cases h
  | x :: a, y :: b, h => by
    simp only [List.map_cons] at h
    injection h with h1 h2
    injection h1 with h3
    rw [h3, map_int_inj h2]
theorem str_ne1 : ¬ (("thing" : Str) = "at") := by decide +kernel
theorem str_ne2 : ¬ (("thing" : Str) = "call") := by decide +kernel
theorem str_ne3 : ¬ (("at" : Str) = "call") := by decide +kernel
theorem str_ne4 : ¬ (("thing" : Str) = "make") := by decide +kernel
theorem str_ne5 : ¬ (("at" : Str) = "make") := by decide +kernel
theorem str_ne6 : ¬ (("call" : Str) = "make") := by decide +kernel
theorem head_eq {x y : Str} {r s : List PyData} (h : PyData.tuple (.str x :: r) = .tuple (.str y :: s)) : x = y ∧ r = s := by
  injection h with h
  injection h with h1 h2
  injection h1 with h3
  exact ⟨h3, h2⟩
theorem encF_inj : ∀ {l k : Lf}, encF l = encF k → l = k
  | .thing i, .thing j, h => by
    obtain ⟨_, h2⟩ := head_eq h
    injection h2 with h3
    injection h3 with h4
    rw [h4]
  | .at a, .at b, h => by
    obtain ⟨_, h2⟩ := head_eq h
    injection h2 with h3
    injection h3 with h4
    rw [map_int_inj h4]
  | .call, .call, _ => rfl
  | .thing _, .at _, h => absurd (head_eq h).1 str_ne1
  | .at _, .thing _, h => absurd (head_eq h).1.symm str_ne1
  | .thing _, .call, h => absurd (head_eq h).1 str_ne2
  | .call, .thing _, h => absurd (head_eq h).1.symm str_ne2
  | .at _, .call, h => absurd (head_eq h).1 str_ne3
  | .call, .at _, h => absurd (head_eq h).1.symm str_ne3
theorem encF_ne (l : Lf) {r : List PyData} : encF l ≠ .tuple (.str "make" :: r) := fun h => by
  cases l with
  | thing k => exact str_ne4 (head_eq h).1
  | «at» w => exact str_ne5 (head_eq h).1
  | call => exact str_ne6 (head_eq h).1
theorem enc_inj : ∀ t u : Tr, enc t = enc u → t = u := by
  refine Tr.ind (fun l u h => ?_) fun m ks ih u h => ?_
  · cases u with
    | leaf k => rw [enc, enc] at h; rw [encF_inj h]
    | node n js => rw [enc, enc] at h; exact absurd h (encF_ne l)
  · cases u with
    | leaf k => rw [enc, enc] at h; exact absurd h.symm (encF_ne k)
    | node n js =>
      rw [enc, enc, encs_map, encs_map] at h
      obtain ⟨_, h2⟩ := head_eq h
      injection h2 with h3 h4
      injection h3 with h5
      injection h4 with h6
      injection h6 with h7
      have e : ∀ {xs ys : List Tr}, (∀ c ∈ xs, ∀ u, enc c = enc u → c = u) → xs.map enc = ys.map enc → xs = ys := fun {xs} => by
        induction xs with
        | nil => intro ys _ q; cases ys with
          | nil => rfl
          | cons y ys => cases q
        | cons x xs ihx => intro ys hx q; cases ys with
          | nil => cases q
          | cons y ys =>
            rw [List.map_cons, List.map_cons] at q
            injection q with q1 q2
            rw [hx x (by simp) y q1, ihx (fun c hc => hx c (List.mem_cons_of_mem _ hc)) q2]
      rw [h5, e ih h7]
theorem eqv_enc (t u : Tr) : PyData.eqv (enc t) (enc u) = true ↔ t = u :=
  (eqv_iff _ _ (bare_enc t) (bare_enc u)).trans ⟨enc_inj t u, fun h => by rw [h]⟩
/-! ### sizes of enc -/
theorem lay_ints : ∀ w : List Int, PyData.canLayAll0 (w.map .int) = true
  | [] => by rw [List.map_nil, PyData.canLayAll0]
  | i :: w => by rw [List.map_cons, PyData.canLayAll0, PyData.canLay0, lay_ints w]; rfl
theorem lay_of : ∀ {ds : List PyData}, (∀ d ∈ ds, d.canLay0 = true) → PyData.canLayAll0 ds = true
  | [], _ => by rw [PyData.canLayAll0]
  | d :: ds, h => by
    rw [PyData.canLayAll0, h d (by simp), lay_of fun c hc => h c (List.mem_cons_of_mem _ hc)]
    rfl
theorem ok_thing : PyData.strOk "thing" = true := by decide +kernel
theorem ok_at : PyData.strOk "at" = true := by decide +kernel
theorem ok_call : PyData.strOk "call" = true := by decide +kernel
theorem ok_make : PyData.strOk "make" = true := by decide +kernel
theorem lay_encF : ∀ l, (encF l).canLay0 = true
  | .thing k => by simp only [encF, PyData.canLay0, PyData.canLayAll0, ok_thing, Bool.and_true, Bool.true_and]
  | .at w => by simp only [encF, PyData.canLay0, PyData.canLayAll0, ok_at, lay_ints, Bool.and_true, Bool.true_and]
  | .call => by simp only [encF, PyData.canLay0, PyData.canLayAll0, ok_call, Bool.and_true, Bool.true_and]
theorem lay_enc : ∀ t, (enc t).canLay0 = true := by
  refine Tr.ind (fun l => by rw [enc]; exact lay_encF l) fun m ks ih => ?_
  rw [enc, encs_map]
  have h : PyData.canLayAll0 (ks.map enc) = true := lay_of fun d hd => by
    obtain ⟨c, hc, rfl⟩ := List.mem_map.mp hd
    exact ih c hc
  simp only [PyData.canLay0, PyData.canLayAll0, ok_make, h, Bool.and_true, Bool.true_and]
theorem depth_ints : ∀ w : List Int, PyData.depthAll (w.map .int) = 0
  | [] => by rw [List.map_nil, PyData.depthAll]
  | i :: w => by rw [List.map_cons, PyData.depthAll, PyData.depth, depth_ints w]; rfl
theorem depthAll_le : ∀ {ds : List PyData} {n : Nat}, (∀ d ∈ ds, d.depth ≤ n) → PyData.depthAll ds ≤ n
  | [], _, _ => by rw [PyData.depthAll]; omega
  | d :: ds, n, h => by
    rw [PyData.depthAll]
    have h1 := h d (by simp)
    have h2 := depthAll_le (ds := ds) (n := n) fun c hc => h c (List.mem_cons_of_mem _ hc)
    omega
theorem depth_encF : ∀ l, (encF l).depth ≤ 2
  | .thing k => by simp [encF, PyData.depth, PyData.depthAll]
  | .at w => by simp [encF, PyData.depth, PyData.depthAll, depth_ints]
  | .call => by simp [encF, PyData.depth, PyData.depthAll]
theorem depth_enc : ∀ t, (enc t).depth ≤ 2 * dep t + 2 := by
  refine Tr.ind (fun l => by rw [enc, dep]; exact depth_encF l) fun m ks ih => ?_
  rw [enc, encs_map]
  have h : PyData.depthAll (ks.map enc) ≤ 2 * deps ks + 2 := depthAll_le fun d hd => by
    obtain ⟨c, hc, rfl⟩ := List.mem_map.mp hd
    have h1 := ih c hc
    have h2 := dep_le_deps hc
    omega
  rw [dep]
  simp only [PyData.depthAll, PyData.depth]
  omega
theorem slims_of : ∀ {ds : List PyData}, (∀ d ∈ ds, slim d) → slims ds
  | [], _ => trivial
  | d :: ds, h => ⟨h d (by simp), slims_of fun c hc => h c (List.mem_cons_of_mem _ hc)⟩
/-- no leaf with a long word -/
def shortF : Lf → Prop
  | .at w => w.length ≤ 1000
  | _ => True
mutual
def short : Tr → Prop
  | .leaf l => shortF l
  | .node _ ks => shorts ks
def shorts : List Tr → Prop
  | [] => True
  | k :: ks => short k ∧ shorts ks
end
theorem shorts_mem : ∀ {ks : List Tr}, shorts ks → ∀ c ∈ ks, short c
  | [], _, _, h => nomatch h
  | k :: ks, h, c, hc => by
    rw [shorts] at h
    rcases List.mem_cons.mp hc with e | e
    · rw [e]; exact h.1
    · exact shorts_mem h.2 c e
theorem slims_ints : ∀ w : List Int, slims (w.map .int)
  | [] => trivial
  | i :: w => ⟨trivial, slims_ints w⟩
theorem slim_encF : ∀ l, shortF l → slim (encF l)
  | .thing k, _ => ⟨by show 2 ≤ 1000; decide, trivial, trivial, trivial⟩
  | .at w, h => ⟨by show 2 ≤ 1000; decide, trivial, ⟨by rw [List.length_map]; exact h, slims_ints w⟩, trivial⟩
  | .call, _ => ⟨by show 3 ≤ 1000; decide, trivial, trivial, ⟨by show 1 ≤ 1000; decide, trivial, trivial⟩, trivial⟩
theorem slim_enc : ∀ t, nar t → short t → slim (enc t) := by
  refine Tr.ind (fun l _ h => by rw [enc]; exact slim_encF l h) fun m ks ih hn hs => ?_
  rw [enc, encs_map]
  rw [nar] at hn
  rw [short] at hs
  refine ⟨by show 3 ≤ 1000; decide, trivial, trivial, ⟨by rw [List.length_map]; exact hn.1, slims_of fun d hd => ?_⟩, trivial⟩
  obtain ⟨c, hc, rfl⟩ := List.mem_map.mp hd
  exact ih c hc (nars_mem hn.2 c hc) (shorts_mem hs c hc)

/-! ### combed, alike_by -/
/-- v stands for the TERM t, with tuples or lists -/
structure Any (H : Hp) (t : Tr) (v : V) : Prop where
  at_ : At H (enc t) v ∨ At H (lst (enc t)) v
  nar : nar t
  short : short t
  rho : rho t < 44
theorem Any.data {H : Hp} {t : Tr} {v : V} (h : Any H t v) : ∃ d, At H d v ∧ slim d ∧ d.depth < 90 ∧ tup d = enc t := by
  have h1 := slim_enc t h.nar h.short
  have h2 := depth_enc t
  have h3 := dep_le_rho t
  have h4 := h.rho
  rcases h.at_ with q | q
  · exact ⟨_, q, h1, by omega, tup_self _ (tupD_enc t)⟩
  · exact ⟨_, q, lst_slim _ h1, by rw [lst_depth]; omega, by rw [tup_lst]; exact tup_self _ (tupD_enc t)⟩
theorem Any.same {H H' : Hp} {t : Tr} {v : V} (h : Any H t v) (s : Same H H') : Any H' t v := ⟨h.at_.imp (At.same s _ _) (At.same s _ _), h.nar, h.short, h.rho⟩
def spComb : Sp := fun vs H Q _ => ∃ (t : Tr) (v : V) (M : Int), vs = [v, .int M] ∧ Any H t v ∧ ∀ (r : V) (H' : Hp), Same H H' → TAt H' (cmb M t) r → Q r H'
def spAlike : Sp := fun vs H Q _ => ∃ (t u : Tr) (v v' : V) (M : Int), vs = [v, v', .int M] ∧ Any H t v ∧ Any H u v' ∧ ∀ (b : Bool) (H' : Hp), Same H H' → (b = true ↔ cmb M t = cmb M u) → Q (.bl b) H'
section
variable {P : Program} {w : World} {K : PySem.W.Frag} {mg : Str → Option Value} {base : Heap}
theorem sc5 : FnScope ["one", "maker"] ["one", "maker"] (defScope (top 5)) := ⟨rfl, rfl, rfl, by decide +kernel, rfl, by decide +kernel, by decide +kernel⟩
theorem sc6 : FnScope ["one", "other", "maker"] ["one", "other", "maker"] (defScope (top 6)) := ⟨rfl, rfl, rfl, by decide +kernel, rfl, by decide +kernel, by decide +kernel⟩
theorem ok_combed (D : Df K mg "combed" 5 ["one", "maker"]) (DT : Df K mg "tuple_of" 1 ["thing"]) (DC : Df K mg "_combed" 4 ["one", "maker"]) (DO : Df K mg "_opened" 3 ["one", "maker"]) (Z : Free mg) : Kp P w K mg base D 201 spComb := by
  have GT := ok_tup (P := P) (w := w) (base := base) DT Z 90
  have GC := ok_cmb (P := P) (w := w) (base := base) DC DO Z 100
  refine D.ok sc5 (fun vs H Q E h => ?_) (fun cdv A outer s H vs Q E hr h => ?_)
  · obtain ⟨t, v, M, rfl, _⟩ := h
    rfl
  obtain ⟨t, v, M, rfl, hv, q⟩ := h
  obtain ⟨d, h1, h2, h3, h4⟩ := hv.data
  refine ⟨_, pss_one (ps_ret (pe_call GC hr rfl DC.m DC.F.kp DC.b .nil pass0 (pa_cons (pe_call GT (hr.mono (by decide)) rfl DT.m DT.F.kp DT.b .nil pass0 (pa_cons (pv 0) pa_nil)) (pa_cons (pv 1) pa_nil)))), ?_⟩
  have h5 := hv.rho
  refine ⟨v, rfl, d, v, rfl, h1, h2, h3, fun r H1 s1 a1 => ?_⟩
  rw [h4] at a1
  refine ⟨.int M, rfl, t, r, M, rfl, a1, hv.nar, by omega, by decide, fun r2 H2 s2 a2 => ?_⟩
  exact q r2 H2 (s1.trans s2) a2
theorem ok_alike (D : Df K mg "alike_by" 6 ["one", "other", "maker"]) (DB : Df K mg "combed" 5 ["one", "maker"]) (DT : Df K mg "tuple_of" 1 ["thing"]) (DC : Df K mg "_combed" 4 ["one", "maker"]) (DO : Df K mg "_opened" 3 ["one", "maker"]) (Z : Free mg) : Kp P w K mg base D 202 spAlike := by
  have GB := ok_combed (P := P) (w := w) (base := base) DB DT DC DO Z
  refine D.ok sc6 (fun vs H Q E h => ?_) (fun cdv A outer s H vs Q E hr h => ?_)
  · obtain ⟨t, u, v, v', M, rfl, _⟩ := h
    rfl
  obtain ⟨t, u, v, v', M, rfl, hv, hv', q⟩ := h
  refine ⟨_, pss_one (ps_ret (pe_cmpR (op_eqA hr) (pe_call GB hr rfl DB.m DB.F.kp DB.b .nil pass0 (pa_cons (pv 0) (pa_cons (pv 2) pa_nil))) (pe_call GB hr rfl DB.m DB.F.kp DB.b .nil pass0 (pa_cons (pv 1) (pa_cons (pv 2) pa_nil))) (nomark _))), ?_⟩
  refine ⟨v, rfl, .int M, rfl, t, v, M, rfl, hv, fun r1 H1 s1 a1 => ?_⟩
  refine ⟨v', rfl, .int M, rfl, u, v', M, rfl, hv'.same s1, fun r2 H2 s2 a2 => ?_⟩
  have d1 := depth_enc (cmb M t)
  have d2 := dep_le_rho (cmb M t)
  have d3 := rho_cmb M t
  have d4 := hv.rho
  refine ⟨_, _, a1.same s2, a2, lay_enc _, lay_enc _, by omega, ?_⟩
  rw [Bool.false_xor]
  exact q _ H2 (s1.trans s2) (eqv_enc _ _)
end
end K37

set_option Elab.async false
set_option linter.all false
set_option maxRecDepth 100000
set_option maxHeartbeats 4000000
/-! _law_take, _law_of: the draws. -/
namespace K37
open PySem PySem.Spec PyProof.Rows L2
/-- the list that draws come from; m: how many may have been drawn by count -/
def Tin (H : Hp) (a : Addr) (m : Nat) : Prop := ∃ x y c : Int, H a = some (.lst [.int x, .int y, .int c]) ∧ 0 ≤ x ∧ 0 ≤ c ∧ c ≤ (m : Int)
theorem Tin.lst {H : Hp} {a : Addr} {m : Nat} (h : Tin H a m) : ∃ xs, H a = some (.lst xs) := ⟨_, h.choose_spec.choose_spec.choose_spec.1⟩
theorem Tin.same {H H' : Hp} {a : Addr} {m : Nat} (h : Tin H a m) (s : Same H H') : Tin H' a m := by
  obtain ⟨x, y, c, h1, h2⟩ := h
  exact ⟨x, y, c, s _ _ h1, h2⟩
theorem Tin.le {H : Hp} {a : Addr} {m n : Nat} (h : Tin H a m) (l : m ≤ n) : Tin H a n := by
  obtain ⟨x, y, c, h1, h2, h3, h4⟩ := h
  exact ⟨x, y, c, h1, h2, h3, by omega⟩
theorem Tin.ne {H : Hp} {a b : Addr} {m : Nat} {xs : List V} (h : Tin H a m) (e : H b = some (.tup xs)) : b ≠ a := fun z => by
  obtain ⟨_, q⟩ := h.lst
  rw [z, q] at e
  cases e
theorem Tin.neN {H : Hp} {a b : Addr} {m : Nat} (h : Tin H a m) (e : H b = none) : b ≠ a := fun z => by
  obtain ⟨_, q⟩ := h.lst
  rw [z, q] at e
  cases e
theorem TAt.but {H H' : Hp} {a : Addr} {m : Nat} {t : Tr} {v : V} (h : TAt H t v) (s : But a H H') (T : Tin H a m) : TAt H' t v := by
  obtain ⟨_, q⟩ := T.lst
  exact h.tups (s.tups q)
theorem TAtL.but {H H' : Hp} {a : Addr} {m : Nat} {ts : List Tr} {vs : List V} (h : TAtL H ts vs) (s : But a H H') (T : Tin H a m) : TAtL H' ts vs := by
  obtain ⟨_, q⟩ := T.lst
  exact h.tups (s.tups q)
def spTake : Sp := fun vs H Q _ => ∃ (a : Addr) (k : Int) (m : Nat), vs = [.ref a, .int k] ∧ 0 < k ∧ k < 1000 ∧ Tin H a m ∧ m < 1000000 ∧
  ∀ (r : Int) (H' : Hp), 0 ≤ r → r < k → But a H H' → Tin H' a (m + 1) → Q (.int r) H'
def spOf : Sp := fun vs H Q _ => ∃ (a g : Addr) (xs : List V) (m : Nat), vs = [.ref a, .ref g] ∧ H g = some (.lst xs) ∧ g ≠ a ∧ 0 < xs.length ∧ xs.length < 1000 ∧ Tin H a m ∧ m < 1000000 ∧
  ∀ (x : V) (H' : Hp), x ∈ xs → But a H H' → Tin H' a (m + 1) → Q x H'
section
variable {P : Program} {w : World} {K : PySem.W.Frag} {mg : Str → Option Value} {base : Heap}
theorem sc9 : FnScope ["_law_tin", "_law_below", "_law_drawn", "_law_once", "_law_broad", "_law_twice"] ["_law_tin", "_law_below"] (defScope (top 9)) := ⟨rfl, rfl, rfl, by decide +kernel, rfl, by decide +kernel, by decide +kernel⟩
theorem sc13 : FnScope ["_law_tin", "_law_goods"] ["_law_tin", "_law_goods"] (defScope (top 13)) := ⟨rfl, rfl, rfl, by decide +kernel, rfl, by decide +kernel, by decide +kernel⟩
theorem fmod_lt {i k : Int} (h : 0 < k) : 0 ≤ i.fmod k ∧ i.fmod k < k := ⟨Int.fmod_nonneg_of_pos i h, Int.fmod_lt_of_pos i h⟩
theorem nz1 : (2147483647 : Int) ≠ 0 := by decide
theorem nz2 : (40009 : Int) ≠ 0 := by decide
theorem nz3 : (2147483629 : Int) ≠ 0 := by decide
theorem nz4 : (2147483587 : Int) ≠ 0 := by decide
theorem broad_ok (o : Int) : -(2 ^ 64) < o.fmod 40009 + 7 ∧ o.fmod 40009 + 7 < 2 ^ 64 := by
  obtain ⟨h1, h2⟩ := fmod_lt (i := o) (k := 40009) (by decide)
  omega
theorem ok_take (D : Df K mg "_law_take" 9 ["_law_tin", "_law_below"]) (Z : Free mg) : Kp P w K mg base D 1 spTake := by
  refine D.ok sc9 (fun vs H Q E h => ?_) (fun cdv A outer s H vs Q E hr h => ?_)
  · obtain ⟨a, k, m, rfl, _⟩ := h
    rfl
  obtain ⟨a, k, m, rfl, k0, k1, T, m1, q⟩ := h
  obtain ⟨x, y, c, ha, x0, c0, c1⟩ := T
  refine ⟨_, pss_cons (ps_if (pt_cmpR op_gt (pe_ix ix_list (pv 0) pe_int (fun _ _ => rfl)) pe_int (nomark _))
      (pss_cons (ps_set (i := 2) sc9.nd rfl (Or.inl rfl) (pe_op op_modN (pe_callTy call_int1 (by rfl) Z.int bt_int (pa_cons (pe_ix ix_list (pv 0) pe_int (fun _ _ => rfl)) pa_nil)) (pv 1)))
      (pss_cons (ps_asg (pe_op op_fdivN (pe_ix ix_list (pv 0) pe_int (fun _ _ => rfl)) (pv 1)) (pg_sub (pv 0) pe_int set_list))
      (pss_one (ps_ret (pv 2))))) pss_nil)
    (pss_cons (ps_asg (pe_op op_add (pe_ix ix_list (pv 0) pe_int (fun _ _ => rfl)) pe_int) (pg_sub (pv 0) pe_int set_list))
    (pss_cons (ps_set (i := 3) sc9.nd rfl (Or.inl rfl) (pe_op op_modN (pe_callTy call_int1 (by rfl) Z.int bt_int (pa_cons (pe_op op_mul (pe_op op_add (pe_ix ix_list (pv 0) pe_int (fun _ _ => rfl)) (pe_op op_mul pe_int (pe_ix ix_list (pv 0) pe_int (fun _ _ => rfl)))) (pe_op op_add pe_int (pe_ix ix_list (pv 0) pe_int (fun _ _ => rfl)))) pa_nil)) pe_int))
    (pss_cons (ps_set (i := 4) sc9.nd rfl (Or.inl rfl) (pe_op op_add (pe_op op_modN (pe_callTy call_int1 (by rfl) Z.int bt_int (pa_cons (pv 3) pa_nil)) pe_int) pe_int))
    (pss_cons (ps_set (i := 5) sc9.nd rfl (Or.inl rfl) (pe_op op_modN (pe_callTy call_int1 (by rfl) Z.int bt_int (pa_cons (pe_op op_mul (pe_op op_add (pe_op op_add (pv 3) (pe_ix ix_list (pv 0) pe_int (fun _ _ => rfl))) (pe_op op_fdivN (pe_ix ix_list (pv 0) pe_int (fun _ _ => rfl)) pe_int)) (pv 4)) pa_nil)) pe_int))
    (pss_one (ps_ret (pe_op op_modN (pe_callTy call_int1 (by rfl) Z.int bt_int (pa_cons (pe_op op_fdivN (pe_op op_modN (pe_callTy call_int1 (by rfl) Z.int bt_int (pa_cons (pe_op op_add (pe_op op_mul (pv 5) pe_int) (pv 3)) pa_nil)) pe_int) pe_int) pa_nil)) (pv 1)))))))), ?_⟩
  refine ⟨.ref a, rfl, a, _, 0, _, rfl, rfl, SqL.of ha, at0, x, 0, rfl, rfl, _, rfl, ?_⟩
  refine ite2 (fun p => ?_) fun p => ?_
  · have p1 : 0 < x := of_decide_eq_true p
    refine ⟨.ref a, rfl, a, _, 0, _, rfl, rfl, SqL.of ha, at0, .inl ⟨x, rfl, .int k, rfl, x, k, rfl, rfl, by omega, ?_⟩⟩
    refine ⟨.ref a, rfl, a, _, 0, _, rfl, rfl, SqL.of ha, at0, .int k, rfl, x, k, rfl, rfl, ⟨by omega, by omega⟩, ?_⟩
    refine ⟨.ref a, rfl, a, _, 0, 0, rfl, rfl, ha, rfl, .int (x.fmod k), rfl, ?_⟩
    obtain ⟨f1, f2⟩ := fmod_lt (i := x) k0
    exact q _ _ f1 f2 (But.upd _) ⟨x.fdiv k, y, c, upd_same, Int.fdiv_nonneg x0 (by omega), c0, by omega⟩
  · refine ⟨.ref a, rfl, a, _, 2, _, rfl, rfl, SqL.of ha, at2, c, 1, rfl, rfl, .ref a, rfl, a, _, 2, 2, rfl, rfl, ha, rfl, ?_⟩
    have h1 : (upd H a (.lst [.int x, .int y, .int (c + 1)])) a = some (.lst [.int x, .int y, .int (c + 1)]) := upd_same
    have hb : But a H (upd H a (.lst [.int x, .int y, .int (c + 1)])) := But.upd _
    have hx : x = 0 := by
      have p1 : ¬ 0 < x := of_decide_eq_false (Bool.eq_false_iff.mpr p)
      omega
    have fin : ∀ i : Int, Q (.int (i.fmod k)) (upd H a (.lst [.int x, .int y, .int (c + 1)])) := fun i => by
      obtain ⟨f1, f2⟩ := fmod_lt (i := i) k0
      exact q _ _ f1 f2 hb ⟨x, y, c + 1, h1, x0, by omega, by omega⟩
    refine ⟨.ref a, rfl, a, _, 1, _, rfl, rfl, SqL.of h1, at1, .ref a, rfl, a, _, 2, _, rfl, rfl, SqL.of h1, at2, 48271, c + 1, rfl, rfl, .inl ⟨by decide, by decide⟩, y, _, rfl, rfl, ?_⟩
    refine ⟨.ref a, rfl, a, _, 2, _, rfl, rfl, SqL.of h1, at2, 39373, c + 1, rfl, rfl, _, _, rfl, rfl, .inr ⟨by omega, by omega⟩, .inl ⟨_, rfl, _, _, rfl, rfl, nz1, ?_⟩⟩
    refine ⟨_, rfl, .inl ⟨_, rfl, _, 40009, rfl, rfl, nz2, _, 7, rfl, rfl, ?_⟩⟩
    refine ⟨_, rfl, .ref a, rfl, a, _, 2, _, rfl, rfl, SqL.of h1, at2, _, c + 1, rfl, rfl, .ref a, rfl, a, _, 1, _, rfl, rfl, SqL.of h1, at1, y, 1000003, rfl, rfl, ⟨by decide, by decide⟩, _, _, rfl, rfl, ?_⟩
    refine ⟨_, rfl, _, _, rfl, rfl, .inr (broad_ok _), .inl ⟨_, rfl, _, _, rfl, rfl, nz3, ?_⟩⟩
    refine ⟨_, rfl, _, 48271, rfl, rfl, .inr ⟨by decide, by decide⟩, _, rfl, _, _, rfl, rfl, .inl ⟨_, rfl, _, _, rfl, rfl, nz4, _, 64, rfl, rfl, ⟨by decide, by decide⟩, .inl ⟨_, rfl, .int k, rfl, _, k, rfl, rfl, by omega, ?_⟩⟩⟩
    exact fin _
theorem ok_of (D : Df K mg "_law_of" 13 ["_law_tin", "_law_goods"]) (DT : Df K mg "_law_take" 9 ["_law_tin", "_law_below"]) (Z : Free mg) : Kp P w K mg base D 2 spOf := by
  have GT := ok_take (P := P) (w := w) (base := base) DT Z
  refine D.ok sc13 (fun vs H Q E h => ?_) (fun cdv A outer s H vs Q E hr h => ?_)
  · obtain ⟨a, g, xs, m, rfl, _⟩ := h
    rfl
  obtain ⟨a, g, xs, m, rfl, hg, ne, l0, l1, T, m1, q⟩ := h
  refine ⟨_, pss_one (ps_ret (pe_ix ix_list (pv 1) (pe_call GT hr rfl DT.m DT.F.kp DT.b .nil pass0 (pa_cons (pv 0) (pa_cons (pe_callB call_len_seq (by rfl) Z.len bt_len (pa_cons (pv 1) pa_nil)) pa_nil))) (fun _ _ => rfl))), ?_⟩
  refine ⟨.ref g, rfl, .ref a, rfl, .ref g, rfl, g, xs, rfl, .inl (SqL.of hg), a, (xs.length : Int), m, rfl, by omega, by omega, T, m1, fun r H1 r0 r1 b1 T1 => ?_⟩
  have hr' : r.toNat < xs.length := by omega
  have er : r = ((r.toNat : Nat) : Int) := by omega
  have ea : atI xs r = some xs[r.toNat] := by
    have z : atI xs ((r.toNat : Nat) : Int) = some xs[r.toNat] := atI_nat (List.getElem?_eq_getElem hr')
    rw [← er] at z
    exact z
  exact ⟨g, xs, r, _, rfl, rfl, SqL.of (b1 _ _ ne hg), ea, q _ _ (List.getElem_mem _) b1 T1⟩
end
end K37

set_option Elab.async false
set_option linter.all false
set_option maxRecDepth 100000
set_option maxHeartbeats 4000000
/-! _law_tree: the drawn TERM or VALUE. -/
namespace K37
open PySem PySem.Spec PyProof.Rows L2
/-- leaves as they are drawn -/
def good : Lf → Prop
  | .thing k => k ≠ 7
  | .at w => w = [] ∨ w = [1]
  | .call => True
def goods (t : Tr) : Prop := ∀ l ∈ lvs t, good l
theorem good_short {l : Lf} (h : good l) : shortF l := by
  cases l with
  | «at» w =>
    rcases h with h | h
    · show w.length ≤ 1000
      rw [h]; decide
    · show w.length ≤ 1000
      rw [h]; decide
  | _ => trivial
theorem shorts_of : ∀ {ks : List Tr}, (∀ c ∈ ks, short c) → shorts ks
  | [], _ => trivial
  | k :: ks, h => ⟨h k (by simp), shorts_of fun c hc => h c (List.mem_cons_of_mem _ hc)⟩
theorem lvss_mem : ∀ {ks : List Tr} {c : Tr} {l : Lf}, c ∈ ks → l ∈ lvs c → l ∈ lvss ks
  | k :: ks, c, l, hc, hl => by
    rw [lvss]
    rcases List.mem_cons.mp hc with e | e
    · rw [e] at hl; exact List.mem_append_left _ hl
    · exact List.mem_append_right _ (lvss_mem e hl)
theorem mem_lvss : ∀ {ks : List Tr} {l : Lf}, l ∈ lvss ks → ∃ c ∈ ks, l ∈ lvs c
  | [], l, h => by rw [lvss] at h; cases h
  | k :: ks, l, h => by
    rw [lvss] at h
    rcases List.mem_append.mp h with e | e
    · exact ⟨k, by simp, e⟩
    · obtain ⟨c, hc, hl⟩ := mem_lvss e
      exact ⟨c, List.mem_cons_of_mem _ hc, hl⟩
theorem short_of : ∀ t, (∀ l ∈ lvs t, shortF l) → short t := by
  refine Tr.ind (fun l h => ?_) fun m ks ih h => ?_
  · rw [short]; exact h l (by rw [lvs]; simp)
  · rw [short]
    exact shorts_of fun c hc => ih c hc fun l hl => h l (by rw [lvs]; exact lvss_mem hc hl)
theorem nars_of : ∀ {ks : List Tr}, (∀ c ∈ ks, nar c) → nars ks
  | [], _ => trivial
  | k :: ks, h => ⟨h k (by simp), nars_of fun c hc => h c (List.mem_cons_of_mem _ hc)⟩
theorem nar_of : ∀ t, wf t → nar t := by
  refine Tr.ind (fun l _ => trivial) fun m ks ih h => ?_
  rw [wf] at h
  rw [nar]
  exact ⟨by omega, nars_of fun c hc => ih c hc (wfs_mem h.2.2.2 c hc)⟩
def cost : Nat → Nat
  | 0 => 2
  | d + 1 => 3 + 3 * cost d
theorem cost_pos (d : Nat) : 2 ≤ cost d := by
  cases d with
  | zero => exact Nat.le_refl _
  | succ d => rw [cost]; have := cost_pos d; omega
/-- [e for x in ..] with a state: as lc_gen, Fr told by the turn -/
theorem lc_genI {J : It} {n : Nat} {G : Hp → Prop} {Y : Nat → Hp → V → Hp → Prop} (wk : Walk J n G Y) {i : Nat} {te : TE} {σ : L2.St} {H1 : Hp} {D : Addr} {Qd : Hp → Prop} (Fr : Nat → Hp → Prop) (R : Nat → V → Hp → Prop)
    (h0 : Fr 0 (upd H1 D (.lst []))) (hG : ∀ k H, Fr k H → G H)
    (hset : ∀ k H acc new, H D = some (.lst acc) → Fr k H → Fr k (upd H D (.lst new)) ∧ ∀ j y, R j y H → R j y (upd H D (.lst new)))
    (turn : ∀ k x H H' acc (Q : VK), k < n → Fr k H → H D = some (.lst acc) → Y k H x H' → (∀ y H4, Fr (k + 1) H4 → H4 D = H D → (∀ j z, R j z H → R j z H4) → R k y H4 → Q y H4) → te ((wipe σ [i]).set i (some x)) H' Q)
    (done : ∀ H acc, Fr n H → H D = some (.lst acc) → acc.length = n → (∀ j y, acc[j]? = some y → R j y H) → Qd H) (hn : n ≤ 1000) :
    ∃ W : Nat → Nat → Hp → Prop, (∃ m, W 0 m (upd H1 D (.lst []))) ∧ ∀ k m H, W k m H →
      (J.stop k H ∧ Qd H) ∨ (J.go k H ∧ ∃ Nx : Hp → Prop, (∀ H', Nx H' → ∃ m', m' < m ∧ W (k + 1) m' H') ∧ ∀ x H', J.yld k H x H' → gName i x (wipe σ [i]) H' fun σ2 H2 => wipe σ2 [i] = wipe σ [i] ∧ tYes σ2 H2 fun b H3 =>
        if b = true then te σ2 H3 fun y H4 => ∃ ms, H4 D = some (.lst ms) ∧ ms.length < sizeLine ∧ Nx (upd H4 D (.lst (ms ++ [y]))) else Nx H3) := by
  refine lc_it wk (fun k H => Fr k H ∧ ∃ acc, H D = some (.lst acc) ∧ acc.length = k ∧ ∀ j y, acc[j]? = some y → R j y H) ⟨h0, [], upd_same, rfl, fun j y e => by simp at e⟩ (fun k H _ p => hG k H p.1) (fun k x H H' hk p y => ?_) fun H p => ?_
  · obtain ⟨f, acc, e, l, r⟩ := p
    refine ⟨wipe1, ?_⟩
    unfold tYes
    refine (if_pos rfl).mpr ?_
    refine turn k x H H' acc _ hk f e y fun y H4 f4 d4 k4 r4 => ?_
    rw [e] at d4
    obtain ⟨s1, s2⟩ := hset (k + 1) H4 acc (acc ++ [y]) d4 f4
    refine ⟨acc, d4, small1000 (by omega), s1, acc ++ [y], upd_same, by rw [List.length_append, l]; rfl, fun j z ez => ?_⟩
    by_cases hj : j < acc.length
    · rw [List.getElem?_append_left hj] at ez
      exact s2 _ _ (k4 _ _ (r j z ez))
    · have ej : j = acc.length := by
        have := (List.getElem?_eq_some_iff.mp ez).1
        rw [List.length_append, List.length_singleton] at this
        omega
      subst ej
      rw [List.getElem?_append_right (Nat.le_refl _), Nat.sub_self] at ez
      cases ez
      rw [l]
      exact s2 _ _ r4
  · obtain ⟨f, acc, e, l, r⟩ := p
    exact done H acc f e l r
/-- trees of one kind at each place: a list of them -/
theorem trees_of {H : Hp} {p : Tr → Prop} : ∀ {acc : List V}, (∀ (j : Nat) y, acc[j]? = some y → ∃ t, TAt H t y ∧ p t) → ∃ ts, TAtL H ts acc ∧ ts.length = acc.length ∧ ∀ t ∈ ts, p t
  | [], _ => ⟨[], TAtL.nil, rfl, fun _ h => nomatch h⟩
  | y :: acc, h => by
    obtain ⟨t, h1, h2⟩ := h 0 y rfl
    obtain ⟨ts, g1, g2, g3⟩ := trees_of (acc := acc) fun j z hz => h (j + 1) z (by simpa using hz)
    refine ⟨t :: ts, TAtL.cons h1 g1, by rw [List.length_cons, List.length_cons, g2], fun u hu => ?_⟩
    rcases List.mem_cons.mp hu with e | e
    · rw [e]; exact h2
    · exact g3 u e
theorem ups_tups {H : Hp} {D : Addr} {acc new : List V} (e : H D = some (.lst acc)) : Tups H (upd H D (.lst new)) := fun b ys q => by
  rw [upd_ne (fun z => by rw [z, e] at q; cases q)]
  exact q
def spTree (n : Nat) : Sp := fun vs H Q _ => ∃ (a : Addr) (d : Nat) (kind : Int) (m : Nat), vs = [.ref a, .int (d : Int), .int kind] ∧ d < n ∧ Tin H a m ∧ m + cost d ≤ 1000000 ∧
  ∀ (t : Tr) (r : V) (H' : Hp), But a H H' → Tin H' a (m + cost d) → TAt H' t r → wf t → dep t ≤ d → goods t → Q r H'
section
variable {P : Program} {w : World} {K : PySem.W.Frag} {mg : Str → Option Value} {base : Heap}
theorem sc14 : FnScope ["_law_tin", "_law_deep", "_law_kind", "_law_maker", "_law_many", "_law_lap"] ["_law_tin", "_law_deep", "_law_kind"] (defScope (top 14)) := ⟨rfl, rfl, rfl, by decide +kernel, rfl, by decide +kernel, by decide +kernel⟩
theorem thing_at {H : Hp} {p : Addr} {k : Int} (e : H p = some (.tup [.str "thing", .int k])) : TAt H (.leaf (.thing k)) (.ref p) := by
  unfold TAt
  rw [enc, encF, At]
  exact ⟨p, _, rfl, e, AtL.cons (by rw [At]) (AtL.cons (by rw [At]) AtL.nil)⟩
theorem ints_at {H : Hp} : ∀ w : List Int, AtL H (w.map .int) (w.map V.int)
  | [] => AtL.nil
  | i :: w => AtL.cons (by rw [At]) (ints_at w)
theorem at_at {H : Hp} {p b : Addr} {w : List Int} (e : H p = some (.tup [.str "at", .ref b])) (e2 : H b = some (.tup (w.map V.int))) : TAt H (.leaf (.at w)) (.ref p) := by
  unfold TAt
  rw [enc, encF, At]
  refine ⟨p, _, rfl, e, AtL.cons (by rw [At]) (AtL.cons ?_ AtL.nil)⟩
  rw [At]
  exact ⟨b, _, rfl, e2, ints_at w⟩
theorem call_at {H : Hp} {p b : Addr} (e : H p = some (.tup [.str "call", .int 0, .ref b])) (e2 : H b = some (.tup [.int 0])) : TAt H (.leaf .call) (.ref p) := by
  unfold TAt
  rw [enc, encF, At]
  refine ⟨p, _, rfl, e, AtL.cons (by rw [At]) (AtL.cons (by rw [At]) (AtL.cons ?_ AtL.nil))⟩
  rw [At]
  exact ⟨b, _, rfl, e2, AtL.cons (by rw [At]) AtL.nil⟩
theorem goods_leaf {l : Lf} (h : good l) : goods (.leaf l) := fun k hk => by
  rw [lvs] at hk
  rw [List.mem_singleton.mp hk]
  exact h
theorem goods_node {m : Int} {ks : List Tr} (h : ∀ c ∈ ks, goods c) : goods (.node m ks) := fun k hk => by
  rw [lvs] at hk
  obtain ⟨c, hc, hl⟩ := mem_lvss hk
  exact h c hc k hl
theorem tree_map {n d many : Nat} {a : Addr} {kind : Int} {m : Nat} {σ : L2.St} {H1 : Hp} {D : Addr} {Qd : Hp → Prop} (nD : H1 D = none) (hσ : 5 < σ.length) (h0 : (wipe σ [5])[0]? = some (some (.ref a))) (h1 : (wipe σ [5])[1]? = some (some (.int ((d + 1 : Nat) : Int)))) (h2 : (wipe σ [5])[2]? = some (some (.int kind)))
    (T : Tin H1 a m) (hd : d < n) (hm : m + many * cost d ≤ 1000000) (hn : many ≤ 1000)
    (done : ∀ H acc ts, But a H1 H → Tin H a (m + many * cost d) → H D = some (.lst acc) → TAtL H ts acc → ts.length = many → (∀ t ∈ ts, wf t ∧ dep t ≤ d ∧ goods t) → Qd H) :
    ∃ W : Nat → Nat → Hp → Prop, (∃ m, W 0 m (upd H1 D (.lst []))) ∧ ∀ k m H, W k m H →
      ((Itr 0 many).stop k H ∧ Qd H) ∨ ((Itr 0 many).go k H ∧ ∃ Nx : Hp → Prop, (∀ H', Nx H' → ∃ m', m' < m ∧ W (k + 1) m' H') ∧ ∀ x H', (Itr 0 many).yld k H x H' → gName 5 x (wipe σ [5]) H' fun σ2 H2 => wipe σ2 [5] = wipe σ [5] ∧ tYes σ2 H2 fun b H3 =>
        if b = true then tCall (spTree n) [] E0 (tCons (tVar 0) (tCons (tOp (rI0 fun i j => .int (i - j)) (tVar 1) (tC (.int 1))) (tCons (tVar 2) tNil))) σ2 H3 fun y H4 => ∃ acc, H4 D = some (.lst acc) ∧ acc.length < sizeLine ∧ Nx (upd H4 D (.lst (acc ++ [y]))) else Nx H3) := by
  have nDa : D ≠ a := T.neN nD
  refine lc_genI (walk_range (lo := 0) (n := many)) (fun k H => But a H1 H ∧ Tin H a (m + k * cost d)) (fun j y H => ∃ t, TAt H t y ∧ wf t ∧ dep t ≤ d ∧ goods t) ⟨fun b o _ q => same_new nD _ b o q, by rw [Nat.zero_mul]; exact T.same (same_new nD _)⟩ (fun _ _ _ => trivial) (fun k H acc new e f => ⟨⟨fun b o nb q => ?_, ?_⟩, fun j y r => ?_⟩) (fun k x H H' acc Q hk f e y q => ?_) (fun H acc f e l r => ?_) hn
  · rw [upd_ne (ne_of_none q nD)]
    exact f.1 b o nb q
  · obtain ⟨x, y, c, e1, e2⟩ := f.2
    exact ⟨x, y, c, by rw [upd_ne (Ne.symm nDa)]; exact e1, e2⟩
  · obtain ⟨t, e1, e2⟩ := r
    exact ⟨t, e1.tups (ups_tups e), e2⟩
  · obtain ⟨rfl, rfl⟩ := y
    have hle : (k + 1) * cost d ≤ many * cost d := Nat.mul_le_mul_right _ hk
    rw [Nat.succ_mul] at hle
    refine ⟨.ref a, by rw [List.getElem?_set_ne (by decide)]; exact h0, .int ((d + 1 : Nat) : Int), by rw [List.getElem?_set_ne (by decide)]; exact h1, _, 1, rfl, rfl, .int kind, by rw [List.getElem?_set_ne (by decide)]; exact h2, a, d, kind, m + k * cost d, ?_, hd, f.2, by omega, fun t r H4 b4 T4 a4 w4 d4 g4 => ?_⟩
    · have e : ((d + 1 : Nat) : Int) - 1 = (d : Int) := by omega
      show [V.ref a, V.int (((d + 1 : Nat) : Int) - 1), V.int kind] ++ [] = _
      rw [e, List.append_nil]
    · refine q r H4 ⟨f.1.trans b4, by rw [Nat.succ_mul, ← Nat.add_assoc]; exact T4⟩ (by rw [e]; exact b4 _ _ nDa e) (fun j z ⟨t', e1, e2⟩ => ⟨t', e1.but b4 f.2, e2⟩) ⟨t, a4, w4, d4, g4⟩
  · obtain ⟨ts, g1, g2, g3⟩ := trees_of (fun j y hy => r j y hy)
    exact done H acc ts f.1 f.2 e g1 (by omega) g3
theorem leaf_rd {a : Addr} {kind : Int} {m : Nat} {H : Hp} {Q : VK} {σ : L2.St} (h0 : σ[0]? = some (some (.ref a))) (h2 : σ[2]? = some (some (.int kind))) (T : Tin H a m) (hm : m < 1000000)
    (q : ∀ (t : Tr) (r : V) (H' : Hp), But a H H' → Tin H' a (m + 1) → TAt H' t r → wf t → dep t = 0 → goods t → Q r H') :
    tIf (tTest (tOp rEq (tVar 2) (tC (.int 1)))) (tTup (tCons (tC (.str "thing")) (tCons (tCall spTake [] E0 (tCons (tVar 0) (tCons (tC (.int 3)) tNil))) tNil)))
      (tCall spOf [] E0 (tCons (tVar 0) (tCons (tLst (tCons (tTup (tCons (tC (.str "at")) (tCons (tTup tNil) tNil))) (tCons (tTup (tCons (tC (.str "at")) (tCons (tTup (tCons (tC (.int 1)) tNil)) tNil))) (tCons (tTup (tCons (tC (.str "call")) (tCons (tC (.int 0)) (tCons (tTup (tCons (tC (.int 0)) tNil)) tNil)))) tNil)))) tNil))) σ H Q := by
  refine ⟨_, h2, rfl, _, rfl, ite2 (fun _ => ?_) fun _ => ?_⟩
  · refine ⟨_, h0, a, 3, m, rfl, by decide, by decide, T, hm, fun r H1 r0 r1 b1 T1 => ⟨(by show 2 ≤ sizeLine; decide), fun p np => ?_⟩⟩
    have s1 : Same H1 (upd H1 p (.tup [.str "thing", .int r])) := same_new np _
    exact q (.leaf (.thing r)) _ _ (b1.trans (Same.but s1 a)) (T1.same s1) (thing_at upd_same) trivial rfl (goods_leaf (show r ≠ 7 by omega))
  · refine ⟨_, h0, (by show 0 ≤ sizeLine; decide), fun p1 n1 => ⟨(by show 2 ≤ sizeLine; decide), fun p2 n2 => ⟨(by show 1 ≤ sizeLine; decide), fun p3 n3 => ⟨(by show 2 ≤ sizeLine; decide), fun p4 n4 => ⟨(by show 1 ≤ sizeLine; decide), fun p5 n5 => ⟨(by show 3 ≤ sizeLine; decide), fun p6 n6 => ⟨(by show 3 ≤ sizeLine; decide), fun g ng => ?_⟩⟩⟩⟩⟩⟩⟩
    have s1 := same_new n1 (.tup [])
    have s2 := same_new n2 (.tup [.str "at", .ref p1])
    have s3 := same_new n3 (.tup [.int 1])
    have s4 := same_new n4 (.tup [.str "at", .ref p3])
    have s5 := same_new n5 (.tup [.int 0])
    have s6 := same_new n6 (.tup [.str "call", .int 0, .ref p5])
    have s7 := same_new ng (.lst [.ref p2, .ref p4, .ref p6])
    have t1 := (at_at (w := []) upd_same (s2 _ _ upd_same)).same (s3.trans (s4.trans (s5.trans (s6.trans s7))))
    have t2 := (at_at (w := [1]) upd_same (s4 _ _ upd_same)).same (s5.trans (s6.trans s7))
    have t3 := (call_at upd_same (s6 _ _ upd_same)).same s7
    have s := s1.trans (s2.trans (s3.trans (s4.trans (s5.trans (s6.trans s7)))))
    refine ⟨a, g, _, m, rfl, upd_same, (T.same (s1.trans (s2.trans (s3.trans (s4.trans (s5.trans s6)))))).neN ng, by show 0 < 3; decide, by show 3 < 1000; decide, T.same s, hm, fun x H8 hx b8 T8 => ?_⟩
    have T7 := T.same s
    rcases List.mem_cons.mp hx with rfl | hx1
    · exact q (.leaf (.at [])) _ _ ((Same.but s a).trans b8) T8 (t1.but b8 T7) trivial rfl (goods_leaf (.inl rfl))
    rcases List.mem_cons.mp hx1 with rfl | hx2
    · exact q (.leaf (.at [1])) _ _ ((Same.but s a).trans b8) T8 (t2.but b8 T7) trivial rfl (goods_leaf (.inr rfl))
    · rw [List.mem_singleton.mp hx2]
      exact q (.leaf .call) _ _ ((Same.but s a).trans b8) T8 (t3.but b8 T7) trivial rfl (goods_leaf trivial)
theorem ok_tree (D : Df K mg "_law_tree" 14 ["_law_tin", "_law_deep", "_law_kind"]) (DT : Df K mg "_law_take" 9 ["_law_tin", "_law_below"]) (DO : Df K mg "_law_of" 13 ["_law_tin", "_law_goods"]) (Z : Free mg) : ∀ n : Nat, Kp P w K mg base D (2 + n) (spTree n)
  | 0 => FnOk.mono (kp_none D fun vs H Q E h => by
    obtain ⟨a, d, kind, m, _, h, _⟩ := h
    exact Nat.not_lt_zero _ h) (Nat.zero_le _)
  | n + 1 => by
    have G := ok_tree D DT DO Z n
    have GT := ok_take (P := P) (w := w) (base := base) DT Z
    have GO := ok_of (P := P) (w := w) (base := base) DO DT Z
    refine D.ok sc14 (fun vs H Q E h => ?_) (fun cdv A outer s H vs Q E hr h => ?_)
    · obtain ⟨a, d, kind, m, rfl, _⟩ := h
      rfl
    obtain ⟨a, d, kind, m, rfl, hd, T, hm, q⟩ := h
    have hrT := hr.mono (show 1 ≤ 2 + n by omega)
    have hrO := hr.mono (show 2 ≤ 2 + n by omega)
    refine ⟨_, (pss_cons (ps_if (PW.pt (pw_or (pt_cmpR op_eq (pv 1) pe_int (nomark _)) (pw_or1 (pt_cmpR op_eq (pe_call GT hrT rfl DT.m DT.F.kp DT.b .nil pass0 (pa_cons (pv 0) (pa_cons pe_int pa_nil))) pe_int (nomark _))))) (pss_one (ps_ret (pe_ifExp (pt_cmpR op_eq (pv 2) pe_int (nomark _)) (pe_tup (pa_cons pe_str (pa_cons (pe_call GT hrT rfl DT.m DT.F.kp DT.b .nil pass0 (pa_cons (pv 0) (pa_cons pe_int pa_nil))) pa_nil))) (pe_call GO hrO rfl DO.m DO.F.kp DO.b .nil pass0 (pa_cons (pv 0) (pa_cons (pe_lst (pa_cons (pe_tup (pa_cons pe_str (pa_cons (pe_tup pa_nil) pa_nil))) (pa_cons (pe_tup (pa_cons pe_str (pa_cons (pe_tup (pa_cons pe_int pa_nil)) pa_nil))) (pa_cons (pe_tup (pa_cons pe_str (pa_cons pe_int (pa_cons (pe_tup (pa_cons pe_int pa_nil)) pa_nil)))) pa_nil)))) pa_nil)))))) pss_nil)
      (pss_cons (ps_set (i := 3) sc14.nd rfl (Or.inl rfl) (pe_call GO hrO rfl DO.m DO.F.kp DO.b .nil pass0 (pa_cons (pv 0) (pa_cons (pe_lst (pa_cons pe_int (pa_cons pe_int (pa_cons pe_int (pa_cons pe_int pa_nil))))) pa_nil))))
      (pss_cons (ps_set (i := 4) sc14.nd rfl (Or.inl rfl) (pe_call GO hrO rfl DO.m DO.F.kp DO.b .nil pass0 (pa_cons (pv 0) (pa_cons (pe_lst (pa_cons pe_int (pa_cons pe_int (pa_cons pe_int (pa_cons pe_int (pa_cons pe_int (pa_cons (pe_ifExp (pt_cmpR op_eq (pv 1) pe_int (nomark _)) pe_int pe_int) pa_nil))))))) pa_nil))))
      (pss_one (ps_ret (pe_tup (pa_cons pe_str (pa_cons (pv 3) (pa_cons (pe_callTy call_tuple_of (by rfl) Z.tuple bt_tuple (pa_cons (pe_lc (own := [("_law_lap", 5)]) (g := gName 5) (tt := tYes) rfl sc14.nd (pi_range1 (by rfl) Z.range (pa_cons (pv 4) pa_nil)) (blkOk_by (N := ["_law_tin", "_law_deep", "_law_kind", "_law_maker", "_law_many", "_law_lap"]) (sc := defScope (top 14)) (by decide +kernel)) (fun _ _ _ _ _ => pg_name (i := 5) sc14.nd rfl (Or.inl rfl)) (fun _ _ _ _ _ => pts_nil) (fun _ _ _ _ _ => (pe_call G hr rfl D.m D.F.kp D.b .nil pass0 (pa_cons (pv 0) (pa_cons (pe_op op_sub (pv 1) pe_int) (pa_cons (pv 2) pa_nil)))))) pa_nil)) pa_nil))))))))), ?_⟩
    have cp := cost_pos d
    refine ⟨.int d, rfl, rfl, _, rfl, ite2 (fun e => ?_) fun e => ?_⟩
    · refine iteT (leaf_rd rfl rfl T (by omega) fun t r H' b' T' a' w' d' g' => q t r H' b' (T'.le (by omega)) a' w' (by omega) g')
    · refine ⟨.ref a, rfl, a, 4, m, rfl, by decide, by decide, T, by omega, fun r1 H1 _ _ b1 T1 => ⟨rfl, _, rfl, ite2 (fun _ => ?_) fun _ => ?_⟩⟩
      · refine leaf_rd rfl rfl T1 (by omega) fun t r H' b' T' a' w' d' g' => q t r H' (b1.trans b') (T'.le (by omega)) a' w' (by omega) g'
      · obtain ⟨d', rfl⟩ : ∃ d', d = d' + 1 := by
          cases d with
          | zero => exact absurd (decide_eq_true rfl) e
          | succ d' => exact ⟨d', rfl⟩
        rw [cost] at hm q
        refine ⟨.ref a, rfl, (by show 4 ≤ sizeLine; decide), fun g1 n1 => ?_⟩
        have s1 : Same H1 (upd H1 g1 (.lst [.int 1, .int 1, .int 1, .int 2])) := same_new n1 _
        refine ⟨a, g1, _, m + 1, rfl, upd_same, T1.neN n1, by show 0 < 4; decide, by show 4 < 1000; decide, T1.same s1, by omega, fun x H2 hx b2 T2 => ?_⟩
        obtain ⟨mk, rfl, hmk⟩ : ∃ mk : Int, x = .int mk ∧ (mk = 1 ∨ mk = 2) := by
          simp only [List.mem_cons, or_false, List.not_mem_nil] at hx
          rcases hx with h | h | h | h
          · exact ⟨1, h, .inl rfl⟩
          · exact ⟨1, h, .inl rfl⟩
          · exact ⟨1, h, .inl rfl⟩
          · exact ⟨2, h, .inr rfl⟩
        have b02 : But a H H2 := b1.trans ((Same.but s1 a).trans b2)
        refine ⟨.ref a, rfl, .int ((d' + 1 : Nat) : Int), rfl, rfl, _, rfl, ite2 (fun _ => ?_) fun _ => ?_⟩
        all_goals
          refine ⟨(by show 6 ≤ sizeLine; decide), fun g2 n2 => ?_⟩
          refine ⟨a, g2, _, m + 1 + 1, rfl, upd_same, T2.neN n2, by show 0 < 6; decide, by show 6 < 1000; decide, T2.same (same_new n2 _), by omega, fun x H3 hx b3 T3 => ?_⟩
          obtain ⟨many, rfl, hmy, hmy3⟩ : ∃ many : Nat, x = .int (many : Int) ∧ 1 ≤ many ∧ many ≤ 3 := by
            simp only [List.mem_cons, or_false, List.not_mem_nil] at hx
            rcases hx with h | h | h | h | h | h
            · exact ⟨2, h, by decide, by decide⟩
            · exact ⟨2, h, by decide, by decide⟩
            · exact ⟨2, h, by decide, by decide⟩
            · exact ⟨2, h, by decide, by decide⟩
            · exact ⟨1, h, by decide, by decide⟩
            · first
                | exact ⟨3, h, by decide, by decide⟩
                | exact ⟨2, h, by decide, by decide⟩
          have b03 : But a H H3 := b02.trans ((Same.but (same_new n2 _) a).trans b3)
          have hmul : many * cost d' ≤ 3 * cost d' := Nat.mul_le_mul_right _ hmy3
          refine ⟨.int mk, rfl, .int (many : Int), rfl, (many : Int), rfl, by omega, by omega, fun C nC => ?_⟩
          refine tree_map (n := n) (d := d') (a := a) (kind := kind) (m := m + 1 + 1 + 1) nC (by show 5 < 6; decide) rfl rfl rfl T3 (by omega) (by rw [Int.toNat_natCast]; omega) (by rw [Int.toNat_natCast]; omega) fun H4 acc ts b4 T4 e4 a4 l4 p4 => ?_
          rw [Int.toNat_natCast] at T4 l4
          refine ⟨C, acc, rfl, .inl ⟨SqL.of e4, fun l nl => ⟨(by show 3 ≤ sizeLine; decide), fun p np => ?_⟩⟩⟩
          have s5 : Same H4 (upd H4 l (.tup acc)) := same_new nl _
          have s6 : Same (upd H4 l (.tup acc)) (upd (upd H4 l (.tup acc)) p (.tup [.str "make", .int mk, .ref l])) := same_new np _
          refine q (.node mk ts) _ _ (b03.trans (b4.trans (Same.but (s5.trans s6) a))) ((T4.same (s5.trans s6)).le (by omega)) (TAt.node.mpr ⟨p, l, acc, rfl, upd_same, s6 _ _ upd_same, a4.same (s5.trans s6)⟩) ?_ ?_ ?_
          · rw [wf]
            exact ⟨hmk, by omega, by omega, wfs_of fun t ht => (p4 t ht).1⟩
          · rw [dep]
            have := deps_le (ks := ts) (n := d') fun t ht => (p4 t ht).2.1
            omega
          · exact goods_node fun t ht => (p4 t ht).2.2
end
end K37

set_option Elab.async false
set_option linter.all false
set_option maxRecDepth 100000
set_option maxHeartbeats 4000000
/-! _law_is_two, _law_spots. -/
namespace K37
open PySem PySem.Spec PyProof.Rows L2
/-! ### the mathematics -/
def fstTwo (M : Int) (ks : List Tr) : Bool := match ks with
  | a :: _ => two M a
  | [] => false
mutual
/-- the ways to makings of two by M whose first term is such a making -/
def spots (M : Int) : Tr → List (List Nat)
  | .leaf _ => []
  | .node m ks => (if (two M (.node m ks) && fstTwo M ks) = true then [[]] else []) ++ spotsF M 0 ks
def spotsF (M : Int) : Nat → List Tr → List (List Nat)
  | _, [] => []
  | k, c :: cs => (spots M c).map (k :: ·) ++ spotsF M (k + 1) cs
end
theorem spotsF_snoc (M : Int) : ∀ (xs : List Tr) (k : Nat) (c : Tr), spotsF M k (xs ++ [c]) = spotsF M k xs ++ (spots M c).map ((k + xs.length) :: ·)
  | [], k, c => by
    show spotsF M k [c] = _
    rw [spotsF, spotsF, spotsF, List.append_nil, List.nil_append]
    rfl
  | x :: xs, k, c => by
    show spotsF M k (x :: (xs ++ [c])) = _
    rw [spotsF, spotsF, spotsF_snoc M xs (k + 1) c, List.append_assoc]
    have e : k + 1 + xs.length = k + (x :: xs).length := by rw [List.length_cons]; omega
    rw [e]
theorem spotsF_app (M : Int) : ∀ (xs : List Tr) (k : Nat) (ys : List Tr), spotsF M k (xs ++ ys) = spotsF M k xs ++ spotsF M (k + xs.length) ys
  | [], k, ys => by rw [List.nil_append, spotsF, List.nil_append]; rfl
  | x :: xs, k, ys => by
    show spotsF M k (x :: (xs ++ ys)) = _
    rw [spotsF, spotsF, spotsF_app M xs (k + 1) ys, List.append_assoc]
    have e : k + 1 + xs.length = k + (x :: xs).length := by rw [List.length_cons]; omega
    rw [e]
theorem spotsF_take (M : Int) (ks : List Tr) (i : Nat) : (spotsF M 0 (ks.take i)).length ≤ (spotsF M 0 ks).length := by
  have h := spotsF_app M (ks.take i) 0 (ks.drop i)
  rw [List.take_append_drop i ks] at h
  rw [h, List.length_append]
  omega
theorem spotsF_mem {M : Int} : ∀ {ks : List Tr} {k : Nat} {w : List Nat}, w ∈ spotsF M k ks → ∃ (i : Nat) (c : Tr) (u : List Nat), ks[i]? = some c ∧ u ∈ spots M c ∧ w = (k + i) :: u
  | [], k, w, h => by rw [spotsF] at h; cases h
  | c :: cs, k, w, h => by
    rw [spotsF] at h
    rcases List.mem_append.mp h with e | e
    · obtain ⟨u, hu, rfl⟩ := List.mem_map.mp e
      exact ⟨0, c, u, rfl, hu, rfl⟩
    · obtain ⟨i, c', u, e1, e2, e3⟩ := spotsF_mem e
      exact ⟨i + 1, c', u, by simpa using e1, e2, by rw [e3]; congr 1; omega⟩
theorem spots_len {M : Int} : ∀ t, ∀ w ∈ spots M t, w.length ≤ dep t := by
  refine Tr.ind (fun l w h => ?_) fun m ks ih w h => ?_
  · rw [spots] at h; cases h
  · rw [spots] at h
    rcases List.mem_append.mp h with e | e
    · have e' : w = [] := by
        split at e
        · exact List.mem_singleton.mp e
        · cases e
      rw [e']
      exact Nat.zero_le _
    · obtain ⟨i, c, u, e1, e2, rfl⟩ := spotsF_mem e
      have mc := List.mem_of_getElem? e1
      have h1 := ih c mc u e2
      have h2 := dep_kid (m := m) mc
      rw [List.length_cons]
      omega
theorem spotsF_count {M : Int} : ∀ {ks : List Tr} {k : Nat}, (∀ c ∈ ks, (spots M c).length ≤ wt c) → (spotsF M k ks).length ≤ (ks.map wt).sum
  | [], k, _ => by rw [spotsF]; exact Nat.zero_le _
  | c :: cs, k, h => by
    rw [spotsF, List.length_append, List.length_map, List.map_cons, List.sum_cons]
    have h1 := h c (by simp)
    have h2 := spotsF_count (ks := cs) (k := k + 1) fun x hx => h x (List.mem_cons_of_mem _ hx)
    omega
theorem sum_wt2 (xs : List Nat) : xs.sum ≤ wt2 xs := by
  match xs with
  | [] => exact Nat.le_refl _
  | [a] => exact Nat.le_refl _
  | [a, b] => show [a, b].sum ≤ 2 * a + b + 1; simp only [List.sum_cons, List.sum_nil]; omega
  | a :: b :: c :: r => exact Nat.le_refl _
theorem spots_count {M : Int} : ∀ t, (spots M t).length ≤ wt t := by
  refine Tr.ind (fun l => by rw [spots]; exact Nat.zero_le _) fun m ks ih => ?_
  have h1 := spotsF_count (k := 0) ih
  rw [spots, wt_node, List.length_append]
  split
  · rename_i h
    obtain ⟨a, b, e⟩ := two_iff.mp (Bool.and_eq_true_iff.mp h).1
    injection e with e1 e2
    subst e2
    simp only [List.map_cons, List.map_nil, List.sum_cons, List.sum_nil] at h1 ⊢
    show 1 + _ ≤ 2 * wt a + wt b + 1
    omega
  · have h2 := sum_wt2 (ks.map wt)
    rw [List.length_nil]
    omega
theorem wt_kid {m : Int} {ks : List Tr} {c : Tr} (h : c ∈ ks) : wt c ≤ wt (.node m ks) := by
  rw [wt_node]
  have h1 := sum_wt2 (ks.map wt)
  have h2 : ∀ {l : List Tr}, c ∈ l → wt c ≤ (l.map wt).sum := fun {l} => by
    induction l with
    | nil => intro q; cases q
    | cons x l ih =>
      intro q
      simp only [List.map_cons, List.sum_cons]
      rcases List.mem_cons.mp q with e | e
      · rw [e]; omega
      · have := ih e; omega
  have := h2 h
  omega
theorem stillF {M : Int} : ∀ {ks : List Tr} {k : Nat}, spotsF M k ks = [] → ∀ c ∈ ks, spots M c = []
  | [], k, _, c, h => nomatch h
  | x :: ks, k, e, c, h => by
    rw [spotsF] at e
    obtain ⟨e1, e2⟩ := List.append_eq_nil_iff.mp e
    rcases List.mem_cons.mp h with q0 | q1
    · rw [q0]; exact List.map_eq_nil_iff.mp e1
    · exact stillF e2 c q1
/-- no way: nothing to be moved -/
theorem still_of {M : Int} : ∀ t, spots M t = [] → still M t := by
  refine Tr.ind (fun l _ => trivial) fun m ks ih h => ?_
  rw [spots] at h
  obtain ⟨h1, h2⟩ := List.append_eq_nil_iff.mp h
  rw [still]
  refine ⟨?_, stills_of fun c hc => ih c hc (stillF h2 c hc)⟩
  rintro ⟨q1, a, r, rfl, q2⟩
  rw [if_pos (by rw [Bool.and_eq_true]; exact ⟨q1, q2⟩)] at h1
  cases h1

/-! ### ways as data -/
def wenc (w : List Nat) : PyData := .tuple (w.map fun (k : Nat) => .int (k : Int))
def wvs (w : List Nat) : List V := w.map fun (k : Nat) => V.int (k : Int)
theorem wvs_at {H : Hp} : ∀ w : List Nat, AtL H (w.map fun (k : Nat) => PyData.int (k : Int)) (wvs w)
  | [] => AtL.nil
  | i :: w => AtL.cons (by rw [At]) (wvs_at w)
theorem wenc_at {H : Hp} {w : List Nat} {v : V} : At H (wenc w) v ↔ ∃ p, v = .ref p ∧ H p = some (.tup (wvs w)) := by
  constructor
  · intro h
    unfold wenc at h
    rw [At] at h
    obtain ⟨a, xs, rfl, h1, h2⟩ := h
    have e : ∀ {w : List Nat} {xs : List V}, AtL H (w.map fun (k : Nat) => PyData.int (k : Int)) xs → xs = wvs w := fun {w} => by
      induction w with
      | nil => intro xs q; rw [List.map_nil, AtL] at q; exact q
      | cons k w ih =>
        intro xs q
        rw [List.map_cons, AtL] at q
        obtain ⟨v, r, rfl, q1, q2⟩ := q
        rw [At] at q1
        rw [q1, ih q2]
        rfl
    rw [e h2] at h1
    exact ⟨a, rfl, h1⟩
  · rintro ⟨p, rfl, h⟩
    unfold wenc
    rw [At]
    exact ⟨p, _, rfl, h, wvs_at w⟩
theorem tupD_wenc (w : List Nat) : tupD (wenc w) := by
  unfold wenc
  rw [tupD]
  exact tupDs_of fun d hd => by
    obtain ⟨c, _, rfl⟩ := List.mem_map.mp hd
    trivial
def WsAt (H : Hp) (ws : List (List Nat)) (vs : List V) : Prop := AtL H (ws.map wenc) vs
theorem WsAt.tups {H H' : Hp} {ws : List (List Nat)} {vs : List V} (h : WsAt H ws vs) (s : Tups H H') : WsAt H' ws vs := AtL.tups s _ _ (tupDs_of fun d hd => by
  obtain ⟨c, _, rfl⟩ := List.mem_map.mp hd
  exact tupD_wenc c) h
theorem WsAt.append {H : Hp} {ws us : List (List Nat)} {vs xs : List V} (h : WsAt H ws vs) (h' : WsAt H us xs) : WsAt H (ws ++ us) (vs ++ xs) := by
  unfold WsAt
  rw [List.map_append]
  exact AtL.append h h'
theorem WsAt.length {H : Hp} {ws : List (List Nat)} {vs : List V} (h : WsAt H ws vs) : vs.length = ws.length := by
  rw [AtL.length h, List.length_map]

def spIs2 : Sp := fun vs H Q _ => ∃ (t : Tr) (v : V) (M : Int), vs = [v, .int M] ∧ TAt H t v ∧ Q (.bl (two M t)) H
def spSpots (n : Nat) : Sp := fun vs H Q _ => ∃ (t : Tr) (v : V) (M : Int), vs = [v, .int M] ∧ TAt H t v ∧ dep t < n ∧ n ≤ 500 ∧ wt t ≤ 500 ∧
  ∀ (r : Addr) (H' : Hp) (ws : List V), Same H H' → H r = none → H' r = some (.lst ws) → WsAt H' (spots M t) ws → Q (.ref r) H'
section
variable {P : Program} {w : World} {K : PySem.W.Frag} {mg : Str → Option Value} {base : Heap}
theorem sc16 : FnScope ["_law_tree_here", "_law_maker"] ["_law_tree_here", "_law_maker"] (defScope (top 16)) := ⟨rfl, rfl, rfl, by decide +kernel, rfl, by decide +kernel, by decide +kernel⟩
theorem sc15 : FnScope ["_law_tree_here", "_law_maker", "_law_found", "_law_k", "_law_own", "_law_way"] ["_law_tree_here", "_law_maker"] (defScope (top 15)) := ⟨rfl, rfl, rfl, by decide +kernel, rfl, by decide +kernel, by decide +kernel⟩
theorem ok_is2 (D : Df K mg "_law_is_two" 16 ["_law_tree_here", "_law_maker"]) (Z : Free mg) : Kp P w K mg base D 1 spIs2 := by
  refine D.ok sc16 (fun vs H Q E h => ?_) (fun cdv A outer s H vs Q E hr h => ?_)
  · obtain ⟨t, v, M, rfl, _⟩ := h
    rfl
  obtain ⟨t, v, M, rfl, hv, q⟩ := h
  refine ⟨_, (pss_one (ps_ret (pe_and (pe_cmpR op_eq (pe_ix ix_tup (pv 0) pe_int (fun _ _ => rfl)) pe_str (nomark _)) (pe_and (pe_cmpR op_eq (pe_ix ix_tup (pv 0) pe_int (fun _ _ => rfl)) (pv 1) (nomark _)) (pe_one (pe_cmpR op_eq (pe_callB call_len_seq (by rfl) Z.len bt_len (pa_cons (pe_ix ix_tup (pv 0) pe_int (fun _ _ => rfl)) pa_nil)) pe_int (nomark _))))))), ?_⟩
  cases t with
  | leaf l =>
    obtain ⟨a, r, rfl, ha⟩ := hv.leaf
    refine ⟨.ref a, rfl, a, _, 0, _, rfl, rfl, SqT.of ha, at0, rfl, _, rfl, ?_⟩
    rw [dmake]
    exact iteF q
  | node m ks =>
    obtain ⟨a, b, xs, rfl, ha, hb, hx⟩ := TAt.node.mp hv
    refine ⟨.ref a, rfl, a, _, 0, _, rfl, rfl, SqT.of ha, at0, rfl, _, rfl, iteT ?_⟩
    refine ⟨.ref a, rfl, a, _, 1, _, rfl, rfl, SqT.of ha, at1, .int M, rfl, rfl, _, rfl, ?_⟩
    by_cases hm : m = M
    · rw [dint hm]
      refine iteT ⟨.ref a, rfl, a, _, 2, _, rfl, rfl, SqT.of ha, at2, b, _, rfl, .inr (SqT.of hb), rfl, ?_⟩
      have e : decide (V.int ((xs.length : Nat) : Int) = V.int 2) = two M (.node m ks) := by
        show _ = (decide (m = M) && ks.length == 2)
        rw [hx.length]
        by_cases h2 : ks.length = 2
        · rw [dint (show ((ks.length : Nat) : Int) = 2 by omega), decide_eq_true hm, h2]
          rfl
        · rw [dintn (show ¬ ((ks.length : Nat) : Int) = 2 by omega), decide_eq_true hm, Bool.true_and]
          exact (beq_eq_false_iff_ne.mpr h2).symm
      rw [e]
      exact q
    · rw [dintn hm]
      have e : two M (.node m ks) = false := by simp [two, hm]
      rw [e] at q
      exact iteF q
theorem way_at {H : Hp} {us : List (List Nat)} {vs : List V} {k : Nat} {x : V} (h : WsAt H us vs) (e : vs[k]? = some x) : ∃ u p, us[k]? = some u ∧ x = .ref p ∧ H p = some (.tup (wvs u)) := by
  obtain ⟨d, e1, h1⟩ := AtL.get h e
  rw [List.getElem?_map] at e1
  obtain ⟨u, e2, rfl⟩ := Option.map_eq_some_iff.mp e1
  obtain ⟨p, e3, h3⟩ := wenc_at.mp h1
  exact ⟨u, p, e2, e3, h3⟩
theorem wvs_len (w : List Nat) : (wvs w).length = w.length := List.length_map _
/-- the ways of one term, each led by its place -/
theorem way_map {i : Nat} {r : Addr} {us : List (List Nat)} {xs : List V} {σ : L2.St} {H1 : Hp} {D : Addr} {Qd : Hp → Prop} (hr : H1 r = some (.lst xs)) (nD : H1 D = none) (hσ : 5 < σ.length) (hk : (wipe σ [5])[3]? = some (some (.int (i : Int))))
    (hx : WsAt H1 us xs) (hn : us.length ≤ 500) (hl : ∀ u ∈ us, u.length ≤ 500)
    (done : ∀ H acc, Same H1 H → H D = some (.lst acc) → WsAt H (us.map (i :: ·)) acc → Qd H) :
    ∃ W : Nat → Nat → Hp → Prop, (∃ m, W 0 m (upd H1 D (.lst []))) ∧ ∀ k m H, W k m H →
      ((Itl K r).stop k H ∧ Qd H) ∨ ((Itl K r).go k H ∧ ∃ Nx : Hp → Prop, (∀ H', Nx H' → ∃ m', m' < m ∧ W (k + 1) m' H') ∧ ∀ x H', (Itl K r).yld k H x H' → gName 5 x (wipe σ [5]) H' fun σ2 H2 => wipe σ2 [5] = wipe σ [5] ∧ tYes σ2 H2 fun b H3 =>
        if b = true then tOp (rCatA K) (tTup (tCons (tVar 3) tNil)) (tVar 5) σ2 H3 fun y H4 => ∃ acc, H4 D = some (.lst acc) ∧ acc.length < sizeLine ∧ Nx (upd H4 D (.lst (acc ++ [y]))) else Nx H3) := by
  have lx := hx.length
  refine lc_gen (walk_list (K := K) (a := r) (xs := xs)) (Same H1) (fun j y H => ∃ u, us[j]? = some u ∧ At H (wenc (i :: u)) y) (same_new nD _) (fun H s => SqL.of (s _ _ hr)) (fun H acc new e s => ⟨fun b o q => ?_, fun j y r => ?_⟩) (fun k x H H' acc Q hk' s e y q => ?_) (fun H acc s e l r => ?_) (by omega)
  · rw [upd_ne (ne_of_none q nD)]
    exact s b o q
  · obtain ⟨u, e1, e3⟩ := r
    exact ⟨u, e1, At.tups (ups_tups e) _ _ (tupD_wenc _) e3⟩
  · obtain ⟨rfl, ex⟩ := y
    obtain ⟨u, p, eu, rfl, hp⟩ := way_at hx ex
    have lu := hl u (List.mem_of_getElem? eu)
    have z : ([.int (i : Int)] : List V).length + (wvs u).length ≤ sizeLine := by
      rw [wvs_len, List.length_singleton]
      exact Nat.le_of_lt (small1000 (by omega))
    refine ⟨.int (i : Int), by rw [List.getElem?_set_ne (by decide)]; exact hk, (by show 1 ≤ sizeLine; decide), fun p1 n1 => ?_⟩
    have s1 := same_new n1 (.tup [.int (i : Int)])
    have fin : ∀ p2 H4, Same H' H4 → H4 p2 = some (.tup (wvs (i :: u))) → Q (.ref p2) H4 := fun p2 H4 s4 h4 =>
      q _ H4 (s.trans s4) (by rw [e]; exact s4 _ _ e) (fun j z ⟨v, e1, e3⟩ => ⟨v, e1, At.same s4 _ _ e3⟩) ⟨u, eu, wenc_at.mpr ⟨p2, rfl, h4⟩⟩
    refine ⟨.ref p, List.getElem?_set_self (by rw [wipe_length]; exact hσ), p1, p, [.int (i : Int)], wvs u, rfl, rfl, SqT.of upd_same, SqT.of (s1 _ _ (s _ _ hp)), z, (fun h => nomatch h), fun _ h => ?_, fun _ _ p2 n2 => ?_⟩
    · have e0 : u = [] := by
        cases u with
        | nil => rfl
        | cons a u => cases h
      rw [e0] at fin
      exact fin p1 _ s1 upd_same
    · exact fin p2 _ (s1.trans (same_new n2 _)) upd_same
  · refine done H acc s e (AtL.of_get (by rw [List.length_map, List.length_map]; omega) fun j v ev => ?_)
    obtain ⟨u, e1, e3⟩ := r j v ev
    exact ⟨_, by rw [List.getElem?_map, List.getElem?_map, e1]; rfl, e3⟩
theorem ok_spots (D : Df K mg "_law_spots" 15 ["_law_tree_here", "_law_maker"]) (D2 : Df K mg "_law_is_two" 16 ["_law_tree_here", "_law_maker"]) (Z : Free mg) : ∀ n : Nat, Kp P w K mg base D (1 + n) (spSpots n)
  | 0 => FnOk.mono (kp_none D fun vs H Q E h => by
    obtain ⟨t, v, M, _, _, h, _⟩ := h
    exact Nat.not_lt_zero _ h) (Nat.zero_le _)
  | n + 1 => by
    have G := ok_spots D D2 Z n
    have G2 := ok_is2 (P := P) (w := w) (base := base) D2 Z
    refine D.ok sc15 (fun vs H Q E h => ?_) (fun cdv A outer s H vs Q E hr h => ?_)
    · obtain ⟨t, v, M, rfl, _⟩ := h
      rfl
    obtain ⟨t, v, M, rfl, hv, hd, hn, hw, q⟩ := h
    have hr2 := hr.mono (show 1 ≤ 1 + n by omega)
    cases t with
    | leaf l =>
      refine ⟨_, (pss_cons (ps_if (pt_cmpR op_ne (pe_ix ix_tup (pv 0) pe_int (fun _ _ => rfl)) pe_str (nomark _)) (pss_one (ps_ret (pe_lst pa_nil))) pss_nil)
      (pss_cons (ps_set (i := 2) sc15.nd rfl (Or.inl rfl) (pe_lst pa_nil))
      (pss_cons (ps_if (PW.pt (pw_and (pt_cmpR op_eq (pe_ix ix_tup (pv 0) pe_int (fun _ _ => rfl)) (pv 1) (nomark _)) (pw_and (pt_cmpR op_eq (pe_callB call_len_seq (by rfl) Z.len bt_len (pa_cons (pe_ix ix_tup (pv 0) pe_int (fun _ _ => rfl)) pa_nil)) pe_int (nomark _)) (pw_and1 (pt_val (pe_call G2 hr2 rfl D2.m D2.F.kp D2.b .nil pass0 (pa_cons (pe_ix ix_tup (pe_ix ix_tup (pv 0) pe_int (fun _ _ => rfl)) pe_int (fun _ _ => rfl)) (pa_cons (pv 1) pa_nil)))))))) (pss_one (ps_set (i := 2) sc15.nd rfl (Or.inl rfl) (pe_lst (pa_cons (pe_tup pa_nil) pa_nil)))) pss_nil)
      (pss_cons (ps_for PassesOwn.never rfl (pi_enumT (by rfl) Z.enumerate (pa_cons (pe_ix ix_tup (pv 0) pe_int (fun _ _ => rfl)) pa_nil)) (pg_tup (by rfl) (pgs_cons (pg_name (i := 3) sc15.nd rfl (Or.inr rfl)) (pgs_cons (pg_name (i := 4) sc15.nd rfl (Or.inl rfl)) pgs_nil))) (pss_one (ps_set (i := 2) sc15.nd rfl (Or.inl rfl) (pe_op op_cat (pv 2) (pe_lc (own := [("_law_way", 5)]) (g := gName 5) (tt := tYes) rfl sc15.nd (pi_list (pe_call G hr rfl D.m D.F.kp D.b .nil pass0 (pa_cons (pv 4) (pa_cons (pv 1) pa_nil)))) (blkOk_by (N := ["_law_tree_here", "_law_maker", "_law_found", "_law_k", "_law_own", "_law_way"]) (sc := defScope (top 15)) (by decide +kernel)) (fun _ _ _ _ _ => pg_name (i := 5) sc15.nd rfl (Or.inl rfl)) (fun _ _ _ _ _ => pts_nil) (fun _ _ _ _ _ => (pe_op (r := rCatA K) op_catA (pe_tup (pa_cons (pv 3) pa_nil)) (pv 5))))))))
      (pss_one (ps_ret (pv 2))))))), ?_⟩
      obtain ⟨a, r, rfl, ha⟩ := hv.leaf
      refine ⟨.ref a, rfl, a, _, 0, _, rfl, rfl, SqT.of ha, at0, rfl, _, rfl, ?_⟩
      rw [dmake]
      refine iteT ⟨(by show 0 ≤ sizeLine; decide), fun p np => ?_⟩
      refine q p _ [] (same_new np _) np upd_same ?_
      rw [spots]
      exact AtL.nil
    | node m ks =>
      obtain ⟨a, b, xs, rfl, ha, hb, hx⟩ := TAt.node.mp hv
      have lx := hx.length
      have rest : ∃ t, PSs (cxOf CX0 P w K mg base ["_law_tree_here", "_law_maker", "_law_found", "_law_k", "_law_own", "_law_way"] "_law_spots" (defScope (top 15)) D.f cdv A outer s H E).nox ((defBody (top 15)).drop 3) t ∧
          ∀ (f : Addr) (H1 : Hp) (vs0 : List V) (pre : List (List Nat)), Same H H1 → H1 f = some (.lst vs0) → WsAt H1 pre vs0 → pre ++ spotsF M 0 ks = spots M (.node m ks) → H f = none →
            t { nx := fun _ H' => Q .non H', rt := Q } [some (.ref a), some (.int M), some (.ref f), none, none, none] H1 := by
        refine ⟨_, (pss_cons (ps_for PassesOwn.never rfl (pi_enumT (by rfl) Z.enumerate (pa_cons (pe_ix ix_tup (pv 0) pe_int (fun _ _ => rfl)) pa_nil)) (pg_tup (by rfl) (pgs_cons (pg_name (i := 3) sc15.nd rfl (Or.inr rfl)) (pgs_cons (pg_name (i := 4) sc15.nd rfl (Or.inl rfl)) pgs_nil))) (pss_one (ps_set (i := 2) sc15.nd rfl (Or.inl rfl) (pe_op op_cat (pv 2) (pe_lc (own := [("_law_way", 5)]) (g := gName 5) (tt := tYes) rfl sc15.nd (pi_list (pe_call G hr rfl D.m D.F.kp D.b .nil pass0 (pa_cons (pv 4) (pa_cons (pv 1) pa_nil)))) (blkOk_by (N := ["_law_tree_here", "_law_maker", "_law_found", "_law_k", "_law_own", "_law_way"]) (sc := defScope (top 15)) (by decide +kernel)) (fun _ _ _ _ _ => pg_name (i := 5) sc15.nd rfl (Or.inl rfl)) (fun _ _ _ _ _ => pts_nil) (fun _ _ _ _ _ => (pe_op (r := rCatA K) op_catA (pe_tup (pa_cons (pv 3) pa_nil)) (pv 5))))))))
      (pss_one (ps_ret (pv 2)))), fun f H1 vs0 pre s1 e1 w1 hpre nf => ?_⟩
        have cnt := spots_count (M := M) (.node m ks)
        rw [← hpre, List.length_append] at cnt
        refine ⟨.ref a, rfl, a, _, 2, _, rfl, rfl, SqT.of (s1 _ _ ha), at2, b, xs, rfl, SqT.of (s1 _ _ hb), ?_⟩
        refine for_it (walk_enumT (K := K) (a := b) (xs := xs)) (fun i σ H' => ∃ (f' : Addr) (vs' : List V) (o3 o4 o5 : Option V), σ = [some (.ref a), some (.int M), some (.ref f'), o3, o4, o5] ∧ Same H1 H' ∧ H' f' = some (.lst vs') ∧ WsAt H' (pre ++ spotsF M 0 (ks.take i)) vs' ∧ H f' = none)
          ⟨f, vs0, none, none, none, rfl, Same.refl _, e1, by rw [List.take_zero, spotsF, List.append_nil]; exact w1, nf⟩ (fun i σ H' _ p => ?_) (fun i x σ H' H'' hi p y => ?_) fun σ H' p => ?_
        · obtain ⟨_, _, _, _, _, _, s', _⟩ := p
          exact SqT.of (s' _ _ (s1 _ _ hb))
        · obtain ⟨f', vs', o3, o4, o5, rfl, s', e', w', nf'⟩ := p
          obtain ⟨T, x0, y0, rfl, nT, rfl, ex, ey⟩ := y
          cases ex
          obtain ⟨c, ec, hc⟩ := hx.get ey
          have mc := List.mem_of_getElem? ec
          have sT : Same H' (upd H' T (.tup [.int (i : Int), y0])) := same_new nT _
          have k1 := dep_kid (m := m) mc
          have k2 := wt_kid (m := m) mc
          refine ⟨T, _, rfl, SqT.of upd_same, rfl, .int (i : Int), [y0], rfl, y0, [], rfl, rfl, ?_⟩
          refine ⟨.ref f', rfl, y0, rfl, .int M, rfl, c, y0, M, rfl, hc.same (s1.trans (s'.trans sT)), by omega, by omega, by omega, fun r H3 ws s3 _ e3 w3 => ⟨r, rfl, ⟨ws, SqL.of e3⟩, fun C nC => ?_⟩⟩
          have c1 := spots_count (M := M) c
          refine way_map (K := K) (i := i) e3 nC (by show 5 < 6; decide) rfl w3 (by omega) (fun u hu => by have := spots_len c u hu; omega) fun H4 acc s4 e4 w4 => ?_
          have sA : Same H' H4 := sT.trans (s3.trans s4)
          have l1 := w'.length
          have l2 := w4.length
          rw [List.length_append] at l1
          rw [List.length_map] at l2
          have l3 := spotsF_take M ks i
          refine ⟨f', C, vs', acc, rfl, rfl, sA _ _ e', e4, Nat.le_of_lt (small1000 (by omega)), fun p np => ?_⟩
          have sp : Same H4 (upd H4 p (.lst (vs' ++ acc))) := same_new np _
          refine ⟨p, vs' ++ acc, _, _, _, rfl, s'.trans (sA.trans sp), upd_same, ?_, Same.free (s1.trans (s'.trans sA)) np⟩
          have et : ks.take (i + 1) = ks.take i ++ [c] := by rw [List.take_add_one, ec]; rfl
          have el : 0 + (ks.take i).length = i := by
            have hi' := (List.getElem?_eq_some_iff.mp ec).1
            rw [List.length_take]
            omega
          rw [et, spotsF_snoc, el, ← List.append_assoc]
          exact ((w'.tups (Same.tups (sA.trans sp))).append (w4.tups (Same.tups sp)))
        · obtain ⟨f', vs', o3, o4, o5, rfl, s', e', w', nf'⟩ := p
          rw [lx, List.take_length, hpre] at w'
          exact ⟨.ref f', rfl, q f' H' vs' (s1.trans s') nf' e' w'⟩
      obtain ⟨t, ht, hrest⟩ := rest
      refine ⟨_, (pss_cons (ps_if (pt_cmpR op_ne (pe_ix ix_tup (pv 0) pe_int (fun _ _ => rfl)) pe_str (nomark _)) (pss_one (ps_ret (pe_lst pa_nil))) pss_nil)
      (pss_cons (ps_set (i := 2) sc15.nd rfl (Or.inl rfl) (pe_lst pa_nil))
      (pss_cons (ps_if (PW.pt (pw_and (pt_cmpR op_eq (pe_ix ix_tup (pv 0) pe_int (fun _ _ => rfl)) (pv 1) (nomark _)) (pw_and (pt_cmpR op_eq (pe_callB call_len_seq (by rfl) Z.len bt_len (pa_cons (pe_ix ix_tup (pv 0) pe_int (fun _ _ => rfl)) pa_nil)) pe_int (nomark _)) (pw_and1 (pt_val (pe_call G2 hr2 rfl D2.m D2.F.kp D2.b .nil pass0 (pa_cons (pe_ix ix_tup (pe_ix ix_tup (pv 0) pe_int (fun _ _ => rfl)) pe_int (fun _ _ => rfl)) (pa_cons (pv 1) pa_nil)))))))) (pss_one (ps_set (i := 2) sc15.nd rfl (Or.inl rfl) (pe_lst (pa_cons (pe_tup pa_nil) pa_nil)))) pss_nil)
      ht))), ?_⟩
      have e2 : two M (.node m ks) = (decide (m = M) && ks.length == 2) := rfl
      have go : ∀ (f : Addr) (H1 : Hp) (vs0 : List V) (pre : List (List Nat)), Same H H1 → H1 f = some (.lst vs0) → WsAt H1 pre vs0 → pre = (if (two M (.node m ks) && fstTwo M ks) = true then [[]] else []) → H f = none →
            t { nx := fun _ H' => Q .non H', rt := Q } [some (.ref a), some (.int M), some (.ref f), none, none, none] H1 := fun f H1 vs0 pre s1 e1 w1 hp nf => hrest f H1 vs0 pre s1 e1 w1 (by rw [hp, spots]) nf
      refine ⟨.ref a, rfl, a, _, 0, _, rfl, rfl, SqT.of ha, at0, rfl, _, rfl, iteF ?_⟩
      refine ⟨(by show 0 ≤ sizeLine; decide), fun f nf => ?_⟩
      have s1 : Same H (upd H f (.lst [])) := same_new nf _
      refine ⟨.ref a, rfl, a, _, 1, _, rfl, rfl, SqT.of (s1 _ _ ha), at1, .int M, rfl, rfl, _, rfl, ?_⟩
      by_cases hm : m = M
      · rw [dint hm]
        refine iteT ⟨.ref a, rfl, a, _, 2, _, rfl, rfl, SqT.of (s1 _ _ ha), at2, b, _, rfl, .inr (SqT.of (s1 _ _ hb)), rfl, _, rfl, ?_⟩
        by_cases h2 : ks.length = 2
        · rw [dint (show ((xs.length : Nat) : Int) = 2 by omega)]
          refine iteT ?_
          match ks, h2 with
          | [c, d], _ =>
            obtain ⟨u, u', rfl, hu, hu'⟩ := hx.inv2
            refine ⟨.ref a, rfl, a, _, 2, _, rfl, rfl, SqT.of (s1 _ _ ha), at2, b, _, 0, u, rfl, rfl, SqT.of (s1 _ _ hb), at0, .int M, rfl, c, u, M, rfl, hu.same s1, _, rfl, ?_⟩
            have e3 : (two M (.node m [c, d]) && fstTwo M [c, d]) = two M c := by
              rw [e2, decide_eq_true hm]
              show (true && true && two M c) = two M c
              rfl
            cases hc : two M c with
            | true =>
              refine iteT ⟨(by show 0 ≤ sizeLine; decide), fun p1 n1 => ⟨(by show 1 ≤ sizeLine; decide), fun p2 n2 => ?_⟩⟩
              refine go p2 _ [.ref p1] [[]] (s1.trans ((same_new n1 _).trans (same_new n2 _))) upd_same ?_ (by rw [e3, hc]; rfl) (Same.free (s1.trans (same_new n1 _)) n2)
              exact AtL.cons (wenc_at.mpr ⟨p1, rfl, same_new n2 _ _ _ upd_same⟩) AtL.nil
            | false => exact iteF (go f _ [] [] s1 upd_same AtL.nil (by rw [e3, hc]; rfl) nf)
        · rw [dintn (show ¬ ((xs.length : Nat) : Int) = 2 by omega)]
          refine iteF (iteF (go f _ [] [] s1 upd_same AtL.nil ?_ nf))
          rw [e2, beq_eq_false_iff_ne.mpr h2, Bool.and_false, Bool.false_and]
          rfl
      · rw [dintn hm]
        refine iteF (iteF (go f _ [] [] s1 upd_same AtL.nil ?_ nf))
        rw [e2, decide_eq_false hm, Bool.false_and, Bool.false_and]
        rfl
end
end K37

set_option Elab.async false
set_option linter.all false
set_option maxRecDepth 100000
set_option maxHeartbeats 4000000
/-! _law_moved: one single move. -/
namespace K37
open PySem PySem.Spec PyProof.Rows L2
/-! ### tuples cut and put together -/
theorem cut_take (xs : List V) (k : Nat) (h : k ≤ xs.length) : cutV xs none (some (k : Int)) = xs.take k := by
  unfold cutV
  rw [HT.sIx_none, HT.sIx_nat, List.drop_zero, Nat.min_eq_left h, Nat.sub_zero]
theorem cut_drop (xs : List V) (k : Nat) (h : k ≤ xs.length) : cutV xs (some (k : Int)) none = xs.drop k := by
  unfold cutV
  rw [HT.sIx_none, HT.sIx_nat, Nat.min_eq_left h]
  exact List.take_of_length_le (by rw [List.length_drop]; exact Nat.le_refl _)
section
variable {K : PySem.W.Frag} {H : Hp} {Q : VK} {a b : Addr} {xs ys : List V}
theorem sl_take (k : Nat) (ha : H a = some (.tup xs)) (hk : k < xs.length) (q : ∀ p, H p = none → Q (.ref p) (upd H p (.tup (xs.take k)))) : rSlA K (.ref a) none (some (k : Int)) H Q := by
  refine ⟨a, xs, rfl, SqT.of ha, fun h => ?_, fun _ p np => ?_⟩
  · have h2 := h.2
    rw [HT.sIx_nat] at h2
    omega
  · rw [cut_take xs k (by omega)]
    exact q p np
theorem sl_drop (k : Nat) (ha : H a = some (.tup xs)) (k0 : 0 < k) (hk : k ≤ xs.length) (q : ∀ p, H p = none → Q (.ref p) (upd H p (.tup (xs.drop k)))) : rSlA K (.ref a) (some (k : Int)) none H Q := by
  refine ⟨a, xs, rfl, SqT.of ha, fun h => ?_, fun _ p np => ?_⟩
  · have h1 := h.1
    rw [HT.sIx_nat] at h1
    omega
  · rw [cut_drop xs k hk]
    exact q p np
theorem sl_dropN {σ : L2.St} (k : Nat) (ha : H a = some (.tup xs)) (k0 : 0 < k) (hk : k ≤ xs.length) (q : ∀ p, H p = none → Q (.ref p) (upd H p (.tup (xs.drop k)))) : tNoPart σ H fun u H3 => rSlA K (.ref a) (some (k : Int)) u H3 Q := sl_drop k ha k0 hk q
theorem cat_rd (ha : H a = some (.tup xs)) (hb : H b = some (.tup ys)) (hz : xs.length + ys.length ≤ 1000) (q : ∀ r H', Same H H' → H' r = some (.tup (xs ++ ys)) → Q (.ref r) H') : rCatA K (.ref a) (.ref b) H Q := by
  refine ⟨a, b, xs, ys, rfl, rfl, SqT.of ha, SqT.of hb, Nat.le_of_lt (small1000 hz), fun h => ?_, fun _ h => ?_, fun _ _ p np => ?_⟩
  · subst h
    exact q b H (Same.refl H) hb
  · subst h
    rw [List.append_nil] at q
    exact q a H (Same.refl H) ha
  · exact q p _ (same_new np _) upd_same
end
theorem bare_wenc (w : List Nat) : bare (wenc w) := by
  unfold wenc
  rw [bare]
  exact bares_of fun d hd => by
    obtain ⟨c, _, rfl⟩ := List.mem_map.mp hd
    trivial
theorem lay_wenc (w : List Nat) : (wenc w).canLay0 = true := by
  unfold wenc
  rw [PyData.canLay0]
  exact lay_of fun d hd => by
    obtain ⟨c, _, rfl⟩ := List.mem_map.mp hd
    rw [PyData.canLay0]
theorem depth_wenc (w : List Nat) : (wenc w).depth ≤ 1 := by
  unfold wenc
  rw [PyData.depth]
  have h : PyData.depthAll (w.map fun (k : Nat) => PyData.int (k : Int)) ≤ 0 := depthAll_le fun d hd => by
    obtain ⟨c, _, rfl⟩ := List.mem_map.mp hd
    rw [PyData.depth]
    exact Nat.le_refl _
  omega
theorem eqv_nil (w : List Nat) : PyData.eqv (wenc w) (.tuple []) = w.isEmpty := by
  have h := eqv_iff (wenc w) (.tuple []) (bare_wenc w) trivial
  cases w with
  | nil => exact h.mpr rfl
  | cons k w =>
    cases e : PyData.eqv (wenc (k :: w)) (.tuple []) with
    | false => rfl
    | true => exact absurd (h.mp e) (fun z => nomatch z)
/-- the way () leads to m(m(a, b), c) -/
theorem spot_nil {M : Int} {t : Tr} (h : ([] : List Nat) ∈ spots M t) : ∃ a b c, t = .node M [.node M [a, b], c] := by
  cases t with
  | leaf l => rw [spots] at h; cases h
  | node m ks =>
    rw [spots] at h
    rcases List.mem_append.mp h with e | e
    · have hc : (two M (.node m ks) && fstTwo M ks) = true := by
        cases q : (two M (.node m ks) && fstTwo M ks) with
        | true => rfl
        | false => rw [q] at e; cases e
      obtain ⟨h1, h2⟩ := Bool.and_eq_true_iff.mp hc
      obtain ⟨x, y, e1⟩ := two_iff.mp h1
      injection e1 with e1 e2
      subst e1 e2
      obtain ⟨a, b, e3⟩ := two_iff.mp (show two m x = true from h2)
      exact ⟨a, b, y, by rw [e3]⟩
    · obtain ⟨i, c, u, _, _, e3⟩ := spotsF_mem e
      cases e3
theorem spot_cons {M : Int} {t : Tr} {k : Nat} {u : List Nat} (h : k :: u ∈ spots M t) : ∃ m ks c, t = .node m ks ∧ ks[k]? = some c ∧ u ∈ spots M c := by
  cases t with
  | leaf l => rw [spots] at h; cases h
  | node m ks =>
    rw [spots] at h
    rcases List.mem_append.mp h with e | e
    · split at e
      · rcases List.mem_singleton.mp e with q; cases q
      · cases e
    · obtain ⟨i, c, u', e1, e2, e3⟩ := spotsF_mem e
      injection e3 with e4 e5
      subst e5
      rw [Nat.zero_add] at e4
      subst e4
      exact ⟨m, ks, c, rfl, e1, e2⟩
theorem take_mid {α : Type} {ks : List α} {k : Nat} {c : α} (h : ks[k]? = some c) : ks = ks.take k ++ c :: ks.drop (k + 1) := by
  obtain ⟨h1, h2⟩ := List.getElem?_eq_some_iff.mp h
  rw [← h2, ← List.drop_eq_getElem_cons h1, List.take_append_drop]
def spMoved (n : Nat) : Sp := fun vs H Q _ => ∃ (t : Tr) (v : V) (p : Addr) (w : List Nat) (M : Int), vs = [v, .ref p] ∧ TAt H t v ∧ H p = some (.tup (wvs w)) ∧ w ∈ spots M t ∧ w.length < n ∧ w.length ≤ 500 ∧ nar t ∧
  ∀ (r : V) (H' : Hp) (t' : Tr), Same H H' → TAt H' t' r → Mv M t t' → Q r H'
section
variable {P : Program} {w : World} {K : PySem.W.Frag} {mg : Str → Option Value} {base : Heap}
theorem sc17 : FnScope ["_law_tree_here", "_law_way", "_law_first", "_law_last"] ["_law_tree_here", "_law_way"] (defScope (top 17)) := ⟨rfl, rfl, rfl, by decide +kernel, rfl, by decide +kernel, by decide +kernel⟩
theorem ok_moved (D : Df K mg "_law_moved" 17 ["_law_tree_here", "_law_way"]) (Z : Free mg) : ∀ n : Nat, Kp P w K mg base D n (spMoved n)
  | 0 => kp_none D fun vs H Q E h => by
    obtain ⟨t, v, p, w, M, _, _, _, _, h, _⟩ := h
    exact Nat.not_lt_zero _ h
  | n + 1 => by
    have G := ok_moved D Z n
    refine D.ok sc17 (fun vs H Q E h => ?_) (fun cdv A outer s H vs Q E hr h => ?_)
    · obtain ⟨t, v, p, w, M, rfl, _⟩ := h
      rfl
    obtain ⟨t, v, p, w, M, rfl, hv, hp, hw, hn, hl, na, q⟩ := h
    refine ⟨_, (pss_cons (ps_if (pt_cmpR (op_neA hr) (pv 1) (pe_tup pa_nil) (nomark _)) (pss_one (ps_ret (pe_op (r := rCatA K) op_catA (pe_slice sl_tupA (pv 0) po_none (po_some pe_int)) (pe_tup (pa_cons (pe_op (r := rCatA K) op_catA (pe_op (r := rCatA K) op_catA (pe_slice sl_tupA (pe_ix ix_tup (pv 0) pe_int (fun _ _ => rfl)) po_none (po_some (pe_ix ix_tup (pv 1) pe_int (fun _ _ => rfl)))) (pe_tup (pa_cons (pe_call G hr rfl D.m D.F.kp D.b .nil pass0 (pa_cons (pe_ix ix_tup (pe_ix ix_tup (pv 0) pe_int (fun _ _ => rfl)) (pe_ix ix_tup (pv 1) pe_int (fun _ _ => rfl)) (fun _ _ => rfl)) (pa_cons (pe_slice sl_tupA (pv 1) (po_some pe_int) po_none) pa_nil))) pa_nil))) (pe_slice sl_tupA (pe_ix ix_tup (pv 0) pe_int (fun _ _ => rfl)) (po_some (pe_op op_add (pe_ix ix_tup (pv 1) pe_int (fun _ _ => rfl)) pe_int)) po_none)) pa_nil))))) pss_nil)
      (pss_cons (ps_asg (pe_ix ix_tup (pv 0) pe_int (fun _ _ => rfl)) (pg_tup (by rfl) (pgs_cons (pg_name (i := 2) sc17.nd rfl (Or.inl rfl)) (pgs_cons (pg_name (i := 3) sc17.nd rfl (Or.inl rfl)) pgs_nil))))
      (pss_one (ps_ret (pe_tup (pa_cons pe_str (pa_cons (pe_ix ix_tup (pv 0) pe_int (fun _ _ => rfl)) (pa_cons (pe_tup (pa_cons (pe_ix ix_tup (pe_ix ix_tup (pv 2) pe_int (fun _ _ => rfl)) pe_int (fun _ _ => rfl)) (pa_cons (pe_tup (pa_cons pe_str (pa_cons (pe_ix ix_tup (pv 0) pe_int (fun _ _ => rfl)) (pa_cons (pe_tup (pa_cons (pe_ix ix_tup (pe_ix ix_tup (pv 2) pe_int (fun _ _ => rfl)) pe_int (fun _ _ => rfl)) (pa_cons (pv 3) pa_nil))) pa_nil)))) pa_nil))) pa_nil)))))))), ?_⟩
    refine ⟨.ref p, rfl, (by show 0 ≤ sizeLine; decide), fun e0 n0 => ?_⟩
    have s0 : Same H (upd H e0 (.tup [])) := same_new n0 _
    refine ⟨wenc w, .tuple [], wenc_at.mpr ⟨p, rfl, s0 _ _ hp⟩, by rw [At]; exact ⟨e0, [], rfl, upd_same, AtL.nil⟩, lay_wenc w, by rw [PyData.canLay0, PyData.canLayAll0], Nat.le_trans (depth_wenc w) (by decide), _, rfl, ?_⟩
    rw [eqv_nil, Bool.true_xor]
    cases w with
    | nil =>
      obtain ⟨x, y, z, rfl⟩ := spot_nil hw
      refine iteF ?_
      obtain ⟨a, b, xs, rfl, ha, hb, hx⟩ := TAt.node.mp (hv.same s0)
      obtain ⟨v1, v2, rfl, h1, h2⟩ := hx.inv2
      obtain ⟨a1, b1, xs1, rfl, ha1, hb1, hx1⟩ := TAt.node.mp h1
      obtain ⟨u1, u2, rfl, g1, g2⟩ := hx1.inv2
      refine ⟨.ref a, rfl, a, _, 2, _, rfl, rfl, SqT.of ha, at2, b, _, rfl, SqT.of hb, rfl, .ref a1, [v2], rfl, v2, [], rfl, rfl, ?_⟩
      refine ⟨.ref a, rfl, a, _, 1, _, rfl, rfl, SqT.of ha, at1, .ref a1, rfl, a1, _, 2, _, rfl, rfl, SqT.of ha1, at2, b1, _, 0, u1, rfl, rfl, SqT.of hb1, at0, ?_⟩
      refine ⟨.ref a, rfl, a, _, 1, _, rfl, rfl, SqT.of ha, at1, .ref a1, rfl, a1, _, 2, _, rfl, rfl, SqT.of ha1, at2, b1, _, 1, u2, rfl, rfl, SqT.of hb1, at1, v2, rfl, ?_⟩
      refine ⟨(by show 2 ≤ sizeLine; decide), fun p1 n1 => ⟨(by show 3 ≤ sizeLine; decide), fun p2 n2 => ⟨(by show 2 ≤ sizeLine; decide), fun p3 n3 => ⟨(by show 3 ≤ sizeLine; decide), fun p4 n4 => ?_⟩⟩⟩⟩
      have s1 := same_new n1 (.tup [u2, v2])
      have s2 := same_new n2 (.tup [.str "make", .int M, .ref p1])
      have s3 := same_new n3 (.tup [u1, .ref p2])
      have s4 := same_new n4 (.tup [.str "make", .int M, .ref p3])
      have i1 := TAt.node.mpr ⟨p2, p1, [u2, v2], rfl, upd_same, s2 _ _ upd_same, TAtL.cons (g2.same (s1.trans s2)) (TAtL.cons (h2.same (s1.trans s2)) TAtL.nil)⟩
      refine q _ _ (.node M [x, .node M [y, z]]) (s0.trans (s1.trans (s2.trans (s3.trans s4)))) ?_ (Mv.top x y z)
      exact TAt.node.mpr ⟨p4, p3, [u1, .ref p2], rfl, upd_same, s4 _ _ upd_same, TAtL.cons (g1.same (s1.trans (s2.trans (s3.trans s4)))) (TAtL.cons (i1.same (s3.trans s4)) TAtL.nil)⟩
    | cons k u =>
      obtain ⟨m, ks, c, rfl, ec, hu⟩ := spot_cons hw
      refine iteT ?_
      rw [nar] at na
      rw [List.length_cons] at hn hl
      obtain ⟨a, b, xs, rfl, ha, hb, hx⟩ := TAt.node.mp (hv.same s0)
      have hp0 := s0 _ _ hp
      obtain ⟨y, ey, hy⟩ := hx.get' ec
      have lx := hx.length
      obtain ⟨hk, _⟩ := List.getElem?_eq_some_iff.mp ey
      have mc := List.mem_of_getElem? ec
      have hwv : wvs (k :: u) = .int (k : Int) :: wvs u := rfl
      have s0' := s0
      generalize upd H e0 (.tup []) = H0 at *
      refine ⟨.ref a, rfl, 2, rfl, sl_take 2 ha (by show 2 < 3; decide) fun p1 n1 => ?_⟩
      have s1 : Same H0 (upd H0 p1 (.tup ([.str "make", .int m, .ref b].take 2))) := same_new n1 _
      have e1 : (upd H0 p1 (.tup ([.str "make", .int m, .ref b].take 2))) p1 = some (.tup [.str "make", .int m]) := upd_same
      generalize upd H0 p1 (.tup ([.str "make", .int m, .ref b].take 2)) = H1 at *
      refine ⟨.ref a, rfl, a, _, 2, _, rfl, rfl, SqT.of (s1 _ _ ha), at2, .ref p, rfl, p, _, 0, _, rfl, rfl, SqT.of (s1 _ _ hp0), at0, (k : Int), rfl, sl_take k (s1 _ _ hb) hk fun p2 n2 => ?_⟩
      have s2 : Same H1 (upd H1 p2 (.tup (xs.take k))) := same_new n2 _
      have e2 : (upd H1 p2 (.tup (xs.take k))) p2 = some (.tup (xs.take k)) := upd_same
      generalize upd H1 p2 (.tup (xs.take k)) = H2 at *
      have s02 := s1.trans s2
      refine ⟨.ref a, rfl, a, _, 2, _, rfl, rfl, SqT.of (s02 _ _ ha), at2, .ref p, rfl, p, _, 0, _, rfl, rfl, SqT.of (s02 _ _ hp0), at0, b, xs, (k : Int), y, rfl, rfl, SqT.of (s02 _ _ hb), atI_nat ey, ?_⟩
      refine ⟨.ref p, rfl, 1, rfl, sl_dropN 1 (s02 _ _ hp0) (by decide) (by rw [hwv, List.length_cons]; omega) fun p3 n3 => ?_⟩
      have s3 : Same H2 (upd H2 p3 (.tup ((wvs (k :: u)).drop 1))) := same_new n3 _
      have e3 : (upd H2 p3 (.tup ((wvs (k :: u)).drop 1))) p3 = some (.tup (wvs u)) := upd_same
      generalize upd H2 p3 (.tup ((wvs (k :: u)).drop 1)) = H3 at *
      refine ⟨c, y, p3, u, M, rfl, hy.same (s02.trans s3), e3, hu, by omega, by omega, nars_mem na.2 c mc, fun r H4 c' s4 h4 mv => ?_⟩
      refine ⟨(by show 1 ≤ sizeLine; decide), fun p5 n5 => ?_⟩
      have s5 : Same H4 (upd H4 p5 (.tup [r])) := same_new n5 _
      have e5 : (upd H4 p5 (.tup [r])) p5 = some (.tup [r]) := upd_same
      generalize upd H4 p5 (.tup [r]) = H5 at *
      have s25 := s3.trans (s4.trans s5)
      refine cat_rd (s25 _ _ e2) e5 (by rw [List.length_take, List.length_singleton]; omega) fun p6 H6 s6 e6 => ?_
      have s06 := s02.trans (s25.trans s6)
      refine ⟨.ref a, rfl, a, _, 2, _, rfl, rfl, SqT.of (s06 _ _ ha), at2, .ref p, rfl, p, _, 0, _, rfl, rfl, SqT.of (s06 _ _ hp0), at0, (k : Int), 1, rfl, rfl, ((k + 1 : Nat) : Int), rfl, sl_dropN (k + 1) (s06 _ _ hb) (by omega) (by omega) fun p7 n7 => ?_⟩
      have s7 : Same H6 (upd H6 p7 (.tup (xs.drop (k + 1)))) := same_new n7 _
      have e7 : (upd H6 p7 (.tup (xs.drop (k + 1)))) p7 = some (.tup (xs.drop (k + 1))) := upd_same
      generalize upd H6 p7 (.tup (xs.drop (k + 1))) = H7 at *
      refine cat_rd (s7 _ _ e6) e7 (by rw [List.length_append, List.length_take, List.length_singleton, List.length_drop]; omega) fun p8 H8 s8 e8 => ?_
      refine ⟨(by show 1 ≤ sizeLine; decide), fun p9 n9 => ?_⟩
      have s9 : Same H8 (upd H8 p9 (.tup [.ref p8])) := same_new n9 _
      have e9 : (upd H8 p9 (.tup [.ref p8])) p9 = some (.tup [.ref p8]) := upd_same
      generalize upd H8 p9 (.tup [.ref p8]) = H9 at *
      have s79 := s7.trans (s8.trans s9)
      refine cat_rd ((s2.trans (s25.trans (s6.trans s79))) _ _ e1) e9 (by show 3 ≤ 1000; decide) fun pr HR sR eR => ?_
      refine q _ _ (.node m (ks.take k ++ c' :: ks.drop (k + 1))) (s0'.trans (s06.trans (s79.trans sR))) ?_ ?_
      · have sAll := s06.trans (s79.trans sR)
        refine TAt.node.mpr ⟨pr, p8, _, rfl, eR, (s9.trans sR) _ _ e8, ?_⟩
        have hall := hx.same sAll
        rw [List.append_assoc]
        exact (hall.take k).append (TAtL.cons (h4.same (s5.trans (s6.trans (s79.trans sR)))) (hall.drop (k + 1)))
      · rw [take_mid ec]
        have ht : (ks.take k ++ c :: ks.drop (k + 1)).take k = ks.take k := by rw [← take_mid ec]
        have hd : (ks.take k ++ c :: ks.drop (k + 1)).drop (k + 1) = ks.drop (k + 1) := by rw [← take_mid ec]
        rw [ht, hd]
        exact Mv.sub m _ _ mv
end
end K37

set_option Elab.async false
set_option linter.all false
set_option maxRecDepth 100000
set_option maxHeartbeats 4000000
/-! _law_all_moved: single moves till none is left. -/
namespace K37
open PySem PySem.Spec PyProof.Rows L2
theorem bare_ws (ws : List (List Nat)) : bare (.list (ws.map wenc)) := by
  rw [bare]
  exact bares_of fun d hd => by
    obtain ⟨c, _, rfl⟩ := List.mem_map.mp hd
    exact bare_wenc c
theorem lay_ws (ws : List (List Nat)) : (PyData.list (ws.map wenc)).canLay0 = true := by
  rw [PyData.canLay0]
  exact lay_of fun d hd => by
    obtain ⟨c, _, rfl⟩ := List.mem_map.mp hd
    exact lay_wenc c
theorem depth_ws (ws : List (List Nat)) : (PyData.list (ws.map wenc)).depth ≤ 2 := by
  rw [PyData.depth]
  have h : PyData.depthAll (ws.map wenc) ≤ 1 := depthAll_le fun d hd => by
    obtain ⟨c, _, rfl⟩ := List.mem_map.mp hd
    exact depth_wenc c
  omega
theorem eqv_ws (ws : List (List Nat)) : PyData.eqv (.list (ws.map wenc)) (.list []) = ws.isEmpty := by
  have h := eqv_iff (.list (ws.map wenc)) (.list []) (bare_ws ws) trivial
  cases ws with
  | nil => exact h.mpr rfl
  | cons k ws =>
    cases e : PyData.eqv (.list ((k :: ws).map wenc)) (.list []) with
    | false => rfl
    | true => exact absurd (h.mp e) (fun z => nomatch z)
theorem ws_at {H : Hp} {ws : List (List Nat)} {r : Addr} {vs : List V} (e : H r = some (.lst vs)) (h : WsAt H ws vs) : At H (.list (ws.map wenc)) (.ref r) := by
  rw [At]
  exact ⟨r, vs, rfl, e, h⟩
theorem nil_at {H : Hp} {r : Addr} (e : H r = some (.lst [])) : At H (.list []) (.ref r) := by
  rw [At]
  exact ⟨r, [], rfl, e, AtL.nil⟩
def spAll : Sp := fun vs H Q _ => ∃ (a : Addr) (t : Tr) (v : V) (M : Int) (m : Nat), vs = [.ref a, v, .int M] ∧ TAt H t v ∧ wf t ∧ wt t < 200 ∧ rho t ≤ 60 ∧ Tin H a m ∧ m + 200 ≤ 1000000 ∧
  ∀ (r : V) (H' : Hp), But a H H' → Tin H' a (m + 200) → TAt H' (cmb M t) r → wf (cmb M t) → spots M (cmb M t) = [] → rho (cmb M t) = rho t → wt (cmb M t) ≤ wt t → Q r H'
section
variable {P : Program} {w : World} {K : PySem.W.Frag} {mg : Str → Option Value} {base : Heap}
theorem sc18 : FnScope ["_law_tin", "_law_tree_here", "_law_maker", "_law_now", "_law_ways", "_law_lap"] ["_law_tin", "_law_tree_here", "_law_maker"] (defScope (top 18)) := ⟨rfl, rfl, rfl, by decide +kernel, rfl, by decide +kernel, by decide +kernel⟩
theorem ok_all (D : Df K mg "_law_all_moved" 18 ["_law_tin", "_law_tree_here", "_law_maker"]) (DS : Df K mg "_law_spots" 15 ["_law_tree_here", "_law_maker"]) (D2 : Df K mg "_law_is_two" 16 ["_law_tree_here", "_law_maker"]) (DM : Df K mg "_law_moved" 17 ["_law_tree_here", "_law_way"])
    (DO : Df K mg "_law_of" 13 ["_law_tin", "_law_goods"]) (DT : Df K mg "_law_take" 9 ["_law_tin", "_law_below"]) (Z : Free mg) : Kp P w K mg base D 63 spAll := by
  have GS := ok_spots (P := P) (w := w) (base := base) DS D2 Z 61
  have GM := ok_moved (P := P) (w := w) (base := base) DM Z 61
  have GO := ok_of (P := P) (w := w) (base := base) DO DT Z
  refine D.ok sc18 (fun vs H Q E h => ?_) (fun cdv A outer s H vs Q E hr h => ?_)
  · obtain ⟨a, t, v, M, m, rfl, _⟩ := h
    rfl
  obtain ⟨a, t, v, M, m, rfl, hv, hwf, hwt, hrho, T, hm, q⟩ := h
  have hrS := hr
  have hrM := hr.mono (show 61 ≤ 62 by decide)
  have hrO := hr.mono (show 2 ≤ 62 by decide)
  refine ⟨_, (pss_cons (ps_set (i := 3) sc18.nd rfl (Or.inl rfl) (pv 1))
      (pss_cons (ps_for PassesOwn.never rfl (pi_range1 (by rfl) Z.range (pa_cons pe_int pa_nil)) (pg_name (i := 5) sc18.nd rfl (Or.inl rfl)) (pss_cons (ps_set (i := 4) sc18.nd rfl (Or.inl rfl) (pe_call GS hrS rfl DS.m DS.F.kp DS.b .nil pass0 (pa_cons (pv 3) (pa_cons (pv 2) pa_nil))))
        (pss_cons (ps_if (pt_cmpR (op_eqA hr) (pv 4) (pe_lst pa_nil) (nomark _)) (pss_one (ps_ret (pv 3))) pss_nil)
        (pss_one (ps_set (i := 3) sc18.nd rfl (Or.inl rfl) (pe_call GM hrM rfl DM.m DM.F.kp DM.b .nil pass0 (pa_cons (pv 3) (pa_cons (pe_call GO hrO rfl DO.m DO.F.kp DO.b .nil pass0 (pa_cons (pv 0) (pa_cons (pv 4) pa_nil))) pa_nil))))))))
      (pss_one (ps_ret (pv 3))))), ?_⟩
  refine ⟨v, rfl, 200, rfl, by decide, by decide, ?_⟩
  refine for_range (lo := 0) (n := 200) (fun i σ H' => ∃ (v' : V) (t' : Tr) (o4 o5 : Option V), σ = [some (.ref a), some v, some (.int M), some v', o4, o5] ∧ But a H H' ∧ Tin H' a (m + i) ∧ TAt H' t' v' ∧ wf t' ∧ cmb M t' = cmb M t ∧ rho t' = rho t ∧ wt t' + i ≤ wt t)
    ⟨v, t, none, none, rfl, But.refl a H, T, hv, hwf, rfl, rfl, Nat.le_refl _⟩ (fun i σ H' hi p => ?_) fun σ H' p => ?_
  · obtain ⟨v', t', o4, o5, rfl, b', T', h', wf', c', r', w'⟩ := p
    have d1 := dep_le_rho t'
    refine ⟨v', rfl, .int M, rfl, t', v', M, rfl, h', by omega, by decide, by omega, fun r H1 ws s1 n1 e1 w1 => ?_⟩
    refine ⟨.ref r, rfl, (by show 0 ≤ sizeLine; decide), fun e ne => ?_⟩
    have s2 : Same H1 (upd H1 e (.lst [])) := same_new ne _
    refine ⟨_, _, ws_at (s2 _ _ e1) (w1.tups (Same.tups s2)), nil_at upd_same, lay_ws _, by rw [PyData.canLay0, PyData.canLayAll0], Nat.le_trans (depth_ws _) (by decide), _, rfl, ?_⟩
    rw [eqv_ws, Bool.false_xor]
    have s12 := s1.trans s2
    have b12 : But a H (upd H1 e (.lst [])) := b'.trans (Same.but s12 a)
    cases hsp : spots M t' with
    | nil =>
      refine iteT ⟨v', rfl, ?_⟩
      have e1 : cmb M t = t' := by rw [← c']; exact cmb_still M t' (still_of t' hsp)
      rw [e1] at q
      exact q v' _ b12 ((T'.same s12).le (by omega)) (h'.same s12) wf' hsp r' (by omega)
    | cons k us =>
      refine iteF ?_
      have l1 := w1.length
      have l2 := spots_count (M := M) t'
      have l3 : 0 < (spots M t').length := by rw [hsp, List.length_cons]; omega
      refine ⟨v', rfl, .ref a, rfl, .ref r, rfl, a, r, ws, m + i, rfl, s2 _ _ e1, T'.neN n1, by omega, by omega, T'.same s12, by omega, fun x H3 hx b3 T3 => ?_⟩
      obtain ⟨j0, hj⟩ := List.mem_iff_getElem?.mp hx
      obtain ⟨u, p, eu, rfl, hp⟩ := way_at w1 hj
      have mu := List.mem_of_getElem? eu
      have lu := spots_len t' u mu
      obtain ⟨xs, hxs⟩ := (T'.same s12).lst
      refine ⟨t', v', p, u, M, rfl, (h'.same s12).tups (b3.tups hxs), b3.tups hxs _ _ (s2 _ _ hp), mu, by omega, by omega, nar_of t' wf', fun r2 H4 t'' s4 h4 mv => ?_⟩
      have w4 := mv.wt
      refine ⟨r2, t'', some (.ref r), some (.int (0 + (i : Int))), rfl, b12.trans (b3.trans (Same.but s4 a)), T3.same s4, h4, mv.wf wf', mv.cmb.trans c', mv.rho.trans r', by omega⟩
  · obtain ⟨v', t', o4, o5, rfl, b', T', h', wf', c', r', w'⟩ := p
    omega
end
end K37

set_option Elab.async false
set_option linter.all false
set_option maxRecDepth 100000
set_option maxHeartbeats 4000000
/-! _law_turned: some single moves back. -/
namespace K37
open PySem PySem.Spec PyProof.Rows L2
mutual
/-- how many makings -/
def nd : Tr → Nat
  | .leaf _ => 0
  | .node _ ks => nds ks + 1
def nds : List Tr → Nat
  | [] => 0
  | k :: ks => nd k + nds ks
end
theorem nds_app : ∀ xs ys : List Tr, nds (xs ++ ys) = nds xs + nds ys
  | [], ys => by rw [List.nil_append, nds]; omega
  | x :: xs, ys => by
    show nds (x :: (xs ++ ys)) = _
    rw [nds, nds, nds_app xs ys]; omega
theorem nds_take (ks : List Tr) (i : Nat) : nds (ks.take i) ≤ nds ks := by
  have h := nds_app (ks.take i) (ks.drop i)
  rw [List.take_append_drop i ks] at h
  omega
theorem nd_dep : ∀ t, wf t → 2 * nd t + 1 ≤ 3 ^ dep t := by
  refine Tr.ind (fun l _ => by rw [nd, dep]; decide) fun m ks ih hw => ?_
  rw [wf] at hw
  obtain ⟨_, l1, l3, hw⟩ := hw
  have hp : ∀ c ∈ ks, 2 * nd c + 1 ≤ 3 ^ deps ks := fun c hc => Nat.le_trans (ih c hc (wfs_mem hw c hc)) (Nat.pow_le_pow_right (by decide) (dep_le_deps hc))
  have h1 : 1 ≤ 3 ^ deps ks := Nat.one_le_pow _ _ (by decide)
  rw [nd, dep, Nat.pow_succ]
  match ks, l1, l3, hp, h1 with
  | [a], _, _, hp, h1 =>
    have h := hp a (by simp)
    simp only [nds]; omega
  | [a, b], _, _, hp, _ =>
    have h := hp a (by simp)
    have h' := hp b (by simp)
    simp only [nds]; omega
  | [a, b, d], _, _, hp, h1 =>
    have h := hp a (by simp)
    have h' := hp b (by simp)
    have h'' := hp d (by simp)
    simp only [nds]; omega
/-- t is c put together otherwise -/
structure Tw (M : Int) (c t : Tr) : Prop where
  wf : wf t
  cmb : cmb M t = cmb M c
  rho : rho t = rho c
  lvs : lvs t = lvs c
theorem map_eq {α : Type} {f : Tr → α} {ks ts : List Tr} (hl : ts.length = ks.length) (h : ∀ (j : Nat) t c, ts[j]? = some t → ks[j]? = some c → f t = f c) : ts.map f = ks.map f := by
  apply List.ext_getElem?
  intro j
  simp only [List.getElem?_map]
  cases e : ts[j]? with
  | none =>
    have h1 := List.getElem?_eq_none_iff.mp e
    rw [List.getElem?_eq_none_iff.mpr (by omega)]
  | some t =>
    have h1 := (List.getElem?_eq_some_iff.mp e).1
    have e2 : ks[j]? = some ks[j] := List.getElem?_eq_getElem (by omega)
    rw [e2]
    exact congrArg some (h j t _ e e2)
def maxs : List Nat → Nat
  | [] => 0
  | x :: xs => max x (maxs xs)
theorem rhos_maxs : ∀ ks : List Tr, rhos ks = maxs (ks.map rho)
  | [] => rfl
  | k :: ks => by rw [rhos, rhos_maxs ks]; rfl
theorem lvss_flat : ∀ ks : List Tr, lvss ks = (ks.map lvs).flatten
  | [] => rfl
  | k :: ks => by rw [lvss, lvss_flat ks]; rfl
theorem Tw.node {M m : Int} {ks ts : List Tr} (hw : K37.wf (.node m ks)) (hl : ts.length = ks.length) (h : ∀ (j : Nat) t c, ts[j]? = some t → ks[j]? = some c → Tw M c t) : Tw M (.node m ks) (.node m ts) := by
  rw [K37.wf] at hw
  have m1 : ts.map (K37.cmb M) = ks.map (K37.cmb M) := map_eq hl fun j t c e1 e2 => (h j t c e1 e2).cmb
  have m2 : ts.map K37.rho = ks.map K37.rho := map_eq hl fun j t c e1 e2 => (h j t c e1 e2).rho
  have m3 : ts.map K37.lvs = ks.map K37.lvs := map_eq hl fun j t c e1 e2 => (h j t c e1 e2).lvs
  refine ⟨?_, by rw [cmb_node, cmb_node, m1], by rw [rho_node, rho_node, rhos_maxs, rhos_maxs, m2], by rw [K37.lvs, K37.lvs, lvss_flat, lvss_flat, m3]⟩
  rw [K37.wf]
  refine ⟨hw.1, by omega, by omega, wfs_of fun t ht => ?_⟩
  obtain ⟨j, hj⟩ := List.mem_iff_getElem?.mp ht
  have h1 := (List.getElem?_eq_some_iff.mp hj).1
  exact (h j t _ hj (List.getElem?_eq_getElem (show j < ks.length by omega))).wf
theorem Tw.trans {M : Int} {a b c : Tr} (x : Tw M a b) (y : Tw M b c) : Tw M a c := ⟨y.wf, y.cmb.trans x.cmb, y.rho.trans x.rho, y.lvs.trans x.lvs⟩
theorem Tw.back {M : Int} (hM : M = 1 ∨ M = 2) {a b c : Tr} (hw : K37.wf (.node M [a, .node M [b, c]])) : Tw M (.node M [a, .node M [b, c]]) (.node M [.node M [a, b], c]) := by
  simp only [K37.wf, K37.wfs] at hw
  obtain ⟨h1, _, _, ha, ⟨_, _, _, hb, hc, _⟩, _⟩ := hw
  refine ⟨?_, cmb_assoc M a b c, by rw [rho_two, rho_two, rho_two, rho_two]; omega, by simp only [K37.lvs, K37.lvss, List.append_nil, List.append_assoc]⟩
  simp only [K37.wf, K37.wfs]
  exact ⟨h1, by simp, by simp, ⟨h1, by simp, by simp, ha, hb, trivial⟩, hc, trivial⟩
theorem trees_at {H : Hp} : ∀ {acc : List V} {p : Nat → Tr → Prop}, (∀ (j : Nat) y, acc[j]? = some y → ∃ t, TAt H t y ∧ p j t) → ∃ ts, TAtL H ts acc ∧ ts.length = acc.length ∧ ∀ (j : Nat) t, ts[j]? = some t → p j t
  | [], p, _ => ⟨[], TAtL.nil, rfl, fun j t e => by simp at e⟩
  | y :: acc, p, h => by
    obtain ⟨t, h1, h2⟩ := h 0 y rfl
    obtain ⟨ts, g1, g2, g3⟩ := trees_at (acc := acc) (p := fun j => p (j + 1)) fun j z hz => h (j + 1) z (by simpa using hz)
    refine ⟨t :: ts, TAtL.cons h1 g1, by rw [List.length_cons, List.length_cons, g2], fun j u hu => ?_⟩
    cases j with
    | zero =>
      have e : t = u := by simpa using hu
      rw [← e]
      exact h2
    | succ j => exact g3 j u (by simpa using hu)
def spTurn (n : Nat) : Sp := fun vs H Q _ => ∃ (a : Addr) (t : Tr) (v : V) (M : Int) (m : Nat), vs = [.ref a, v, .int M] ∧ TAt H t v ∧ wf t ∧ (M = 1 ∨ M = 2) ∧ dep t < n ∧ Tin H a m ∧ m + nd t ≤ 1000000 ∧
  ∀ (r : V) (H' : Hp) (t' : Tr), But a H H' → Tin H' a (m + nd t) → TAt H' t' r → Tw M t t' → Q r H'
section
variable {P : Program} {w : World} {K : PySem.W.Frag} {mg : Str → Option Value} {base : Heap}
theorem sc19 : FnScope ["_law_tin", "_law_tree_here", "_law_maker", "_law_parts", "_law_own"] ["_law_tin", "_law_tree_here", "_law_maker"] (defScope (top 19)) := ⟨rfl, rfl, rfl, by decide +kernel, rfl, by decide +kernel, by decide +kernel⟩
theorem turn_map {n : Nat} {a b : Addr} {M : Int} {m : Nat} {xs : List V} {ks : List Tr} {σ : L2.St} {H1 : Hp} {D : Addr} {Qd : Hp → Prop} (hb : H1 b = some (.tup xs)) (nD : H1 D = none) (hσ : 4 < σ.length) (h0 : (wipe σ [4])[0]? = some (some (.ref a))) (h2 : (wipe σ [4])[2]? = some (some (.int M)))
    (hx : TAtL H1 ks xs) (hw : wfs ks) (hM : M = 1 ∨ M = 2) (hn : ks.length ≤ 1000) (hd : ∀ c ∈ ks, dep c < n) (T : Tin H1 a m) (hm : m + nds ks ≤ 1000000)
    (done : ∀ H acc ts, But a H1 H → Tin H a (m + nds ks) → H D = some (.lst acc) → TAtL H ts acc → ts.length = ks.length → (∀ (j : Nat) t c, ts[j]? = some t → ks[j]? = some c → Tw M c t) → Qd H) :
    ∃ W : Nat → Nat → Hp → Prop, (∃ m, W 0 m (upd H1 D (.lst []))) ∧ ∀ k m H, W k m H →
      ((Itt K b).stop k H ∧ Qd H) ∨ ((Itt K b).go k H ∧ ∃ Nx : Hp → Prop, (∀ H', Nx H' → ∃ m', m' < m ∧ W (k + 1) m' H') ∧ ∀ x H', (Itt K b).yld k H x H' → gName 4 x (wipe σ [4]) H' fun σ2 H2 => wipe σ2 [4] = wipe σ [4] ∧ tYes σ2 H2 fun b H3 =>
        if b = true then tCall (spTurn n) [] E0 (tCons (tVar 0) (tCons (tVar 4) (tCons (tVar 2) tNil))) σ2 H3 fun y H4 => ∃ acc, H4 D = some (.lst acc) ∧ acc.length < sizeLine ∧ Nx (upd H4 D (.lst (acc ++ [y]))) else Nx H3) := by
  have nDa : D ≠ a := T.neN nD
  have nba : b ≠ a := T.ne hb
  have lx := hx.length
  refine lc_genI (walk_tup (K := K) (a := b) (xs := xs)) (fun k H => But a H1 H ∧ Tin H a (m + nds (ks.take k))) (fun j y H => ∃ t, TAt H t y ∧ ∃ c, ks[j]? = some c ∧ Tw M c t) ⟨fun b o _ q => same_new nD _ b o q, by rw [List.take_zero, nds]; exact T.same (same_new nD _)⟩ (fun _ H f => SqT.of (f.1 _ _ nba hb)) (fun k H acc new e f => ⟨⟨fun b o nb q => ?_, ?_⟩, fun j y r => ?_⟩) (fun k x H H' acc Q hk f e y q => ?_) (fun H acc f e l r => ?_) (by omega)
  · rw [upd_ne (ne_of_none q nD)]
    exact f.1 b o nb q
  · obtain ⟨x, y, c, e1, e2⟩ := f.2
    exact ⟨x, y, c, by rw [upd_ne (Ne.symm nDa)]; exact e1, e2⟩
  · obtain ⟨t, e1, e2⟩ := r
    exact ⟨t, e1.tups (ups_tups e), e2⟩
  · obtain ⟨rfl, ex⟩ := y
    obtain ⟨c, ec, hc⟩ := hx.get ex
    have mc := List.mem_of_getElem? ec
    have et : ks.take (k + 1) = ks.take k ++ [c] := by rw [List.take_add_one, ec]; rfl
    have e3 : nds (ks.take (k + 1)) = nds (ks.take k) + nd c := by rw [et, nds_app, nds, nds]; omega
    have e4 := nds_take ks (k + 1)
    refine ⟨.ref a, by rw [List.getElem?_set_ne (by decide)]; exact h0, x, List.getElem?_set_self (by rw [wipe_length]; exact hσ), .int M, by rw [List.getElem?_set_ne (by decide)]; exact h2, a, c, x, M, m + nds (ks.take k), rfl, hc.but f.1 T, wfs_mem hw c mc, hM, hd c mc, f.2, by omega, fun r H4 t' b4 T4 a4 w4 => ?_⟩
    exact q r H4 ⟨f.1.trans b4, by rw [e3, ← Nat.add_assoc]; exact T4⟩ (by rw [e]; exact b4 _ _ nDa e) (fun j z ⟨t', e1, e2⟩ => ⟨t', e1.but b4 f.2, e2⟩) ⟨t', a4, c, ec, w4⟩
  · obtain ⟨ts, g1, g2, g3⟩ := trees_at (p := fun j t => ∃ c, ks[j]? = some c ∧ Tw M c t) (fun j y hy => r j y hy)
    refine done H acc ts f.1 (by have q := f.2; rw [lx, List.take_length] at q; exact q) e g1 (by omega) fun j t c e1 e2 => ?_
    obtain ⟨c', q1, q2⟩ := g3 j t e1
    rw [e2] at q1
    cases q1
    exact q2
theorem ok_turn (D : Df K mg "_law_turned" 19 ["_law_tin", "_law_tree_here", "_law_maker"]) (D2 : Df K mg "_law_is_two" 16 ["_law_tree_here", "_law_maker"]) (DT : Df K mg "_law_take" 9 ["_law_tin", "_law_below"]) (Z : Free mg) : ∀ n : Nat, Kp P w K mg base D (1 + n) (spTurn n)
  | 0 => FnOk.mono (kp_none D fun vs H Q E h => by
    obtain ⟨a, t, v, M, m, _, _, _, _, h, _⟩ := h
    exact Nat.not_lt_zero _ h) (Nat.zero_le _)
  | n + 1 => by
    have G := ok_turn D D2 DT Z n
    have G2 := ok_is2 (P := P) (w := w) (base := base) D2 Z
    have GT := ok_take (P := P) (w := w) (base := base) DT Z
    refine D.ok sc19 (fun vs H Q E h => ?_) (fun cdv A outer s H vs Q E hr h => ?_)
    · obtain ⟨a, t, v, M, m, rfl, _⟩ := h
      rfl
    obtain ⟨a, t, v, M, m, rfl, hv, hwf, hM, hd, T, hm, q⟩ := h
    have hr2 := hr.mono (show 1 ≤ 1 + n by omega)
    have hrT := hr2
    refine ⟨_, (pss_cons (ps_if (pt_cmpR op_ne (pe_ix ix_tup (pv 1) pe_int (fun _ _ => rfl)) pe_str (nomark _)) (pss_one (ps_ret (pv 1))) pss_nil)
      (pss_cons (ps_set (i := 3) sc19.nd rfl (Or.inl rfl) (pe_callTy call_tuple_of (by rfl) Z.tuple bt_tuple (pa_cons (pe_lc (own := [("_law_own", 4)]) (g := gName 4) (tt := tYes) rfl sc19.nd (pi_tup (pe_ix ix_tup (pv 1) pe_int (fun _ _ => rfl))) (blkOk_by (N := ["_law_tin", "_law_tree_here", "_law_maker", "_law_parts", "_law_own"]) (sc := defScope (top 19)) (by decide +kernel)) (fun _ _ _ _ _ => pg_name (i := 4) sc19.nd rfl (Or.inl rfl)) (fun _ _ _ _ _ => pts_nil) (fun _ _ _ _ _ => (pe_call G hr rfl D.m D.F.kp D.b .nil pass0 (pa_cons (pv 0) (pa_cons (pv 4) (pa_cons (pv 2) pa_nil)))))) pa_nil)))
      (pss_cons (ps_if (PW.pt (pw_and (pt_cmpR op_eq (pe_ix ix_tup (pv 1) pe_int (fun _ _ => rfl)) (pv 2) (nomark _)) (pw_and (pt_cmpR op_eq (pe_callB call_len_seq (by rfl) Z.len bt_len (pa_cons (pv 3) pa_nil)) pe_int (nomark _)) (pw_and (pt_val (pe_call G2 hr2 rfl D2.m D2.F.kp D2.b .nil pass0 (pa_cons (pe_ix ix_tup (pv 3) pe_int (fun _ _ => rfl)) (pa_cons (pv 2) pa_nil)))) (pw_and1 (pt_cmpR op_eq (pe_call GT hrT rfl DT.m DT.F.kp DT.b .nil pass0 (pa_cons (pv 0) (pa_cons pe_int pa_nil))) pe_int (nomark _))))))) (pss_one (ps_ret (pe_tup (pa_cons pe_str (pa_cons (pv 2) (pa_cons (pe_tup (pa_cons (pe_tup (pa_cons pe_str (pa_cons (pv 2) (pa_cons (pe_tup (pa_cons (pe_ix ix_tup (pv 3) pe_int (fun _ _ => rfl)) (pa_cons (pe_ix ix_tup (pe_ix ix_tup (pe_ix ix_tup (pv 3) pe_int (fun _ _ => rfl)) pe_int (fun _ _ => rfl)) pe_int (fun _ _ => rfl)) pa_nil))) pa_nil)))) (pa_cons (pe_ix ix_tup (pe_ix ix_tup (pe_ix ix_tup (pv 3) pe_int (fun _ _ => rfl)) pe_int (fun _ _ => rfl)) pe_int (fun _ _ => rfl)) pa_nil))) pa_nil)))))) pss_nil)
      (pss_one (ps_ret (pe_tup (pa_cons pe_str (pa_cons (pe_ix ix_tup (pv 1) pe_int (fun _ _ => rfl)) (pa_cons (pv 3) pa_nil))))))))), ?_⟩
    cases t with
    | leaf l =>
      obtain ⟨x, r, rfl, ha⟩ := hv.leaf
      refine ⟨.ref x, rfl, x, _, 0, _, rfl, rfl, SqT.of ha, at0, rfl, _, rfl, ?_⟩
      rw [dmake]
      exact iteT ⟨.ref x, rfl, q _ H (.leaf l) (But.refl a H) (T.le (Nat.le_add_right _ _)) hv ⟨hwf, rfl, rfl, rfl⟩⟩
    | node m' ks =>
      obtain ⟨x, b, xs, rfl, ha, hb, hx⟩ := TAt.node.mp hv
      have hwf' := hwf
      rw [wf] at hwf'
      rw [nd] at hm q
      refine ⟨.ref x, rfl, x, _, 0, _, rfl, rfl, SqT.of ha, at0, rfl, _, rfl, iteF ?_⟩
      refine ⟨.ref x, rfl, x, _, 2, _, rfl, rfl, SqT.of ha, at2, b, rfl, ⟨xs, SqT.of hb⟩, fun C nC => ?_⟩
      refine turn_map (K := K) (M := M) (n := n) hb nC (by show 4 < 5; decide) rfl rfl hx hwf'.2.2.2 hM (by omega) (fun c hc => by have := dep_kid (m := m') hc; omega) T (by omega) fun H1 acc ts b1 T1 e1 h1 l1 tw => ?_
      have twn : Tw M (.node m' ks) (.node m' ts) := Tw.node hwf l1 tw
      have ha1 := b1 _ _ (T.ne ha) ha
      refine ⟨C, acc, rfl, .inl ⟨SqL.of e1, fun p np => ?_⟩⟩
      have s2 : Same H1 (upd H1 p (.tup acc)) := same_new np _
      have e2 : (upd H1 p (.tup acc)) p = some (.tup acc) := upd_same
      generalize upd H1 p (.tup acc) = H2 at *
      have b2 : But a H H2 := b1.trans (Same.but s2 a)
      have T2 : Tin H2 a (m + nds ks) := T1.same s2
      have h2 : TAtL H2 ts acc := h1.same s2
      have ha2 := s2 _ _ ha1
      have lacc := h2.length
      -- the last return: the same making of the turned parts
      have last : ∀ H3 pn, But a H H3 → Tin H3 a (m + (nds ks + 1)) → H3 x = some (.tup [.str "make", .int m', .ref b]) → H3 p = some (.tup acc) → TAtL H3 ts acc → H3 pn = none → Q (.ref pn) (upd H3 pn (.tup [.str "make", .int m', .ref p])) := fun H3 pn b3 T3 _ ep h3 nn => by
        have s := same_new nn (.tup [.str "make", .int m', .ref p])
        exact q _ _ (.node m' ts) (b3.trans (Same.but s a)) (T3.same s) (TAt.node.mpr ⟨pn, p, acc, rfl, upd_same, s _ _ ep, h3.same s⟩) twn
      refine ⟨.ref x, rfl, x, _, 1, _, rfl, rfl, SqT.of ha2, at1, .int M, rfl, rfl, _, rfl, ?_⟩
      by_cases hm' : m' = M
      · rw [dint hm']
        refine iteT ⟨.ref p, rfl, p, acc, rfl, .inr (SqT.of e2), rfl, _, rfl, ?_⟩
        by_cases h2' : ts.length = 2
        · rw [dint (show ((acc.length : Nat) : Int) = 2 by omega)]
          refine iteT ?_
          match ts, h2' with
          | [c, d], _ =>
            obtain ⟨u, u', rfl, hu, hu'⟩ := h2.inv2
            refine ⟨.ref p, rfl, p, _, 1, u', rfl, rfl, SqT.of e2, at1, .int M, rfl, d, u', M, rfl, hu', _, rfl, ?_⟩
            cases hq : two M d with
            | false =>
              refine iteF (iteF ?_)
              refine ⟨.ref x, rfl, x, _, 1, _, rfl, rfl, SqT.of ha2, at1, .ref p, rfl, (by show 3 ≤ sizeLine; decide), fun pn nn => ?_⟩
              exact last H2 pn b2 (T2.le (by omega)) ha2 e2 h2 nn
            | true =>
              refine iteT ⟨.ref a, rfl, a, 2, m + nds ks, rfl, by decide, by decide, T2, by omega, fun r H3 r0 r1 b3 T3 => ?_⟩
              have ha3 := b3 _ _ (T2.ne ha2) ha2
              have e3 := b3 _ _ (T2.ne e2) e2
              have h3 := h2.but b3 T2
              have b03 := b2.trans b3
              refine ⟨rfl, _, rfl, ite2 (fun _ => ?_) fun _ => ?_⟩
              · obtain ⟨y, z, rfl⟩ := two_iff.mp hq
                obtain ⟨p1, p2, xs2, rfl, g1, g2, g3⟩ := TAt.node.mp (hu'.but b3 T2)
                obtain ⟨w1, w2, rfl, k1, k2⟩ := g3.inv2
                have hu3 := hu.but b3 T2
                refine ⟨.int M, rfl, .int M, rfl, .ref p, rfl, p, _, 0, u, rfl, rfl, SqT.of e3, at0, .ref p, rfl, p, _, 1, _, rfl, rfl, SqT.of e3, at1, p1, _, 2, _, rfl, rfl, SqT.of g1, at2, p2, _, 0, w1, rfl, rfl, SqT.of g2, at0, ?_⟩
                refine ⟨(by show 2 ≤ sizeLine; decide), fun n1 i1 => ⟨(by show 3 ≤ sizeLine; decide), fun n2 i2 => ?_⟩⟩
                have s1 := same_new i1 (.tup [u, w1])
                have s2' := same_new i2 (.tup [.str "make", .int M, .ref n1])
                have s12 := s1.trans s2'
                have t1 := TAt.node.mpr ⟨n2, n1, [u, w1], rfl, upd_same, s2' _ _ upd_same, TAtL.cons (hu3.same s12) (TAtL.cons (k1.same s12) TAtL.nil)⟩
                refine ⟨.ref p, rfl, p, _, 1, _, rfl, rfl, SqT.of (s12 _ _ e3), at1, p1, _, 2, _, rfl, rfl, SqT.of (s12 _ _ g1), at2, p2, _, 1, w2, rfl, rfl, SqT.of (s12 _ _ g2), at1, ?_⟩
                refine ⟨(by show 2 ≤ sizeLine; decide), fun n3 i3 => ⟨(by show 3 ≤ sizeLine; decide), fun n4 i4 => ?_⟩⟩
                have s3 := same_new i3 (.tup [.ref n2, w2])
                have s4 := same_new i4 (.tup [.str "make", .int M, .ref n3])
                have s34 := s3.trans s4
                have sA := s12.trans s34
                subst hm'
                refine q _ _ (.node m' [.node m' [c, y], z]) (b03.trans (Same.but sA a)) (T3.same sA) ?_ (twn.trans (Tw.back hM twn.wf))
                exact TAt.node.mpr ⟨n4, n3, [.ref n2, w2], rfl, upd_same, s4 _ _ upd_same, TAtL.cons (t1.same s34) (TAtL.cons (k2.same sA) TAtL.nil)⟩
              · refine ⟨.ref x, rfl, x, _, 1, _, rfl, rfl, SqT.of ha3, at1, .ref p, rfl, (by show 3 ≤ sizeLine; decide), fun pn nn => ?_⟩
                exact last H3 pn b03 T3 ha3 e3 h3 nn
        · rw [dintn (show ¬ ((acc.length : Nat) : Int) = 2 by omega)]
          refine iteF (iteF ?_)
          refine ⟨.ref x, rfl, x, _, 1, _, rfl, rfl, SqT.of ha2, at1, .ref p, rfl, (by show 3 ≤ sizeLine; decide), fun pn nn => ?_⟩
          exact last H2 pn b2 (T2.le (by omega)) ha2 e2 h2 nn
      · rw [dintn hm']
        refine iteF (iteF ?_)
        refine ⟨.ref x, rfl, x, _, 1, _, rfl, rfl, SqT.of ha2, at1, .ref p, rfl, (by show 3 ≤ sizeLine; decide), fun pn nn => ?_⟩
        exact last H2 pn b2 (T2.le (by omega)) ha2 e2 h2 nn
end
end K37

set_option Elab.async false
set_option linter.all false
set_option maxRecDepth 100000
set_option maxHeartbeats 4000000
/-! _law_bent: one leaf in the place of another. -/
namespace K37
open PySem PySem.Spec PyProof.Rows L2
def bentF : Lf → Lf
  | .thing _ => .thing 7
  | _ => .at [0, 0]
inductive Bent : Tr → Tr → Prop where
  | leaf (l : Lf) : Bent (.leaf l) (.leaf (bentF l))
  | sub (m : Int) (xs ys : List Tr) {c c' : Tr} : Bent c c' → Bent (.node m (xs ++ c :: ys)) (.node m (xs ++ c' :: ys))
theorem bentF_bad (l : Lf) : ¬ good (bentF l) := by
  cases l with
  | thing k => exact fun h => h rfl
  | «at» w => intro h; rcases h with h | h <;> cases h
  | call => intro h; rcases h with h | h <;> cases h
theorem Bent.bad {t t' : Tr} (h : Bent t t') : ∃ l ∈ lvs t', ¬ good l := by
  induction h with
  | leaf l => exact ⟨bentF l, by rw [lvs]; simp, bentF_bad l⟩
  | sub m xs ys _ ih =>
    obtain ⟨l, h1, h2⟩ := ih
    exact ⟨l, by rw [lvs]; exact lvss_mem (by simp) h1, h2⟩
theorem Bent.len {t t' : Tr} (h : Bent t t') : (lvs t').length = (lvs t).length := by
  induction h with
  | leaf l => rw [lvs, lvs]; rfl
  | sub m xs ys _ ih => rw [lvs, lvs, lvss_app, lvss_app, lvss, lvss, List.length_append, List.length_append, List.length_append, List.length_append, ih]
theorem Bent.wf {t t' : Tr} (h : Bent t t') : wf t → wf t' := by
  induction h with
  | leaf l => exact fun _ => trivial
  | sub m xs ys _ ih =>
    intro h
    rw [K37.wf, wfs_app, K37.wfs] at h ⊢
    obtain ⟨h1, h2, h3, h4, h5, h6⟩ := h
    rw [List.length_append, List.length_cons] at h2 h3 ⊢
    exact ⟨h1, h2, h3, h4, ih h5, h6⟩
theorem Bent.rho {t t' : Tr} (h : Bent t t') : rho t' = rho t := by
  induction h with
  | leaf l => rw [K37.rho, K37.rho]
  | sub m xs ys _ ih => rw [rho_node, rho_node, List.map_append, List.map_append, List.map_cons, List.map_cons, ih, rhos_app, rhos_app, rhos, rhos, ih]
theorem bentF_short (l : Lf) : shortF (bentF l) := by
  cases l with
  | thing k => trivial
  | «at» w => show 2 ≤ 1000; decide
  | call => show 2 ≤ 1000; decide
theorem Bent.short {t t' : Tr} (h : Bent t t') : (∀ l ∈ lvs t, shortF l) → ∀ l ∈ lvs t', shortF l := by
  induction h with
  | leaf l =>
    intro _ k hk
    rw [lvs] at hk
    rw [List.mem_singleton.mp hk]
    exact bentF_short l
  | sub m xs ys _ ih =>
    intro h k hk
    rw [lvs, lvss_app, lvss] at h hk
    rcases List.mem_append.mp hk with q | q
    · exact h k (List.mem_append_left _ q)
    · rcases List.mem_append.mp q with q1 | q2
      · exact ih (fun j hj => h j (List.mem_append_right _ (List.mem_append_left _ hj))) k q1
      · exact h k (List.mem_append_right _ (List.mem_append_right _ q2))
/-- the bent one is another one, whatever the maker -/
theorem Bent.ne {t t' : Tr} (h : Bent t t') (g : goods t) : lvs t ≠ lvs t' := fun e => by
  obtain ⟨l, h1, h2⟩ := h.bad
  rw [← e] at h1
  exact h2 (g l h1)
theorem Bent.cmb_ne {t t' : Tr} (h : Bent t t') (g : goods t) (M : Int) : ¬ cmb M t = cmb M t' := fun e => h.ne g (by
  rw [← lvs_cmb M t, ← lvs_cmb M t', e])
theorem Bent.swap_ne {t t' : Tr} (h : Bent t t') (g : goods t) (M m : Int) : ¬ cmb M (.node m [t, t']) = cmb M (.node m [t', t]) := fun e => by
  have q : lvs (.node m [t, t']) = lvs (.node m [t', t]) := by rw [← lvs_cmb M, e, lvs_cmb M]
  simp only [lvs, lvss, List.append_nil] at q
  exact h.ne g (List.append_inj q h.len.symm).1
def spBent (n : Nat) : Sp := fun vs H Q _ => ∃ (a : Addr) (t : Tr) (v : V) (m : Nat), vs = [.ref a, v] ∧ TAt H t v ∧ wf t ∧ dep t < n ∧ Tin H a m ∧ m + n ≤ 1000000 ∧
  ∀ (r : V) (H' : Hp) (t' : Tr), But a H H' → Tin H' a (m + n) → TAt H' t' r → Bent t t' → Q r H'
section
variable {P : Program} {w : World} {K : PySem.W.Frag} {mg : Str → Option Value} {base : Heap}
theorem sc20 : FnScope ["_law_tin", "_law_tree_here", "_law_k"] ["_law_tin", "_law_tree_here"] (defScope (top 20)) := ⟨rfl, rfl, rfl, by decide +kernel, rfl, by decide +kernel, by decide +kernel⟩
theorem ok_bent (D : Df K mg "_law_bent" 20 ["_law_tin", "_law_tree_here"]) (DT : Df K mg "_law_take" 9 ["_law_tin", "_law_below"]) (Z : Free mg) : ∀ n : Nat, Kp P w K mg base D (1 + n) (spBent n)
  | 0 => FnOk.mono (kp_none D fun vs H Q E h => by
    obtain ⟨a, t, v, m, _, _, _, h, _⟩ := h
    exact Nat.not_lt_zero _ h) (Nat.zero_le _)
  | n + 1 => by
    have G := ok_bent D DT Z n
    have GT := ok_take (P := P) (w := w) (base := base) DT Z
    refine D.ok sc20 (fun vs H Q E h => ?_) (fun cdv A outer s H vs Q E hr h => ?_)
    · obtain ⟨a, t, v, m, rfl, _⟩ := h
      rfl
    obtain ⟨a, t, v, m, rfl, hv, hwf, hd, T, hm, q⟩ := h
    have hrT := hr.mono (show 1 ≤ 1 + n by omega)
    refine ⟨_, (pss_cons (ps_if (pt_cmpR op_ne (pe_ix ix_tup (pv 1) pe_int (fun _ _ => rfl)) pe_str (nomark _)) (pss_one (ps_ret (pe_ifExp (pt_cmpR op_ne (pe_ix ix_tup (pv 1) pe_int (fun _ _ => rfl)) pe_str (nomark _)) (pe_tup (pa_cons pe_str (pa_cons (pe_tup (pa_cons pe_int (pa_cons pe_int pa_nil))) pa_nil))) (pe_tup (pa_cons pe_str (pa_cons pe_int pa_nil)))))) pss_nil)
      (pss_cons (ps_set (i := 2) sc20.nd rfl (Or.inl rfl) (pe_call GT hrT rfl DT.m DT.F.kp DT.b .nil pass0 (pa_cons (pv 0) (pa_cons (pe_callB call_len_seq (by rfl) Z.len bt_len (pa_cons (pe_ix ix_tup (pv 1) pe_int (fun _ _ => rfl)) pa_nil)) pa_nil))))
      (pss_one (ps_ret (pe_op (r := rCatA K) op_catA (pe_slice sl_tupA (pv 1) po_none (po_some pe_int)) (pe_tup (pa_cons (pe_op (r := rCatA K) op_catA (pe_op (r := rCatA K) op_catA (pe_slice sl_tupA (pe_ix ix_tup (pv 1) pe_int (fun _ _ => rfl)) po_none (po_some (pv 2))) (pe_tup (pa_cons (pe_call G hr rfl D.m D.F.kp D.b .nil pass0 (pa_cons (pv 0) (pa_cons (pe_ix ix_tup (pe_ix ix_tup (pv 1) pe_int (fun _ _ => rfl)) (pv 2) (fun _ _ => rfl)) pa_nil))) pa_nil))) (pe_slice sl_tupA (pe_ix ix_tup (pv 1) pe_int (fun _ _ => rfl)) (po_some (pe_op op_add (pv 2) pe_int)) po_none)) pa_nil))))))), ?_⟩
    cases t with
    | leaf l =>
      obtain ⟨x, r, rfl, ha⟩ := hv.leaf
      refine ⟨.ref x, rfl, x, _, 0, _, rfl, rfl, SqT.of ha, at0, rfl, _, rfl, ?_⟩
      rw [dmake]
      refine iteT ⟨.ref x, rfl, x, _, 0, _, rfl, rfl, SqT.of ha, at0, rfl, _, rfl, ?_⟩
      have other : decide (V.str (headF l) = V.str "thing") = false → bentF l = .at [0, 0] := fun h => by
        cases l with
        | thing k => cases (decide_eq_false_iff_not.mp h) rfl
        | «at» w => rfl
        | call => rfl
      cases hq : decide (V.str (headF l) = V.str "thing") with
      | false =>
        refine iteT ⟨(by show 2 ≤ sizeLine; decide), fun p1 n1 => ⟨(by show 2 ≤ sizeLine; decide), fun p2 n2 => ?_⟩⟩
        have s1 := same_new n1 (.tup [.int 0, .int 0])
        have s2 := same_new n2 (.tup [.str "at", .ref p1])
        refine q _ _ (.leaf (bentF l)) (Same.but (s1.trans s2) a) ((T.same (s1.trans s2)).le (by omega)) ?_ (Bent.leaf l)
        rw [other hq]
        exact at_at (w := [0, 0]) upd_same (s2 _ _ upd_same)
      | true =>
        refine iteF ⟨(by show 2 ≤ sizeLine; decide), fun p1 n1 => ?_⟩
        have s1 := same_new n1 (.tup [.str "thing", .int 7])
        refine q _ _ (.leaf (bentF l)) (Same.but s1 a) ((T.same s1).le (by omega)) ?_ (Bent.leaf l)
        have e : bentF l = .thing 7 := by
          cases l with
          | thing k => rfl
          | «at» w =>
            have h : V.str "at" = V.str "thing" := of_decide_eq_true hq
            exact absurd (V.str.inj h).symm str_ne1
          | call =>
            have h : V.str "call" = V.str "thing" := of_decide_eq_true hq
            exact absurd (V.str.inj h).symm str_ne2
        rw [e]
        exact thing_at upd_same
    | node m' ks =>
      obtain ⟨x, b, xs, rfl, ha, hb, hx⟩ := TAt.node.mp hv
      have hwf' := hwf
      rw [wf] at hwf'
      have lx := hx.length
      refine ⟨.ref x, rfl, x, _, 0, _, rfl, rfl, SqT.of ha, at0, rfl, _, rfl, iteF ?_⟩
      refine ⟨.ref a, rfl, .ref x, rfl, x, _, 2, _, rfl, rfl, SqT.of ha, at2, b, xs, rfl, .inr (SqT.of hb), a, (xs.length : Int), m, rfl, by omega, by omega, T, by omega, fun r H0 r0 r1 b0 T0 => ?_⟩
      obtain ⟨k, rfl⟩ : ∃ k : Nat, r = (k : Int) := ⟨r.toNat, by omega⟩
      have hk : k < xs.length := by omega
      have ha0 := b0 _ _ (T.ne ha) ha
      have hb0 := b0 _ _ (T.ne hb) hb
      have hx0 := hx.but b0 T
      have ey : xs[k]? = some xs[k] := List.getElem?_eq_getElem hk
      obtain ⟨c, ec, hc⟩ := hx0.get ey
      have mc := List.mem_of_getElem? ec
      have nbx := T0.ne ha0
      have nbb := T0.ne hb0
      clear ha hb hx
      refine ⟨.ref x, rfl, 2, rfl, sl_take 2 ha0 (by show 2 < 3; decide) fun p1 n1 => ?_⟩
      have s1 : Same H0 (upd H0 p1 (.tup ([.str "make", .int m', .ref b].take 2))) := same_new n1 _
      have e1 : (upd H0 p1 (.tup ([.str "make", .int m', .ref b].take 2))) p1 = some (.tup [.str "make", .int m']) := upd_same
      generalize upd H0 p1 (.tup ([.str "make", .int m', .ref b].take 2)) = H1 at *
      refine ⟨.ref x, rfl, x, _, 2, _, rfl, rfl, SqT.of (s1 _ _ ha0), at2, .int (k : Int), rfl, (k : Int), rfl, sl_take k (s1 _ _ hb0) hk fun p2 n2 => ?_⟩
      have s2 : Same H1 (upd H1 p2 (.tup (xs.take k))) := same_new n2 _
      have e2 : (upd H1 p2 (.tup (xs.take k))) p2 = some (.tup (xs.take k)) := upd_same
      generalize upd H1 p2 (.tup (xs.take k)) = H2 at *
      have s02 := s1.trans s2
      have T2 := T0.same s02
      refine ⟨.ref a, rfl, .ref x, rfl, x, _, 2, _, rfl, rfl, SqT.of (s02 _ _ ha0), at2, .int (k : Int), rfl, b, xs, (k : Int), xs[k], rfl, rfl, SqT.of (s02 _ _ hb0), atI_nat ey, ?_⟩
      have dk := dep_kid (m := m') mc
      refine ⟨a, c, xs[k], m + 1, rfl, hc.same s02, wfs_mem hwf'.2.2.2 c mc, by omega, T2, by omega, fun r H4 c' b4 T4 h4 bt => ?_⟩
      refine ⟨(by show 1 ≤ sizeLine; decide), fun p5 n5 => ?_⟩
      have s5 : Same H4 (upd H4 p5 (.tup [r])) := same_new n5 _
      have e5 : (upd H4 p5 (.tup [r])) p5 = some (.tup [r]) := upd_same
      generalize upd H4 p5 (.tup [r]) = H5 at *
      have e24 := b4 _ _ (T2.ne e2) e2
      refine cat_rd (s5 _ _ e24) e5 (by rw [List.length_take, List.length_singleton]; omega) fun p6 H6 s6 e6 => ?_
      have s46 := s5.trans s6
      have ha6 := s46 _ _ (b4 _ _ nbx (s02 _ _ ha0))
      have hb6 := s46 _ _ (b4 _ _ nbb (s02 _ _ hb0))
      refine ⟨.ref x, rfl, x, _, 2, _, rfl, rfl, SqT.of ha6, at2, .int (k : Int), rfl, (k : Int), 1, rfl, rfl, ((k + 1 : Nat) : Int), rfl, sl_dropN (k + 1) hb6 (by omega) (by omega) fun p7 n7 => ?_⟩
      have s7 : Same H6 (upd H6 p7 (.tup (xs.drop (k + 1)))) := same_new n7 _
      have e7 : (upd H6 p7 (.tup (xs.drop (k + 1)))) p7 = some (.tup (xs.drop (k + 1))) := upd_same
      generalize upd H6 p7 (.tup (xs.drop (k + 1))) = H7 at *
      refine cat_rd (s7 _ _ e6) e7 (by rw [List.length_append, List.length_take, List.length_singleton, List.length_drop]; omega) fun p8 H8 s8 e8 => ?_
      refine ⟨(by show 1 ≤ sizeLine; decide), fun p9 n9 => ?_⟩
      have s9 : Same H8 (upd H8 p9 (.tup [.ref p8])) := same_new n9 _
      have e9 : (upd H8 p9 (.tup [.ref p8])) p9 = some (.tup [.ref p8]) := upd_same
      generalize upd H8 p9 (.tup [.ref p8]) = H9 at *
      have s49 := s46.trans (s7.trans (s8.trans s9))
      have e14 := b4 _ _ (T2.ne (s2 _ _ e1)) (s2 _ _ e1)
      refine cat_rd (s49 _ _ e14) e9 (by show 3 ≤ 1000; decide) fun pr HR sR eR => ?_
      have s4R := s49.trans sR
      refine q _ _ (.node m' (ks.take k ++ c' :: ks.drop (k + 1))) (b0.trans ((Same.but s02 a).trans (b4.trans (Same.but s4R a)))) ((T4.same s4R).le (by omega)) ?_ ?_
      · refine TAt.node.mpr ⟨pr, p8, _, rfl, eR, (s9.trans sR) _ _ e8, ?_⟩
        have hall := ((hx0.same s02).but b4 T2).same s4R
        rw [List.append_assoc]
        exact (hall.take k).append (TAtL.cons (h4.same s4R) (hall.drop (k + 1)))
      · rw [take_mid ec]
        have ht : (ks.take k ++ c :: ks.drop (k + 1)).take k = ks.take k := by rw [← take_mid ec]
        have hd' : (ks.take k ++ c :: ks.drop (k + 1)).drop (k + 1) = ks.drop (k + 1) := by rw [← take_mid ec]
        rw [ht, hd']
        exact Bent.sub m' _ _ bt
end
end K37

set_option Elab.async false
set_option linter.all false
set_option maxRecDepth 100000
set_option maxHeartbeats 4000000
/-! _law_same, where both are the same. -/
namespace K37
open PySem PySem.Spec PyProof.Rows L2
def spSame (n : Nat) : Sp := fun vs H Q _ => ∃ (d : PyData) (g v : V), vs = [g, v] ∧ At H d g ∧ At H d v ∧ slim d ∧ d.depth < n ∧ ∀ H', Same H H' → Q (.bl true) H'
theorem dne (b : Bool) : (!decide (V.bl b = V.bl b)) = false := by simp
theorem deq (v : V) : decide (v = v) = true := decide_eq_true rfl
theorem all_rep (n : Nat) : (List.replicate n true).all id = true := by
  induction n with
  | zero => rfl
  | succ n ih => rw [List.replicate_succ, List.all_cons, ih]; rfl
section
variable {P : Program} {w : World} {K : PySem.W.Frag} {mg : Str → Option Value} {base : Heap}
theorem sc11 : FnScope ["_law_got", "_law_goal", "_law_mine", "_law_own"] ["_law_got", "_law_goal"] (defScope (top 11)) := ⟨rfl, rfl, rfl, by decide +kernel, rfl, by decide +kernel, by decide +kernel⟩
/-- [_law_same(mine, own) for mine, own in zip(got, goal)], both of the same data -/
theorem same_map {J : It} {Gd : Hp → Prop} {n : Nat} {xs ys : List V} {ds : List PyData} {g v : V} {H1 : Hp} {D : Addr} {Qd : Hp → Prop} (wk : Walk J xs.length Gd (YPair (fun i => xs[i]?) (fun i => ys[i]?))) (hG : ∀ H, Same H1 H → Gd H) (nD : H1 D = none)
    (hx : AtL H1 ds xs) (hy : AtL H1 ds ys) (sl : slims ds) (hn : ds.length ≤ 1000) (hd : PyData.depthAll ds < n)
    (done : ∀ H, Same H1 H → H D = some (.lst ((List.replicate xs.length true).map V.bl)) → Qd H) :
    ∃ W : Nat → Nat → Hp → Prop, (∃ m, W 0 m (upd H1 D (.lst []))) ∧ ∀ k m H, W k m H →
      (J.stop k H ∧ Qd H) ∨ (J.go k H ∧ ∃ Nx : Hp → Prop, (∀ H', Nx H' → ∃ m', m' < m ∧ W (k + 1) m' H') ∧ ∀ x H', J.yld k H x H' → gTup K 2 (gCons (gName 2) (gCons (gName 3) gNil)) x (wipe [some g, some v, none, none] [2, 3]) H' fun σ2 H2 => wipe σ2 [2, 3] = wipe [some g, some v, none, none] [2, 3] ∧ tYes σ2 H2 fun b H3 =>
        if b = true then tCall (spSame n) [] E0 (tCons (tVar 2) (tCons (tVar 3) tNil)) σ2 H3 fun y H4 => ∃ acc, H4 D = some (.lst acc) ∧ acc.length < sizeLine ∧ Nx (upd H4 D (.lst (acc ++ [y]))) else Nx H3) := by
  have lx : xs.length = ds.length := hx.length
  refine lc_it wk (fun k H => Same H1 H ∧ H D = some (.lst ((List.replicate k true).map V.bl))) ⟨same_new nD _, upd_same⟩ (fun k H _ p => hG H p.1) (fun k x H H' hk p y => ?_) fun H p => done H p.1 p.2
  obtain ⟨s, e⟩ := p
  obtain ⟨T, x0, y0, rfl, nT, rfl, ex, ey⟩ := y
  obtain ⟨d, ed, h1⟩ := hx.get ex
  obtain ⟨d', ed', h2⟩ := hy.get ey
  rw [ed] at ed'
  cases ed'
  have md := List.mem_of_getElem? ed
  have sT : Same H (upd H T (.tup [x0, y0])) := same_new nT _
  refine ⟨T, [x0, y0], rfl, SqT.of upd_same, rfl, x0, [y0], rfl, y0, [], rfl, rfl, rfl, ?_⟩
  unfold tYes
  refine (if_pos rfl).mpr ?_
  refine ⟨x0, rfl, y0, rfl, d, x0, y0, rfl, At.same (s.trans sT) _ _ h1, At.same (s.trans sT) _ _ h2, slims_mem sl d md, Nat.lt_of_le_of_lt (depth_mem md) hd, fun H4 s4 => ?_⟩
  have s04 := s.trans (sT.trans s4)
  refine ⟨_, (sT.trans s4) _ _ e, ?_, fun b o q => ?_, ?_⟩
  · rw [List.length_map, List.length_replicate]
    exact small1000 (by omega)
  · rw [upd_ne (ne_of_none q nD)]
    exact s04 b o q
  · rw [upd_same, List.replicate_succ', List.map_append]
    rfl
theorem isi_t {H : Hp} {d : PyData} {v : V} (h : At H d v) : PySem.W.kitOne K (.type (tyN d)) (.type "tuple") = some (tyN d == "tuple") := kit1 _ _ (tyN_in h) (by simp)
theorem isi_l {H : Hp} {d : PyData} {v : V} (h : At H d v) : PySem.W.kitOne K (.type (tyN d)) (.type "list") = some (tyN d == "list") := kit1 _ _ (tyN_in h) (by simp)
theorem isi_b {H : Hp} {d : PyData} {v : V} (h : At H d v) : PySem.W.kitOne K (.type (tyN d)) (.type "bool") = some (tyN d == "bool") := kitB1 _ (tyN_in h)
theorem isi_i {H : Hp} {d : PyData} {v : V} (h : At H d v) : PySem.W.kitOne K (.type (tyN d)) (.type "int") = some (tyN d == "int" || tyN d == "bool") := kitI1 _ (tyN_in h)
theorem ok_same (D : Df K mg "_law_same" 11 ["_law_got", "_law_goal"]) (Z : Free mg) : ∀ n : Nat, Kp P w K mg base D n (spSame n)
  | 0 => kp_none D fun vs H Q E h => by
    obtain ⟨d, g, v, _, _, _, _, h, _⟩ := h
    exact Nat.not_lt_zero _ h
  | n + 1 => by
    have G := ok_same D Z n
    refine D.ok sc11 (fun vs H Q E h => ?_) (fun cdv A outer s H vs Q E hr h => ?_)
    · obtain ⟨d, g, v, rfl, _⟩ := h
      rfl
    obtain ⟨d, g, v, rfl, hg, hv, sl, hd, q⟩ := h
    refine ⟨_, (pss_cons (ps_if (pt_val (pe_callB call_isiT (by rfl) Z.isinstance bt_isinstance (pa_cons (pv 1) (pa_cons (pe_tup (pa_cons (pe_bltn (v := .ty "list") (by rfl) Z.list bt_list rfl) (pa_cons (pe_bltn (v := .ty "tuple") (by rfl) Z.tuple bt_tuple rfl) pa_nil))) pa_nil)))) (pss_cons (ps_if (PW.pt (pw_or (pt_cmpR op_ne (pe_callB call_isi (by rfl) Z.isinstance bt_isinstance (pa_cons (pv 0) (pa_cons (pe_bltn (v := .ty "list") (by rfl) Z.list bt_list rfl) pa_nil))) (pe_callB call_isi (by rfl) Z.isinstance bt_isinstance (pa_cons (pv 1) (pa_cons (pe_bltn (v := .ty "list") (by rfl) Z.list bt_list rfl) pa_nil))) (nomark _)) (pw_or1 (pt_cmpR op_ne (pe_callB call_isi (by rfl) Z.isinstance bt_isinstance (pa_cons (pv 0) (pa_cons (pe_bltn (v := .ty "tuple") (by rfl) Z.tuple bt_tuple rfl) pa_nil))) (pe_callB call_isi (by rfl) Z.isinstance bt_isinstance (pa_cons (pv 1) (pa_cons (pe_bltn (v := .ty "tuple") (by rfl) Z.tuple bt_tuple rfl) pa_nil))) (nomark _))))) (pss_one (ps_ret pe_bl)) pss_nil)
        (pss_one (ps_ret (pe_and (pe_cmpR op_eq (pe_callB call_len_seq (by rfl) Z.len bt_len (pa_cons (pv 0) pa_nil)) (pe_callB call_len_seq (by rfl) Z.len bt_len (pa_cons (pv 1) pa_nil)) (nomark _)) (pe_one (pe_callB (cr_all rfl) (by rfl) Z.all bt_all (pa_cons (pe_lc (own := [("_law_mine", 2), ("_law_own", 3)]) (g := (gTup K 2 (gCons (gName 2) (gCons (gName 3) gNil)))) (tt := tYes) rfl sc11.nd (RZ.pi_zipA (by rfl) Z.zip (pa_cons (pv 0) (pa_cons (pv 1) pa_nil))) (blkOk_by (N := ["_law_got", "_law_goal", "_law_mine", "_law_own"]) (sc := defScope (top 11)) (by decide +kernel)) (fun _ _ _ _ _ => (pg_tup (by rfl) (pgs_cons (pg_name (i := 2) sc11.nd rfl (Or.inl rfl)) (pgs_cons (pg_name (i := 3) sc11.nd rfl (Or.inl rfl)) pgs_nil)))) (fun _ _ _ _ _ => pts_nil) (fun _ _ _ _ _ => (pe_call G hr rfl D.m D.F.kp D.b .nil pass0 (pa_cons (pv 2) (pa_cons (pv 3) pa_nil))))) pa_nil))))))) pss_nil)
      (pss_cons (ps_if (PW.pt (pw_or (pt_cmpR op_isN (pv 1) pe_non (nomark _)) (pw_or1 (pt_val (pe_callB call_isiT (by rfl) Z.isinstance bt_isinstance (pa_cons (pv 1) (pa_cons (pe_tup (pa_cons (pe_bltn (v := .ty "bool") (by rfl) Z.bool bt_bool rfl) (pa_cons (pe_bltn (v := .ty "str") (by rfl) Z.str bt_str rfl) pa_nil))) pa_nil))))))) (pss_one (ps_ret (pe_and (pe_cmpR op_eq (pv 0) (pv 1) (nomark _)) (pe_and (pe_cmpR op_eq (pe_callB call_isi (by rfl) Z.isinstance bt_isinstance (pa_cons (pv 0) (pa_cons (pe_bltn (v := .ty "bool") (by rfl) Z.bool bt_bool rfl) pa_nil))) (pe_callB call_isi (by rfl) Z.isinstance bt_isinstance (pa_cons (pv 1) (pa_cons (pe_bltn (v := .ty "bool") (by rfl) Z.bool bt_bool rfl) pa_nil))) (nomark _)) (pe_one (pe_cmpR op_eq (pe_cmpR op_isN (pv 0) pe_non (nomark _)) (pe_cmpR op_isN (pv 1) pe_non (nomark _)) (nomark _))))))) pss_nil)
      (pss_one (ps_ret (pe_and (pe_callB call_isi (by rfl) Z.isinstance bt_isinstance (pa_cons (pv 0) (pa_cons (pe_bltn (v := .ty "int") (by rfl) Z.int bt_int rfl) pa_nil))) (pe_and (pe_not (pe_callB call_isi (by rfl) Z.isinstance bt_isinstance (pa_cons (pv 0) (pa_cons (pe_bltn (v := .ty "bool") (by rfl) Z.bool bt_bool rfl) pa_nil)))) (pe_one (pe_cmpR op_eq (pv 0) (pv 1) (nomark _))))))))), ?_⟩
    refine ⟨v, rfl, (by show 2 ≤ sizeLine; decide), fun p np => ?_⟩
    have s1 : Same H (upd H p (.tup [.ty "list", .ty "tuple"])) := same_new np _
    refine ⟨_, p, _, _, _, _, rfl, upd_same, cls2, tyx_new hv np, kit_seq hv, _, rfl, ?_⟩
    have hg1 := At.same s1 _ _ hg
    have hv1 := At.same s1 _ _ hv
    generalize upd H p (.tup [.ty "list", .ty "tuple"]) = H1 at *
    cases hq : isSeq d with
    | true =>
      refine iteT ?_
      refine ⟨g, rfl, g, _, _, _, _, rfl, .ty _, tyx hg1, isi_l hg1, v, rfl, v, _, _, _, _, rfl, .ty _, tyx hv1, isi_l hv1, rfl, _, rfl, ?_⟩
      rw [dne]
      refine iteF ⟨g, rfl, g, _, _, _, _, rfl, .ty _, tyx hg1, isi_t hg1, v, rfl, v, _, _, _, _, rfl, .ty _, tyx hv1, isi_t hv1, rfl, _, rfl, ?_⟩
      rw [dne]
      refine iteF ?_
      cases d with
      | list ds =>
        rw [At] at hg1 hv1
        obtain ⟨a, xs, rfl, ha, hx⟩ := hg1
        obtain ⟨b, ys, rfl, hb, hy⟩ := hv1
        rw [slim] at sl
        rw [PyData.depth] at hd
        have l1 := hx.length
        have l2 := hy.length
        refine ⟨.ref a, rfl, a, xs, rfl, .inl (SqL.of ha), .ref b, rfl, b, ys, rfl, .inl (SqL.of hb), rfl, _, rfl, ?_⟩
        rw [dint (show ((xs.length : Nat) : Int) = (ys.length : Int) by omega)]
        refine iteT ⟨.ref a, rfl, .ref b, rfl, a, b, xs, ys, rfl, .inl ⟨SqL.of ha, SqL.of hb, fun C nC => ?_⟩⟩
        refine same_map (K := K) (walk_zip (K := K) (a := a) (b := b) (show xs.length = min xs.length ys.length by omega)) (fun H' s' => ⟨SqL.of (s' _ _ ha), SqL.of (s' _ _ hb)⟩) nC hx hy sl.2 sl.1 (by omega) fun H2 s2 e2 => ?_
        refine ⟨C, _, rfl, SqL.of e2, ?_⟩
        rw [all_rep]
        exact q _ (s1.trans s2)
      | tuple ds =>
        rw [At] at hg1 hv1
        obtain ⟨a, xs, rfl, ha, hx⟩ := hg1
        obtain ⟨b, ys, rfl, hb, hy⟩ := hv1
        rw [slim] at sl
        rw [PyData.depth] at hd
        have l1 := hx.length
        have l2 := hy.length
        refine ⟨.ref a, rfl, a, xs, rfl, .inr (SqT.of ha), .ref b, rfl, b, ys, rfl, .inr (SqT.of hb), rfl, _, rfl, ?_⟩
        rw [dint (show ((xs.length : Nat) : Int) = (ys.length : Int) by omega)]
        refine iteT ⟨.ref a, rfl, .ref b, rfl, a, b, xs, ys, rfl, .inr ⟨SqT.of ha, SqT.of hb, fun C nC => ?_⟩⟩
        refine same_map (K := K) (walk_zipT (K := K) (a := a) (b := b) (show xs.length = min xs.length ys.length by omega)) (fun H' s' => ⟨SqT.of (s' _ _ ha), SqT.of (s' _ _ hb)⟩) nC hx hy sl.2 sl.1 (by omega) fun H2 s2 e2 => ?_
        refine ⟨C, _, rfl, SqL.of e2, ?_⟩
        rw [all_rep]
        exact q _ (s1.trans s2)
      | _ => cases hq
    | false =>
      refine iteF ?_
      cases d with
      | list _ => cases hq
      | tuple _ => cases hq
      | dict _ => rw [At] at hv; exact hv.elim
      | none =>
        rw [At] at hv hg
        subst hv hg
        refine ⟨.non, rfl, rfl, _, rfl, iteT ⟨.non, rfl, .non, rfl, rfl, _, rfl, iteT ?_⟩⟩
        refine ⟨.non, rfl, .non, _, _, _, _, rfl, .ty _, tyx hg1, isi_b hg1, .non, rfl, .non, _, _, _, _, rfl, .ty _, tyx hv1, isi_b hv1, rfl, _, rfl, ?_⟩
        rw [deq]
        exact iteT ⟨.non, rfl, rfl, .non, rfl, rfl, rfl, q _ s1⟩
      | bool b =>
        rw [At] at hv hg
        subst hv hg
        refine ⟨.bl b, rfl, rfl, _, rfl, iteF ⟨.bl b, rfl, (by show 2 ≤ sizeLine; decide), fun p2 n2 => ?_⟩⟩
        have s2 : Same H1 (upd H1 p2 (.tup [.ty "bool", .ty "str"])) := same_new n2 _
        refine ⟨_, p2, _, _, _, _, rfl, upd_same, cls2, tyx_new hv1 n2, kit_bs hv1, _, rfl, iteT ?_⟩
        have hg2 := At.same s2 _ _ hg1
        refine ⟨.bl b, rfl, .bl b, rfl, rfl, _, rfl, ?_⟩
        rw [deq]
        refine iteT ⟨.bl b, rfl, .bl b, _, _, _, _, rfl, .ty _, tyx hg2, isi_b hg2, .bl b, rfl, .bl b, _, _, _, _, rfl, .ty _, tyx hg2, isi_b hg2, rfl, _, rfl, ?_⟩
        rw [deq]
        refine iteT ⟨.bl b, rfl, rfl, .bl b, rfl, rfl, rfl, ?_⟩
        rw [deq]
        exact q _ (s1.trans s2)
      | str x =>
        rw [At] at hv hg
        subst hv hg
        refine ⟨.str x, rfl, rfl, _, rfl, iteF ⟨.str x, rfl, (by show 2 ≤ sizeLine; decide), fun p2 n2 => ?_⟩⟩
        have s2 : Same H1 (upd H1 p2 (.tup [.ty "bool", .ty "str"])) := same_new n2 _
        refine ⟨_, p2, _, _, _, _, rfl, upd_same, cls2, tyx_new hv1 n2, kit_bs hv1, _, rfl, iteT ?_⟩
        have hg2 := At.same s2 _ _ hg1
        refine ⟨.str x, rfl, .str x, rfl, rfl, _, rfl, ?_⟩
        rw [deq]
        refine iteT ⟨.str x, rfl, .str x, _, _, _, _, rfl, .ty _, tyx hg2, isi_b hg2, .str x, rfl, .str x, _, _, _, _, rfl, .ty _, tyx hg2, isi_b hg2, rfl, _, rfl, ?_⟩
        rw [deq]
        refine iteT ⟨.str x, rfl, rfl, .str x, rfl, rfl, rfl, ?_⟩
        rw [deq]
        exact q _ (s1.trans s2)
      | int i =>
        rw [At] at hv hg
        subst hv hg
        refine ⟨.int i, rfl, rfl, _, rfl, iteF ⟨.int i, rfl, (by show 2 ≤ sizeLine; decide), fun p2 n2 => ?_⟩⟩
        have s2 : Same H1 (upd H1 p2 (.tup [.ty "bool", .ty "str"])) := same_new n2 _
        refine ⟨_, p2, _, _, _, _, rfl, upd_same, cls2, tyx_new hv1 n2, kit_bs hv1, _, rfl, iteF ?_⟩
        have hg2 := At.same s2 _ _ hg1
        refine ⟨.int i, rfl, .int i, _, _, _, _, rfl, .ty _, tyx hg2, isi_i hg2, _, rfl, iteT ⟨.int i, rfl, .int i, _, _, _, _, rfl, .ty _, tyx hg2, isi_b hg2, _, rfl, _, rfl, iteT ⟨.int i, rfl, .int i, rfl, rfl, ?_⟩⟩⟩
        rw [deq]
        exact q _ (s1.trans s2)
end
end K37

set_option Elab.async false
set_option linter.all false
set_option maxRecDepth 100000
set_option maxHeartbeats 4000000
/-! _law_cells, _law_box: from the script to the list that draws come from. -/
namespace K37
open PySem PySem.Spec PyProof.Rows L2
theorem cut_mem {xs : List V} {lo hi : Option Int} {v : V} (h : v ∈ cutV xs lo hi) : v ∈ xs := by
  unfold cutV at h
  exact List.mem_of_mem_drop (List.mem_of_mem_take h)
def spBox : Sp := fun vs H Q _ => ∃ (a : Addr) (n : Int) (ns : List Int), vs = [.ref a, .int 0] ∧ H a = some (.lst ((n :: ns).map V.int)) ∧ ∀ (r : Addr) (H' : Hp), Same H H' → H r = none → Tin H' r 0 → Q (.ref r) H'
def spCells (K : PySem.W.Frag) : Sp := fun vs H Q _ => ∃ (a : Addr) (ns : List Int), vs = [.ref a, .int 1] ∧ SqL K H a (ns.map V.int) ∧ ns.length ≤ 63 ∧ ∀ (r : Addr) (H' : Hp) (z : Int) (zs : List Int), Same H H' → H' r = some (.lst ((z :: zs).map V.int)) → Q (.ref r) H'
section
variable {P : Program} {w : World} {K : PySem.W.Frag} {mg : Str → Option Value} {base : Heap}
theorem sc8 : FnScope ["_law_script", "_law_k", "_law_cell"] ["_law_script", "_law_k"] (defScope (top 8)) := ⟨rfl, rfl, rfl, by decide +kernel, rfl, by decide +kernel, by decide +kernel⟩
theorem sc10 : FnScope ["_law_script", "_law_most", "_law_cells_here", "_law_k", "_law_cell", "_law_spot"] ["_law_script", "_law_most"] (defScope (top 10)) := ⟨rfl, rfl, rfl, by decide +kernel, rfl, by decide +kernel, by decide +kernel⟩
theorem abs_pos (n : Int) : 0 ≤ if n < 0 then -n else n := by split <;> omega
theorem bit_ok (b : Bool) : -(2 ^ 64) < (if b = true then (1 : Int) else 0) ∧ (if b = true then (1 : Int) else 0) < 2 ^ 64 := by cases b <;> decide
theorem bit01 (b : Bool) : (if b = true then (1 : Int) else 0) = 0 ∨ (if b = true then (1 : Int) else 0) = 1 := by cases b <;> decide
theorem nz5 : (2305843009213693951 : Int) ≠ 0 := by decide
theorem nz6 : (1 : Int) ≠ 0 := by decide
theorem ixN_zero (y : Int) (ys : List Int) : ixN ((y :: ys).map V.int).length 0 = some 0 := by
  unfold ixN
  rw [if_pos (Int.le_refl 0), if_pos (by rw [List.length_map, List.length_cons]; omega)]
  rfl
theorem ok_box (D : Df K mg "_law_box" 8 ["_law_script", "_law_k"]) (Z : Free mg) : Kp P w K mg base D 1 spBox := by
  refine D.ok sc8 (fun vs H Q E h => ?_) (fun cdv A outer s H vs Q E hr h => ?_)
  · obtain ⟨a, n, ns, rfl, _⟩ := h
    rfl
  obtain ⟨a, n, ns, rfl, ha, q⟩ := h
  refine ⟨_, (pss_cons (ps_set (i := 2) sc8.nd rfl (Or.inl rfl) (pe_ifExp (pt_cmpR op_lt (pv 1) (pe_callB call_len_seq (by rfl) Z.len bt_len (pa_cons (pv 0) pa_nil)) (nomark _)) (pe_ix ix_list (pv 0) (pv 1) (fun _ _ => rfl)) pe_int))
      (pss_one (ps_ret (pe_lst (pa_cons (pe_op op_mul (pe_callB call_abs (by rfl) Z.abs bt_abs (pa_cons (pv 2) pa_nil)) (pe_callTy call_int1 (by rfl) Z.int bt_int (pa_cons (pe_cmpR op_ge (pe_callB call_abs (by rfl) Z.abs bt_abs (pa_cons (pv 2) pa_nil)) (pe_op op_pow pe_int pe_int) (nomark _)) pa_nil))) (pa_cons (pe_op op_add (pe_op op_add (pe_op op_modN (pe_callTy call_int1 (by rfl) Z.int bt_int (pa_cons (pv 2) pa_nil)) pe_int) (pe_op op_mul pe_int (pv 1))) pe_int) (pa_cons pe_int pa_nil))))))), ?_⟩
  refine ⟨.int 0, rfl, .ref a, rfl, a, _, rfl, .inl (SqL.of ha), 0, _, rfl, rfl, _, rfl, ?_⟩
  have lt : decide ((0 : Int) < ((((n :: ns).map V.int).length : Nat) : Int)) = true := decide_eq_true (by rw [List.length_map, List.length_cons]; omega)
  rw [lt]
  refine iteT ⟨.ref a, rfl, .int 0, rfl, a, _, 0, .int n, rfl, rfl, SqL.of ha, at0, ?_⟩
  have pos := abs_pos n
  have fin : ∀ (b y : Int), (b = 0 ∨ b = 1) → ∀ r, H r = none → Q (.ref r) (upd H r (.lst [.int ((if n < 0 then -n else n) * b), .int y, .int 0])) := fun b y hb r nr => by
    refine q r _ (same_new nr _) nr ⟨_, y, 0, upd_same, ?_, Int.le_refl 0, Int.le_refl 0⟩
    rcases hb with rfl | rfl
    · rw [Int.mul_zero]; exact Int.le_refl 0
    · rw [Int.mul_one]; exact pos
  refine ⟨.int n, rfl, n, rfl, .int n, rfl, n, rfl, 10, 18, rfl, rfl, ⟨by decide, by decide, by decide⟩, _, _, rfl, rfl, .inr ⟨_, rfl, _, _, rfl, rfl, .inr (bit_ok _), ?_⟩⟩
  refine ⟨.int n, rfl, .inl ⟨n, rfl, n, 2305843009213693951, rfl, rfl, nz5, .int 0, rfl, 39373, 0, rfl, rfl, .inl ⟨by decide, by decide⟩, _, _, rfl, rfl, _, 3169037, rfl, rfl, (by show 3 ≤ sizeLine; decide), fun r nr => ?_⟩⟩
  exact fin _ _ (bit01 _) r nr
theorem ok_cells (D : Df K mg "_law_cells" 10 ["_law_script", "_law_most"]) (Z : Free mg) : Kp P w K mg base D 1 (spCells K) := by
  refine D.ok sc10 (fun vs H Q E h => ?_) (fun cdv A outer s H vs Q E hr h => ?_)
  · obtain ⟨a, ns, rfl, _⟩ := h
    rfl
  obtain ⟨a, ns, rfl, ha, hn, q⟩ := h
  have rest : ∃ t, PSs (cxOf CX0 P w K mg base ["_law_script", "_law_most", "_law_cells_here", "_law_k", "_law_cell", "_law_spot"] "_law_cells" (defScope (top 10)) D.f cdv A outer s H E).nox ((defBody (top 10)).drop 1) t ∧
      ∀ (r : Addr) (H1 : Hp) (z : Int) (zs : List Int), Same H H1 → H r = none → H1 r = some (.lst ((z :: zs).map V.int)) → t { nx := fun _ H' => Q .non H', rt := Q } [some (.ref a), some (.int 1), some (.ref r), none, none, none] H1 := by
    refine ⟨_, (pss_cons (ps_for PassesOwn.never rfl (pi_enum (by rfl) Z.enumerate (pa_cons (pe_slice sl_list (pv 0) (po_some (pv 1)) (po_some pe_int)) pa_nil)) (pg_tup (by rfl) (pgs_cons (pg_name (i := 3) sc10.nd rfl (Or.inl rfl)) (pgs_cons (pg_name (i := 4) sc10.nd rfl (Or.inl rfl)) pgs_nil))) (pss_cons (ps_set (i := 5) sc10.nd rfl (Or.inl rfl) (pe_op op_modN (pe_callTy call_int1 (by rfl) Z.int bt_int (pa_cons (pv 3) pa_nil)) (pv 1)))
        (pss_one (ps_asg (pe_op op_add (pe_ix ix_list (pv 2) (pv 5) (fun _ _ => rfl)) (pe_op op_mul (pv 4) (pe_op op_add (pv 3) pe_int))) (pg_sub (pv 2) (pv 5) set_list)))))
      (pss_one (ps_ret (pv 2)))), fun r H1 z zs s1 nr e1 => ?_⟩
    refine ⟨.ref a, rfl, .int 1, rfl, 1, rfl, 63, rfl, a, ns.map V.int, rfl, s1.seq ha, fun c nc => ?_⟩
    have s2 : Same H1 (upd H1 c (.lst (cutV (ns.map V.int) (some 1) (some 63)))) := same_new nc _
    have e2 : (upd H1 c (.lst (cutV (ns.map V.int) (some 1) (some 63)))) c = some (.lst (cutV (ns.map V.int) (some 1) (some 63))) := upd_same
    have hm : ∀ v ∈ cutV (ns.map V.int) (some 1) (some 63), ∃ i : Int, v = .int i := fun v hv => by
      obtain ⟨i, _, e⟩ := List.mem_map.mp (cut_mem hv)
      exact ⟨i, e.symm⟩
    have hl := cutV_length (ns.map V.int) (some 1) (some 63)
    rw [List.length_map] at hl
    have ncr : c ≠ r := fun e => by
      rw [e, e1] at nc
      cases nc
    generalize cutV (ns.map V.int) (some 1) (some 63) = its at *
    generalize upd H1 c (.lst its) = H2 at *
    refine ⟨c, its, rfl, SqL.of e2, ?_⟩
    refine for_it (walk_enum (K := K) (a := c) (xs := its)) (fun i σ H' => ∃ (y : Int) (ys : List Int) (o3 o4 o5 : Option V), σ = [some (.ref a), some (.int 1), some (.ref r), o3, o4, o5] ∧ But r H2 H' ∧ H' r = some (.lst ((y :: ys).map V.int)))
      ⟨z, zs, none, none, none, rfl, But.refl r H2, s2 _ _ e1⟩ (fun i σ H' _ p => ?_) (fun i x σ H' H'' hi p y => ?_) fun σ H' p => ?_
    · obtain ⟨_, _, _, _, _, _, b', _⟩ := p
      exact SqL.of (b' _ _ ncr e2)
    · obtain ⟨y0, ys, o3, o4, o5, rfl, b', e'⟩ := p
      obtain ⟨T, x1, y1, rfl, nT, rfl, ex, ey⟩ := y
      cases ex
      obtain ⟨cell, rfl⟩ := hm y1 (List.mem_of_getElem? ey)
      have sT : Same H' (upd H' T (.tup [.int (i : Int), .int cell])) := same_new nT _
      have eT := sT _ _ e'
      have bT : But r H2 (upd H' T (.tup [.int (i : Int), .int cell])) := b'.trans (Same.but sT r)
      refine ⟨T, _, rfl, SqT.of upd_same, rfl, .int (i : Int), [.int cell], rfl, .int cell, [], rfl, rfl, ?_⟩
      generalize upd H' T (.tup [.int (i : Int), .int cell]) = H3 at *
      have f0 : (i : Int).fmod 1 = 0 := by
        obtain ⟨f1, f2⟩ := fmod_lt (i := (i : Int)) (k := 1) (by decide)
        omega
      refine ⟨.int (i : Int), rfl, .inl ⟨(i : Int), rfl, .int 1, rfl, (i : Int), 1, rfl, rfl, nz6, ?_⟩⟩
      have ez : V.int ((i : Int).fmod 1) = V.int 0 := by rw [f0]
      refine ⟨.ref r, rfl, _, rfl, r, _, 0, .int y0, rfl, ez, SqL.of eT, at0, .int cell, rfl, .int (i : Int), rfl, (i : Int), 2, rfl, rfl, cell, _, rfl, rfl, .inr ⟨by omega, by omega⟩, y0, _, rfl, rfl, ?_⟩
      refine ⟨.ref r, rfl, _, rfl, r, _, 0, 0, rfl, ez, eT, ixN_zero _ _, ?_⟩
      exact ⟨y0 + cell * ((i : Int) + 2), ys, _, _, _, rfl, bT.trans (But.upd _), upd_same⟩
    · obtain ⟨y0, ys, o3, o4, o5, rfl, b', e'⟩ := p
      exact ⟨.ref r, rfl, q r H' y0 ys (fun b o e => b' b o (ne_of_none e nr) (s2 _ _ (s1 _ _ e))) e'⟩
  obtain ⟨t, ht, hrest⟩ := rest
  refine ⟨_, (pss_cons (ps_set (i := 2) sc10.nd rfl (Or.inl rfl) (pe_orT (pe_callTy call_list_of (by rfl) Z.list bt_list (pa_cons (pe_slice sl_list (pv 0) po_none (po_some (pv 1))) pa_nil)) (pe_one (pe_lst (pa_cons pe_int pa_nil)))))
      ht), ?_⟩
  refine ⟨.ref a, rfl, .int 1, rfl, 1, rfl, a, ns.map V.int, rfl, ha, fun c nc => ?_⟩
  have s1 : Same H (upd H c (.lst (cutV (ns.map V.int) none (some 1)))) := same_new nc _
  refine ⟨c, _, rfl, .inl (SqL.of upd_same), fun l nl => ?_⟩
  have s2 : Same (upd H c (.lst (cutV (ns.map V.int) none (some 1)))) (upd (upd H c (.lst (cutV (ns.map V.int) none (some 1)))) l (.lst (cutV (ns.map V.int) none (some 1)))) := same_new nl _
  cases ns with
  | nil =>
    refine ⟨false, .inl ⟨_, SqL.of upd_same, rfl⟩, iteF ⟨(by show 1 ≤ sizeLine; decide), fun r nr => ?_⟩⟩
    exact hrest r _ 0 [] (s1.trans (s2.trans (same_new nr _))) (Same.free (s1.trans s2) nr) upd_same
  | cons n ns =>
    have e : cutV ((n :: ns).map V.int) none (some 1) = [.int n] := cut_take ((n :: ns).map V.int) 1 (by rw [List.length_map, List.length_cons]; omega)
    refine ⟨true, .inl ⟨_, SqL.of upd_same, by rw [e]; rfl⟩, iteT ?_⟩
    exact hrest l _ n [] (s1.trans s2) (Same.free s1 nl) (by rw [upd_same, e]; rfl)
end
end K37

set_option Elab.async false
set_option linter.all false
set_option maxRecDepth 100000
set_option maxHeartbeats 4000000
/-! _law_right: the drawn part of the law. -/
namespace K37
open PySem PySem.Spec PyProof.Rows L2
/-- a maker that does not stand in it combs nothing -/
theorem cmb3 : ∀ t, wf t → cmb 3 t = t := by
  refine fun t h => cmb_still 3 t ?_
  revert h
  revert t
  refine Tr.ind (fun l _ => trivial) fun m ks ih h => ?_
  rw [wf] at h
  rw [still]
  refine ⟨?_, stills_of fun c hc => ih c hc (wfs_mem h.2.2.2 c hc)⟩
  rintro ⟨h1, _⟩
  obtain ⟨a, b, e⟩ := two_iff.mp h1
  injection e with e1 _
  rcases h.1 with q | q <;> rw [e1] at q <;> cases q
theorem short_good {t : Tr} (g : goods t) : short t := short_of t fun l hl => good_short (g l hl)
theorem At.lst3 {H : Hp} {r : Addr} {d1 d2 d3 : PyData} {v1 v2 v3 : V} (e : H r = some (.lst [v1, v2, v3])) (h1 : At H d1 v1) (h2 : At H d2 v2) (h3 : At H d3 v3) : At H (.list [d1, d2, d3]) (.ref r) := by
  rw [At]
  exact ⟨r, _, rfl, e, AtL.cons h1 (AtL.cons h2 (AtL.cons h3 AtL.nil))⟩
theorem At.lst4 {H : Hp} {r : Addr} {d1 d2 d3 d4 : PyData} {v1 v2 v3 v4 : V} (e : H r = some (.lst [v1, v2, v3, v4])) (h1 : At H d1 v1) (h2 : At H d2 v2) (h3 : At H d3 v3) (h4 : At H d4 v4) : At H (.list [d1, d2, d3, d4]) (.ref r) := by
  rw [At]
  exact ⟨r, _, rfl, e, AtL.cons h1 (AtL.cons h2 (AtL.cons h3 (AtL.cons h4 AtL.nil)))⟩
theorem bool_at {H : Hp} {b : Bool} : At H (.bool b) (.bl b) := by rw [At]
def spRight : Sp := fun vs H Q _ => ∃ (a : Addr), vs = [.ref a] ∧ Tin H a 0 ∧ ∀ H', Q (.bl true) H'
/-- the defs that _law_right calls, as they stand -/
structure Defs (K : PySem.W.Frag) (mg : Str → Option Value) where
  tup : Df K mg "tuple_of" 1 ["thing"]
  opened : Df K mg "_opened" 3 ["one", "maker"]
  cmb : Df K mg "_combed" 4 ["one", "maker"]
  combed : Df K mg "combed" 5 ["one", "maker"]
  alike : Df K mg "alike_by" 6 ["one", "other", "maker"]
  box : Df K mg "_law_box" 8 ["_law_script", "_law_k"]
  take : Df K mg "_law_take" 9 ["_law_tin", "_law_below"]
  cells : Df K mg "_law_cells" 10 ["_law_script", "_law_most"]
  same : Df K mg "_law_same" 11 ["_law_got", "_law_goal"]
  lists : Df K mg "_law_lists" 12 ["_law_matter"]
  of : Df K mg "_law_of" 13 ["_law_tin", "_law_goods"]
  tree : Df K mg "_law_tree" 14 ["_law_tin", "_law_deep", "_law_kind"]
  spots : Df K mg "_law_spots" 15 ["_law_tree_here", "_law_maker"]
  is2 : Df K mg "_law_is_two" 16 ["_law_tree_here", "_law_maker"]
  moved : Df K mg "_law_moved" 17 ["_law_tree_here", "_law_way"]
  all : Df K mg "_law_all_moved" 18 ["_law_tin", "_law_tree_here", "_law_maker"]
  turned : Df K mg "_law_turned" 19 ["_law_tin", "_law_tree_here", "_law_maker"]
  bent : Df K mg "_law_bent" 20 ["_law_tin", "_law_tree_here"]
  right : Df K mg "_law_right" 21 ["_law_tin"]
  hand : Df K mg "_law_by_hand_right" 22 []
  law : Df K mg "law" 23 ["_law_script"]
section
variable {P : Program} {w : World} {K : PySem.W.Frag} {mg : Str → Option Value} {base : Heap}
theorem sc21 : FnScope ["_law_tin", "_law_kind", "_law_maker", "_law_tree_here", "_law_due", "_law_told", "_law_other", "_law_bent_here", "_law_got"] ["_law_tin"] (defScope (top 21)) := ⟨rfl, rfl, rfl, by decide +kernel, rfl, by decide +kernel, by decide +kernel⟩
theorem ok_right (S : Defs K mg) (Z : Free mg) : Kp P w K mg base S.right 203 spRight := by
  obtain ⟨DTu, DO, DC, DB, DK, DX, DT, DY, DE, DL, DF, DR, DS, D2, DM, DA, DU, DN, D, DH, DW⟩ := S
  have GT := ok_take (P := P) (w := w) (base := base) DT Z
  have GR := ok_tree (P := P) (w := w) (base := base) DR DT DF Z 5
  have GA := ok_all (P := P) (w := w) (base := base) DA DS D2 DM DF DT Z
  have GB := ok_combed (P := P) (w := w) (base := base) DB DTu DC DO Z
  have GK := ok_alike (P := P) (w := w) (base := base) DK DB DTu DC DO Z
  have GS := ok_spots (P := P) (w := w) (base := base) DS D2 Z 61
  have GE := ok_same (P := P) (w := w) (base := base) DE Z 60
  have GL := ok_lst (P := P) (w := w) (base := base) DL Z 60
  have GU := ok_turn (P := P) (w := w) (base := base) DU D2 DT Z 60
  have GN := ok_bent (P := P) (w := w) (base := base) DN DT Z 60
  show Kp P w K mg base D 203 spRight
  refine D.ok sc21 (fun vs H Q E h => ?_) (fun cdv A outer s H vs Q E hr h => ?_)
  · obtain ⟨a, rfl, _⟩ := h
    rfl
  obtain ⟨a, rfl, T, q⟩ := h
  have hrK := hr
  have hrT := hr.mono (show 1 ≤ 202 by decide)
  have hrR := hr.mono (show 2 + 5 ≤ 202 by decide)
  have hrA := hr.mono (show 63 ≤ 202 by decide)
  have hrB := hr.mono (show 201 ≤ 202 by decide)
  have hrS := hr.mono (show 1 + 61 ≤ 202 by decide)
  have hrE := hr.mono (show 60 ≤ 202 by decide)
  have hrL := hr.mono (show 60 ≤ 202 by decide)
  have hrU := hr.mono (show 1 + 60 ≤ 202 by decide)
  have hrN := hr.mono (show 1 + 60 ≤ 202 by decide)
  have rest : ∃ t, PSs (cxOf CX0 P w K mg base ["_law_tin", "_law_kind", "_law_maker", "_law_tree_here", "_law_due", "_law_told", "_law_other", "_law_bent_here", "_law_got"] "_law_right" (defScope (top 21)) D.f cdv A outer s H E).nox ((defBody (top 21)).drop 1) t ∧
      ∀ (kind M : Int) (H1 : Hp), (kind = 0 ∨ kind = 1) → (M = 1 ∨ M = 2) → Tin H1 a 2 → t { nx := fun _ H' => Q .non H', rt := Q } [some (.ref a), some (.int kind), some (.int M), none, none, none, none, none, none] H1 := by
    refine ⟨_, (pss_cons (ps_set (i := 3) sc21.nd rfl (Or.inl rfl) (pe_call GR hrR rfl DR.m DR.F.kp DR.b .nil pass0 (pa_cons (pv 0) (pa_cons (pe_op op_add pe_int (pe_op op_mul pe_int (pv 1))) (pa_cons (pv 1) pa_nil)))))
      (pss_cons (ps_set (i := 4) sc21.nd rfl (Or.inl rfl) (pe_call GA hrA rfl DA.m DA.F.kp DA.b .nil pass0 (pa_cons (pv 0) (pa_cons (pv 3) (pa_cons (pv 2) pa_nil)))))
      (pss_cons (ps_set (i := 5) sc21.nd rfl (Or.inl rfl) (pe_call GB hrB rfl DB.m DB.F.kp DB.b .nil pass0 (pa_cons (pv 3) (pa_cons (pv 2) pa_nil))))
      (pss_cons (ps_if (PW.pt (pw_or (pt_cmpR (op_neA hrK) (pe_call GS hrS rfl DS.m DS.F.kp DS.b .nil pass0 (pa_cons (pv 4) (pa_cons (pv 2) pa_nil))) (pe_lst pa_nil) (nomark _)) (pw_or1 (pt_not (pt_val (pe_call GE hrE rfl DE.m DE.F.kp DE.b .nil pass0 (pa_cons (pe_lst (pa_cons (pv 5) (pa_cons (pe_call GB hrB rfl DB.m DB.F.kp DB.b .nil pass0 (pa_cons (pe_call GL hrL rfl DL.m DL.F.kp DL.b .nil pass0 (pa_cons (pv 3) pa_nil)) (pa_cons (pv 2) pa_nil))) (pa_cons (pe_call GB hrB rfl DB.m DB.F.kp DB.b .nil pass0 (pa_cons (pv 4) (pa_cons (pv 2) pa_nil))) pa_nil)))) (pa_cons (pe_lst (pa_cons (pv 4) (pa_cons (pv 4) (pa_cons (pv 4) pa_nil)))) pa_nil)))))))) (pss_one (ps_ret pe_bl)) pss_nil)
      (pss_cons (ps_par (i := 6) (j := 7) (by rfl) sc21.nd rfl rfl (by decide) rfl rfl (pa_cons (pe_call GU hrU rfl DU.m DU.F.kp DU.b .nil pass0 (pa_cons (pv 0) (pa_cons (pv 3) (pa_cons (pv 2) pa_nil)))) (pa_cons (pe_call GN hrN rfl DN.m DN.F.kp DN.b .nil pass0 (pa_cons (pv 0) (pa_cons (pv 3) pa_nil))) pa_nil)) (by rfl))
      (pss_cons (ps_set (i := 8) sc21.nd rfl (Or.inl rfl) (pe_lst (pa_cons (pe_call GK hrK rfl DK.m DK.F.kp DK.b .nil pass0 (pa_cons (pv 3) (pa_cons (pv 6) (pa_cons (pv 2) pa_nil)))) (pa_cons (pe_call GK hrK rfl DK.m DK.F.kp DK.b .nil pass0 (pa_cons (pe_call GL hrL rfl DL.m DL.F.kp DL.b .nil pass0 (pa_cons (pv 6) pa_nil)) (pa_cons (pv 3) (pa_cons (pv 2) pa_nil)))) (pa_cons (pe_call GK hrK rfl DK.m DK.F.kp DK.b .nil pass0 (pa_cons (pv 3) (pa_cons (pv 7) (pa_cons (pv 2) pa_nil)))) (pa_cons (pe_call GK hrK rfl DK.m DK.F.kp DK.b .nil pass0 (pa_cons (pv 3) (pa_cons (pv 6) (pa_cons pe_int pa_nil)))) pa_nil))))))
      (pss_cons (ps_if (pt_not (pt_val (pe_call GE hrE rfl DE.m DE.F.kp DE.b .nil pass0 (pa_cons (pv 8) (pa_cons (pe_lst (pa_cons pe_bl (pa_cons pe_bl (pa_cons pe_bl (pa_cons (pe_cmpR (op_eqA hrK) (pv 3) (pv 6) (nomark _)) pa_nil))))) pa_nil))))) (pss_one (ps_ret pe_bl)) pss_nil)
      (pss_one (ps_ret (pe_or (pe_cmpR op_eq (pv 1) pe_int (nomark _)) (pe_one (pe_cmpR op_isBl (pe_call GK hrK rfl DK.m DK.F.kp DK.b .nil pass0 (pa_cons (pe_tup (pa_cons pe_str (pa_cons (pv 2) (pa_cons (pe_tup (pa_cons (pv 3) (pa_cons (pv 7) pa_nil))) pa_nil)))) (pa_cons (pe_tup (pa_cons pe_str (pa_cons (pv 2) (pa_cons (pe_tup (pa_cons (pv 7) (pa_cons (pv 3) pa_nil))) pa_nil)))) (pa_cons (pv 2) pa_nil)))) pe_bl (nomark _))))))))))))), fun kind M H1 hk hM T1 => ?_⟩
    obtain ⟨d, hd, hd4⟩ : ∃ d : Nat, 2 + 2 * kind = (d : Int) ∧ (d = 2 ∨ d = 4) := by
      rcases hk with rfl | rfl
      · exact ⟨2, rfl, .inl rfl⟩
      · exact ⟨4, rfl, .inr rfl⟩
    have hcost : cost d ≤ 282 := by rcases hd4 with rfl | rfl <;> decide
    -- the TERM or VALUE
    refine ⟨.ref a, rfl, .int kind, rfl, 2, kind, rfl, rfl, .inl ⟨by decide, by decide⟩, 2, _, rfl, rfl, .int kind, rfl, a, d, kind, 2, ?_, by omega, T1, by omega, fun t v H2 _ T2 hv wft dpt gd => ?_⟩
    · show [V.ref a, V.int (2 + 2 * kind), V.int kind] ++ [] = _
      rw [hd, List.append_nil]
    have dp4 : dep t ≤ 4 := by omega
    have rh : rho t ≤ 15 := by
      have h1 := rho_dep t
      have h2 : 2 ^ dep t ≤ 2 ^ 4 := Nat.pow_le_pow_right (by decide) dp4
      omega
    have h34 : 3 ^ dep t ≤ 3 ^ 4 := Nat.pow_le_pow_right (by decide) dp4
    have wt4 : wt t ≤ 40 := by have h1 := wt_dep t wft; omega
    have nd4 : nd t ≤ 40 := by have h1 := nd_dep t wft; omega
    have sht := short_good gd
    have anyT : ∀ {H : Hp} {x : V}, TAt H t x → Any H t x := fun h => ⟨.inl h, nar_of t wft, sht, by omega⟩
    have slt := slim_enc t (nar_of t wft) sht
    have det : (enc t).depth ≤ 32 := by
      have h1 := depth_enc t
      have h2 := dep_le_rho t
      omega
    -- by single moves, and combed
    refine ⟨.ref a, rfl, v, rfl, .int M, rfl, a, t, v, M, 2 + cost d, rfl, hv, wft, by omega, by omega, T2, by omega, fun due H3 b3 T3 hdue wfc spc rhc wtc => ?_⟩
    have hv3 := hv.but b3 T2
    refine ⟨v, rfl, .int M, rfl, t, v, M, rfl, anyT hv3, fun told H4 s4 htold => ?_⟩
    have lvc := lvs_cmb M t
    have ecc : cmb M (cmb M t) = cmb M t := cmb_still M _ (still_of _ spc)
    have shc : short (cmb M t) := short_of _ fun l hl => good_short (gd l (by rw [lvc] at hl; exact hl))
    generalize hc : cmb M t = c at *
    have dpc := dep_le_rho c
    have anyC : ∀ {H : Hp} {x : V}, TAt H c x → Any H c x := fun h => ⟨.inl h, nar_of c wfc, shc, by omega⟩
    have slc := slim_enc c (nar_of c wfc) shc
    have dec : (enc c).depth ≤ 32 := by have h1 := depth_enc c; omega
    refine ⟨due, rfl, .int M, rfl, c, due, M, rfl, hdue.same s4, by omega, by decide, by omega, fun r H5 ws s5 _ e5 w5 => ⟨(by show 0 ≤ sizeLine; decide), fun e ne => ?_⟩⟩
    have s6 : Same H5 (upd H5 e (.lst [])) := same_new ne _
    refine ⟨_, _, ws_at (s6 _ _ e5) (w5.tups (Same.tups s6)), nil_at upd_same, lay_ws _, by rw [PyData.canLay0, PyData.canLayAll0], Nat.le_trans (depth_ws _) (by decide), _, rfl, ?_⟩
    rw [eqv_ws, spc]
    refine iteF ?_
    have s46 := s4.trans (s5.trans s6)
    have hv6 := hv3.same s46
    have hdue6 := hdue.same s46
    have htold6 := htold.same (s5.trans s6)
    have T6 := T3.same s46
    generalize upd H5 e (.lst []) = H6 at *
    refine ⟨told, rfl, v, rfl, enc t, v, rfl, hv6, tupD_enc t, slt, by omega, fun l H7 s7 hl => ⟨.int M, rfl, t, l, M, rfl, ⟨.inr (At.same newer_same _ _ hl), nar_of t wft, sht, by omega⟩, fun c2 H8 s8 hc2 => ⟨due, rfl, .int M, rfl, c, due, M, rfl, anyC (hdue6.same (s7.trans s8)), fun c3 H9 s9 hc3 => ⟨(by show 3 ≤ sizeLine; decide), fun p1 n1 => ?_⟩⟩⟩⟩
    rw [hc] at hc2
    rw [ecc] at hc3
    have sA := same_new n1 (.lst [told, c2, c3])
    have s69 := s7.trans (s8.trans s9)
    refine ⟨due, rfl, due, rfl, due, rfl, (by show 3 ≤ sizeLine; decide), fun p2 n2 => ?_⟩
    have sB := same_new n2 (.lst [due, due, due])
    have sAB := sA.trans sB
    have hdueE := hdue6.same (s69.trans sAB)
    refine ⟨.list [enc c, enc c, enc c], .ref p1, .ref p2, rfl, At.lst3 (sB _ _ upd_same) (htold6.same (s69.trans sAB)) (hc2.same (s9.trans sAB)) (hc3.same sAB), At.lst3 upd_same hdueE hdueE hdueE, ?_, ?_, fun H10 s10 => ⟨true, rfl, ?_⟩⟩
    · exact ⟨by show 3 ≤ 1000; decide, slc, slc, slc, trivial⟩
    · simp only [PyData.depth, PyData.depthAll]; omega
    refine iteF ?_
    have s6X := s69.trans (sAB.trans s10)
    have hvX := hv6.same s6X
    have TX := T6.same s6X
    -- put together otherwise, and bent
    refine ⟨.ref a, rfl, v, rfl, .int M, rfl, a, t, v, M, 2 + cost d + 200, rfl, hvX, wft, hM, by omega, TX, by omega, fun o H11 t' b11 T11 ho tw => ⟨.ref a, rfl, v, rfl, a, t, v, 2 + cost d + 200 + nd t, rfl, hvX.but b11 TX, wft, by omega, T11, by omega, fun bt H12 tb b12 T12 hbt bn => ⟨_, _, rfl, ?_⟩⟩⟩
    have hvY := (hvX.but b11 TX).but b12 T11
    have hoY := ho.but b12 T11
    have wfo := tw.wf
    have sho : short t' := short_of _ fun l hl => good_short (gd l (by rw [tw.lvs] at hl; exact hl))
    have rho_o := tw.rho
    have anyO : ∀ {H : Hp} {x : V}, TAt H t' x → Any H t' x := fun h => ⟨.inl h, nar_of t' wfo, sho, by omega⟩
    have slo := slim_enc t' (nar_of t' wfo) sho
    have deo : (enc t').depth ≤ 32 := by
      have h1 := depth_enc t'
      have h2 := dep_le_rho t'
      omega
    have wfb := bn.wf wft
    have shb : short tb := short_of _ (bn.short fun l hl => good_short (gd l hl))
    have rho_b := bn.rho
    have anyB : ∀ {H : Hp} {x : V}, TAt H tb x → Any H tb x := fun h => ⟨.inl h, nar_of tb wfb, shb, by omega⟩
    refine ⟨v, rfl, o, rfl, .int M, rfl, t, t', v, o, M, rfl, anyT hvY, anyO hoY, fun b1 H13 s13 i1 => ?_⟩
    refine ⟨o, rfl, enc t', o, rfl, hoY.same s13, tupD_enc t', slo, by omega, fun l2 H14 s14 hl2 => ⟨v, rfl, .int M, rfl, t', t, l2, v, M, rfl, ⟨.inr (At.same newer_same _ _ hl2), nar_of t' wfo, sho, by omega⟩, anyT (hvY.same (s13.trans s14)), fun b2 H15 s15 i2 => ?_⟩⟩
    have s1315 := s13.trans (s14.trans s15)
    refine ⟨v, rfl, bt, rfl, .int M, rfl, t, tb, v, bt, M, rfl, anyT (hvY.same s1315), anyB (hbt.same s1315), fun b3 H16 s16 i3 => ?_⟩
    have s1316 := s1315.trans s16
    refine ⟨v, rfl, o, rfl, t, t', v, o, 3, rfl, anyT (hvY.same s1316), anyO (hoY.same s1316), fun b4 H17 s17 i4 => ⟨(by show 4 ≤ sizeLine; decide), fun p3 n3 => ?_⟩⟩
    have s1317 := s1316.trans s17
    have e1 : b1 = true := i1.mpr tw.cmb.symm
    have e2 : b2 = true := i2.mpr tw.cmb
    have e3 : b3 = false := Bool.eq_false_iff.mpr fun z => bn.cmb_ne gd M (i3.mp z)
    have e4 : b4 = PyData.eqv (enc t) (enc t') := by
      rw [cmb3 t wft, cmb3 t' wfo] at i4
      exact Bool.eq_iff_iff.mpr (i4.trans (eqv_enc t t').symm)
    subst e1 e2 e3
    have sC := same_new n3 (.lst [.bl true, .bl true, .bl false, .bl b4])
    refine ⟨.ref p3, rfl, v, rfl, o, rfl, enc t, enc t', hvY.same (s1317.trans sC), hoY.same (s1317.trans sC), lay_enc t, lay_enc t', by omega, (by show 4 ≤ sizeLine; decide), fun p4 n4 => ?_⟩
    have sD := same_new n4 (.lst [.bl true, .bl true, .bl false, .bl (false ^^ PyData.eqv (enc t) (enc t'))])
    refine ⟨.list [.bool true, .bool true, .bool false, .bool b4], .ref p3, .ref p4, rfl, At.lst4 (sD _ _ upd_same) bool_at bool_at bool_at bool_at, At.lst4 upd_same bool_at bool_at bool_at (by rw [e4, Bool.false_xor]; exact bool_at), ⟨by show 4 ≤ 1000; decide, trivial, trivial, trivial, trivial, trivial⟩, by simp only [PyData.depth, PyData.depthAll]; omega, fun H18 s18 => ⟨true, rfl, ?_⟩⟩
    refine iteF ?_
    have s1318 := s1317.trans (sC.trans (sD.trans s18))
    have hvZ := hvY.same s1318
    have hbZ := hbt.same s1318
    rcases hk with rfl | rfl
    · exact ⟨.int 0, rfl, rfl, _, rfl, iteT (q _)⟩
    · refine ⟨.int 1, rfl, rfl, _, rfl, iteF ?_⟩
      refine ⟨.int M, rfl, v, rfl, bt, rfl, (by show 2 ≤ sizeLine; decide), fun x1 k1 => ⟨(by show 3 ≤ sizeLine; decide), fun x2 k2 => ?_⟩⟩
      have u1 := same_new k1 (.tup [v, bt])
      have u2 := same_new k2 (.tup [.str "make", .int M, .ref x1])
      have u12 := u1.trans u2
      have m1 := TAt.node.mpr ⟨x2, x1, [v, bt], rfl, upd_same, u2 _ _ upd_same, TAtL.cons (hvZ.same u12) (TAtL.cons (hbZ.same u12) TAtL.nil)⟩
      refine ⟨.int M, rfl, bt, rfl, v, rfl, (by show 2 ≤ sizeLine; decide), fun x3 k3 => ⟨(by show 3 ≤ sizeLine; decide), fun x4 k4 => ?_⟩⟩
      have u3 := same_new k3 (.tup [bt, v])
      have u4 := same_new k4 (.tup [.str "make", .int M, .ref x3])
      have u34 := u3.trans u4
      have m2 := TAt.node.mpr ⟨x4, x3, [bt, v], rfl, upd_same, u4 _ _ upd_same, TAtL.cons (hbZ.same (u12.trans u34)) (TAtL.cons (hvZ.same (u12.trans u34)) TAtL.nil)⟩
      have nart := nar_of t wft
      have narb := nar_of tb wfb
      refine ⟨.int M, rfl, .node M [t, tb], .node M [tb, t], .ref x2, .ref x4, M, rfl, ⟨.inl (m1.same u34), ⟨by show 2 ≤ 1000; decide, nart, narb, trivial⟩, ⟨sht, shb, trivial⟩, by rw [rho_two]; omega⟩, ⟨.inl m2, ⟨by show 2 ≤ 1000; decide, narb, nart, trivial⟩, ⟨shb, sht, trivial⟩, by rw [rho_two]; omega⟩, fun b5 H23 s23 i5 => ?_⟩
      have e5 : b5 = false := Bool.eq_false_iff.mpr fun z => bn.swap_ne gd M M (i5.mp z)
      subst e5
      exact ⟨false, false, rfl, rfl, q _⟩
  obtain ⟨t, ht, hrest⟩ := rest
  refine ⟨_, (pss_cons (ps_par (i := 1) (j := 2) (by rfl) sc21.nd rfl rfl (by decide) rfl rfl (pa_cons (pe_callTy call_int1 (by rfl) Z.int bt_int (pa_cons (pe_cmpR op_gt (pe_call GT hrT rfl DT.m DT.F.kp DT.b .nil pass0 (pa_cons (pv 0) (pa_cons pe_int pa_nil))) pe_int (nomark _)) pa_nil)) (pa_cons (pe_op op_add pe_int (pe_call GT hrT rfl DT.m DT.F.kp DT.b .nil pass0 (pa_cons (pv 0) (pa_cons pe_int pa_nil)))) pa_nil)) (by rfl))
      ht), ?_⟩
  refine ⟨.ref a, rfl, a, 4, 0, rfl, by decide, by decide, T, by decide, fun r H1 r0 r1 b1 T1 => ⟨r, 0, rfl, rfl, .inr ⟨_, rfl, ?_⟩⟩⟩
  refine ⟨.ref a, rfl, a, 2, 1, rfl, by decide, by decide, T1, by decide, fun r' H2 r0' r1' b2 T2 => ⟨1, r', rfl, rfl, _, _, rfl, ?_⟩⟩
  exact hrest _ _ H2 (bit01 _) (by omega) T2
end
end K37

set_option Elab.async false
set_option linter.all false
set_option maxRecDepth 100000
set_option maxHeartbeats 4000000
/-! _law_by_hand_right, law. -/
namespace K37
open PySem PySem.Spec PyProof.Rows L2
abbrev tA : Tr := .leaf (.thing 0)
abbrev tB' : Tr := .leaf (.thing 1)
abbrev tC' : Tr := .leaf (.thing 2)
abbrev tD : Tr := .leaf (.thing 3)
abbrev tLeft : Tr := .node 1 [.node 1 [.node 1 [tA, tB'], tC'], tD]
abbrev tRight : Tr := .node 1 [tA, .node 1 [tB', .node 1 [tC', tD]]]
abbrev tWithin : Tr := .node 2 [.node 1 [.node 1 [tA, tB'], tC']]
abbrev tWithinC : Tr := .node 2 [.node 1 [tA, .node 1 [tB', tC']]]
abbrev tThree : Tr := .node 1 [.node 1 [tA, tB'], tC', tD]
theorem hand1 : cmb 1 tLeft = tRight := by rfl
theorem hand2 : cmb 1 tWithin = tWithinC := by rfl
theorem hand3 : cmb 1 tThree = tThree := by rfl
theorem hand4 : cmb 1 tRight = tRight := by rfl
theorem hand5 : cmb 2 tLeft = tLeft := by rfl
theorem hand6 : cmb 2 tRight = tRight := by rfl
theorem hand7 : ¬ tLeft = tRight := by
  intro h
  injection h with _ h
  injection h with h _
  cases h
/-- a making laid as Python lays it: its row, then itself -/
theorem mk_node {H : Hp} {m : Int} {ks : List Tr} {xs : List V} {p q : Addr} (hx : TAtL H ks xs) (np : H p = none) (nq : upd H p (.tup xs) q = none) :
    Same H (upd (upd H p (.tup xs)) q (.tup [.str "make", .int m, .ref p])) ∧ TAt (upd (upd H p (.tup xs)) q (.tup [.str "make", .int m, .ref p])) (.node m ks) (.ref q) := by
  have s1 := same_new np (.tup xs)
  have s2 := same_new nq (.tup [.str "make", .int m, .ref p])
  exact ⟨s1.trans s2, TAt.node.mpr ⟨q, p, xs, rfl, upd_same, s2 _ _ upd_same, hx.same (s1.trans s2)⟩⟩
theorem At.lst5 {H : Hp} {r : Addr} {d1 d2 d3 d4 d5 : PyData} {v1 v2 v3 v4 v5 : V} (e : H r = some (.lst [v1, v2, v3, v4, v5])) (h1 : At H d1 v1) (h2 : At H d2 v2) (h3 : At H d3 v3) (h4 : At H d4 v4) (h5 : At H d5 v5) : At H (.list [d1, d2, d3, d4, d5]) (.ref r) := by
  rw [At]
  exact ⟨r, _, rfl, e, AtL.cons h1 (AtL.cons h2 (AtL.cons h3 (AtL.cons h4 (AtL.cons h5 AtL.nil))))⟩
def spHand : Sp := fun vs H Q _ => vs = [] ∧ ∀ H', Same H H' → Q (.bl true) H'
section
variable {P : Program} {w : World} {K : PySem.W.Frag} {mg : Str → Option Value} {base : Heap}
theorem sc22 : FnScope ["_law_a", "_law_b", "_law_c", "_law_d", "_law_left", "_law_right_here", "_law_within", "_law_got", "_law_due", "_law_k"] [] (defScope (top 22)) := ⟨rfl, rfl, rfl, by decide +kernel, rfl, by decide +kernel, by decide +kernel⟩
theorem sc23 : FnScope ["_law_script"] ["_law_script"] (defScope (top 23)) := ⟨rfl, rfl, rfl, by decide +kernel, rfl, by decide +kernel, by decide +kernel⟩
theorem ok_hand (S : Defs K mg) (Z : Free mg) : Kp P w K mg base S.hand 203 spHand := by
  obtain ⟨DTu, DO, DC, DB, DK, DX, DT, DY, DE, DL, DF, DR, DS, D2, DM, DA, DU, DN, DRi, D, DW⟩ := S
  have GB := ok_combed (P := P) (w := w) (base := base) DB DTu DC DO Z
  have GK := ok_alike (P := P) (w := w) (base := base) DK DB DTu DC DO Z
  have GE := ok_same (P := P) (w := w) (base := base) DE Z 60
  show Kp P w K mg base D 203 spHand
  refine D.ok sc22 (fun vs H Q E h => ?_) (fun cdv A outer s H vs Q E hr h => ?_)
  · obtain ⟨rfl, _⟩ := h
    rfl
  obtain ⟨rfl, q⟩ := h
  have hrK := hr
  have hrB := hr.mono (show 201 ≤ 202 by decide)
  have hrE := hr.mono (show 60 ≤ 202 by decide)
  have rest : ∃ t, PSs (cxOf CX0 P w K mg base ["_law_a", "_law_b", "_law_c", "_law_d", "_law_left", "_law_right_here", "_law_within", "_law_got", "_law_due", "_law_k"] "_law_by_hand_right" (defScope (top 22)) D.f cdv A outer s H E).nox ((defBody (top 22)).drop 1) t ∧
      ∀ (a b c d : V) (H1 : Hp), Same H H1 → TAt H1 tA a → TAt H1 tB' b → TAt H1 tC' c → TAt H1 tD d → t { nx := fun _ H' => Q .non H', rt := Q } [some a, some b, some c, some d, none, none, none, none, none, none] H1 := by
    refine ⟨_, (pss_cons (ps_par (i := 4) (j := 5) (by rfl) sc22.nd rfl rfl (by decide) rfl rfl (pa_cons (pe_tup (pa_cons pe_str (pa_cons pe_int (pa_cons (pe_tup (pa_cons (pe_tup (pa_cons pe_str (pa_cons pe_int (pa_cons (pe_tup (pa_cons (pe_tup (pa_cons pe_str (pa_cons pe_int (pa_cons (pe_tup (pa_cons (pv 0) (pa_cons (pv 1) pa_nil))) pa_nil)))) (pa_cons (pv 2) pa_nil))) pa_nil)))) (pa_cons (pv 3) pa_nil))) pa_nil)))) (pa_cons (pe_tup (pa_cons pe_str (pa_cons pe_int (pa_cons (pe_tup (pa_cons (pv 0) (pa_cons (pe_tup (pa_cons pe_str (pa_cons pe_int (pa_cons (pe_tup (pa_cons (pv 1) (pa_cons (pe_tup (pa_cons pe_str (pa_cons pe_int (pa_cons (pe_tup (pa_cons (pv 2) (pa_cons (pv 3) pa_nil))) pa_nil)))) pa_nil))) pa_nil)))) pa_nil))) pa_nil)))) pa_nil)) (by rfl))
      (pss_cons (ps_set (i := 6) sc22.nd rfl (Or.inl rfl) (pe_tup (pa_cons pe_str (pa_cons pe_int (pa_cons (pe_tup (pa_cons (pe_tup (pa_cons pe_str (pa_cons pe_int (pa_cons (pe_tup (pa_cons (pe_tup (pa_cons pe_str (pa_cons pe_int (pa_cons (pe_tup (pa_cons (pv 0) (pa_cons (pv 1) pa_nil))) pa_nil)))) (pa_cons (pv 2) pa_nil))) pa_nil)))) pa_nil)) pa_nil)))))
      (pss_cons (ps_set (i := 7) sc22.nd rfl (Or.inl rfl) (pe_lst (pa_cons (pe_call GB hrB rfl DB.m DB.F.kp DB.b .nil pass0 (pa_cons (pv 4) (pa_cons pe_int pa_nil))) (pa_cons (pe_call GB hrB rfl DB.m DB.F.kp DB.b .nil pass0 (pa_cons (pv 6) (pa_cons pe_int pa_nil))) (pa_cons (pe_call GB hrB rfl DB.m DB.F.kp DB.b .nil pass0 (pa_cons (pe_tup (pa_cons pe_str (pa_cons pe_int (pa_cons (pe_tup (pa_cons (pe_tup (pa_cons pe_str (pa_cons pe_int (pa_cons (pe_tup (pa_cons (pv 0) (pa_cons (pv 1) pa_nil))) pa_nil)))) (pa_cons (pv 2) (pa_cons (pv 3) pa_nil)))) pa_nil)))) (pa_cons pe_int pa_nil))) (pa_cons (pe_call GK hrK rfl DK.m DK.F.kp DK.b .nil pass0 (pa_cons (pv 4) (pa_cons (pv 5) (pa_cons pe_int pa_nil)))) (pa_cons (pe_call GK hrK rfl DK.m DK.F.kp DK.b .nil pass0 (pa_cons (pv 4) (pa_cons (pv 5) (pa_cons pe_int pa_nil)))) pa_nil)))))))
      (pss_cons (ps_set (i := 8) sc22.nd rfl (Or.inl rfl) (pe_lst (pa_cons (pv 5) (pa_cons (pe_tup (pa_cons pe_str (pa_cons pe_int (pa_cons (pe_tup (pa_cons (pe_tup (pa_cons pe_str (pa_cons pe_int (pa_cons (pe_tup (pa_cons (pv 0) (pa_cons (pe_tup (pa_cons pe_str (pa_cons pe_int (pa_cons (pe_tup (pa_cons (pv 1) (pa_cons (pv 2) pa_nil))) pa_nil)))) pa_nil))) pa_nil)))) pa_nil)) pa_nil)))) (pa_cons (pe_tup (pa_cons pe_str (pa_cons pe_int (pa_cons (pe_tup (pa_cons (pe_tup (pa_cons pe_str (pa_cons pe_int (pa_cons (pe_tup (pa_cons (pv 0) (pa_cons (pv 1) pa_nil))) pa_nil)))) (pa_cons (pv 2) (pa_cons (pv 3) pa_nil)))) pa_nil)))) (pa_cons pe_bl (pa_cons pe_bl pa_nil)))))))
      (pss_one (ps_ret (pe_call GE hrE rfl DE.m DE.F.kp DE.b .nil pass0 (pa_cons (pv 7) (pa_cons (pv 8) pa_nil))))))))), fun a b c d H1 s1 ha hb hc hd => ?_⟩
    -- left
    refine ⟨a, rfl, b, rfl, (by show 2 ≤ sizeLine; decide), fun p1 n1 => ⟨(by show 3 ≤ sizeLine; decide), fun p2 n2 => ?_⟩⟩
    obtain ⟨u1, l1⟩ := mk_node (m := 1) (TAtL.cons ha (TAtL.cons hb TAtL.nil)) n1 n2
    generalize upd (upd H1 p1 _) p2 _ = H2 at u1 l1 ⊢
    refine ⟨c, rfl, (by show 2 ≤ sizeLine; decide), fun p3 n3 => ⟨(by show 3 ≤ sizeLine; decide), fun p4 n4 => ?_⟩⟩
    obtain ⟨u2, l2⟩ := mk_node (m := 1) (TAtL.cons l1 (TAtL.cons (hc.same u1) TAtL.nil)) n3 n4
    generalize upd (upd H2 p3 _) p4 _ = H3 at u2 l2 ⊢
    have u02 := u1.trans u2
    refine ⟨d, rfl, (by show 2 ≤ sizeLine; decide), fun p5 n5 => ⟨(by show 3 ≤ sizeLine; decide), fun p6 n6 => ?_⟩⟩
    obtain ⟨u3, left⟩ := mk_node (m := 1) (TAtL.cons l2 (TAtL.cons (hd.same u02) TAtL.nil)) n5 n6
    generalize upd (upd H3 p5 _) p6 _ = H4 at u3 left ⊢
    have u03 := u02.trans u3
    -- right
    refine ⟨a, rfl, b, rfl, c, rfl, d, rfl, (by show 2 ≤ sizeLine; decide), fun p7 n7 => ⟨(by show 3 ≤ sizeLine; decide), fun p8 n8 => ?_⟩⟩
    obtain ⟨u4, r1⟩ := mk_node (m := 1) (TAtL.cons (hc.same u03) (TAtL.cons (hd.same u03) TAtL.nil)) n7 n8
    generalize upd (upd H4 p7 _) p8 _ = H5 at u4 r1 ⊢
    have u04 := u03.trans u4
    refine ⟨(by show 2 ≤ sizeLine; decide), fun p9 n9 => ⟨(by show 3 ≤ sizeLine; decide), fun p10 n10 => ?_⟩⟩
    obtain ⟨u5, r2⟩ := mk_node (m := 1) (TAtL.cons (hb.same u04) (TAtL.cons r1 TAtL.nil)) n9 n10
    generalize upd (upd H5 p9 _) p10 _ = H6 at u5 r2 ⊢
    have u05 := u04.trans u5
    refine ⟨(by show 2 ≤ sizeLine; decide), fun p11 n11 => ⟨(by show 3 ≤ sizeLine; decide), fun p12 n12 => ?_⟩⟩
    obtain ⟨u6, right⟩ := mk_node (m := 1) (TAtL.cons (ha.same u05) (TAtL.cons r2 TAtL.nil)) n11 n12
    generalize upd (upd H6 p11 _) p12 _ = H7 at u6 right ⊢
    have u06 := u05.trans u6
    refine ⟨_, _, rfl, ?_⟩
    have left := left.same (u4.trans (u5.trans u6))
    have ha := ha.same u06
    have hb := hb.same u06
    have hc := hc.same u06
    have hd := hd.same u06
    -- within
    refine ⟨a, rfl, b, rfl, (by show 2 ≤ sizeLine; decide), fun q1 m1 => ⟨(by show 3 ≤ sizeLine; decide), fun q2 m2 => ?_⟩⟩
    obtain ⟨v1, w1⟩ := mk_node (m := 1) (TAtL.cons ha (TAtL.cons hb TAtL.nil)) m1 m2
    generalize upd (upd H7 q1 _) q2 _ = H8 at v1 w1 ⊢
    refine ⟨c, rfl, (by show 2 ≤ sizeLine; decide), fun q3 m3 => ⟨(by show 3 ≤ sizeLine; decide), fun q4 m4 => ?_⟩⟩
    obtain ⟨v2, w2⟩ := mk_node (m := 1) (TAtL.cons w1 (TAtL.cons (hc.same v1) TAtL.nil)) m3 m4
    generalize upd (upd H8 q3 _) q4 _ = H9 at v2 w2 ⊢
    refine ⟨(by show 1 ≤ sizeLine; decide), fun q5 m5 => ⟨(by show 3 ≤ sizeLine; decide), fun q6 m6 => ?_⟩⟩
    obtain ⟨v3, within⟩ := mk_node (m := 2) (TAtL.cons w2 TAtL.nil) m5 m6
    generalize upd (upd H9 q5 _) q6 _ = H10 at v3 within ⊢
    have v03 := v1.trans (v2.trans v3)
    have left := left.same v03
    have right := right.same v03
    have ha := ha.same v03
    have hb := hb.same v03
    have hc := hc.same v03
    have hd := hd.same v03
    have s10 := s1.trans (u06.trans v03)
    have nL : nar tLeft := ⟨by show 2 ≤ 1000; decide, ⟨by show 2 ≤ 1000; decide, ⟨by show 2 ≤ 1000; decide, trivial, trivial, trivial⟩, trivial, trivial⟩, trivial, trivial⟩
    have nR : nar tRight := ⟨by show 2 ≤ 1000; decide, trivial, ⟨by show 2 ≤ 1000; decide, trivial, ⟨by show 2 ≤ 1000; decide, trivial, trivial, trivial⟩, trivial⟩, trivial⟩
    have nW : nar tWithin := ⟨by show 1 ≤ 1000; decide, ⟨by show 2 ≤ 1000; decide, ⟨by show 2 ≤ 1000; decide, trivial, trivial, trivial⟩, trivial, trivial⟩, trivial⟩
    have nWC : nar tWithinC := ⟨by show 1 ≤ 1000; decide, ⟨by show 2 ≤ 1000; decide, trivial, ⟨by show 2 ≤ 1000; decide, trivial, trivial, trivial⟩, trivial⟩, trivial⟩
    have nT : nar tThree := ⟨by show 3 ≤ 1000; decide, ⟨by show 2 ≤ 1000; decide, trivial, trivial, trivial⟩, trivial, trivial, trivial⟩
    have tL : short tLeft := ⟨⟨⟨trivial, trivial, trivial⟩, trivial, trivial⟩, trivial, trivial⟩
    have tR : short tRight := ⟨trivial, ⟨trivial, ⟨trivial, trivial, trivial⟩, trivial⟩, trivial⟩
    have tW : short tWithin := ⟨⟨⟨trivial, trivial, trivial⟩, trivial, trivial⟩, trivial⟩
    have tWC : short tWithinC := ⟨⟨trivial, ⟨trivial, trivial, trivial⟩, trivial⟩, trivial⟩
    have tT : short tThree := ⟨⟨trivial, trivial, trivial⟩, trivial, trivial, trivial⟩
    have anyL : ∀ {H : Hp} {x : V}, TAt H tLeft x → Any H tLeft x := fun h => ⟨.inl h, nL, tL, by decide⟩
    have anyR : ∀ {H : Hp} {x : V}, TAt H tRight x → Any H tRight x := fun h => ⟨.inl h, nR, tR, by decide⟩
    -- got
    refine ⟨_, rfl, tLeft, _, 1, rfl, anyL left, fun g1 H11 z1 k1 => ?_⟩
    rw [hand1] at k1
    refine ⟨_, rfl, tWithin, _, 1, rfl, ⟨.inl (within.same z1), nW, tW, by decide⟩, fun g2 H12 z2 k2 => ?_⟩
    rw [hand2] at k2
    have z12 := z1.trans z2
    refine ⟨a, rfl, b, rfl, (by show 2 ≤ sizeLine; decide), fun q7 m7 => ⟨(by show 3 ≤ sizeLine; decide), fun q8 m8 => ?_⟩⟩
    obtain ⟨v4, w4⟩ := mk_node (m := 1) (TAtL.cons (ha.same z12) (TAtL.cons (hb.same z12) TAtL.nil)) m7 m8
    generalize upd (upd H12 q7 _) q8 _ = H13 at v4 w4 ⊢
    refine ⟨c, rfl, d, rfl, (by show 3 ≤ sizeLine; decide), fun q9 m9 => ⟨(by show 3 ≤ sizeLine; decide), fun q10 m10 => ?_⟩⟩
    obtain ⟨v5, three⟩ := mk_node (m := 1) (TAtL.cons w4 (TAtL.cons (hc.same (z12.trans v4)) (TAtL.cons (hd.same (z12.trans v4)) TAtL.nil))) m9 m10
    generalize upd (upd H13 q9 _) q10 _ = H14 at v5 three ⊢
    refine ⟨tThree, _, 1, rfl, ⟨.inl three, nT, tT, by decide⟩, fun g3 H15 z3 k3 => ?_⟩
    rw [hand3] at k3
    have z15 := z12.trans (v4.trans (v5.trans z3))
    refine ⟨_, rfl, _, rfl, tLeft, tRight, _, _, 1, rfl, anyL (left.same z15), anyR (right.same z15), fun b1 H16 z4 i1 => ?_⟩
    refine ⟨_, rfl, _, rfl, tLeft, tRight, _, _, 2, rfl, anyL (left.same (z15.trans z4)), anyR (right.same (z15.trans z4)), fun b2 H17 z5 i2 => ⟨(by show 5 ≤ sizeLine; decide), fun gp ng => ?_⟩⟩
    have e1 : b1 = true := i1.mpr (hand1.trans hand4.symm)
    have e2 : b2 = false := Bool.eq_false_iff.mpr fun z => hand7 (hand5.symm.trans ((i2.mp z).trans hand6))
    subst e1 e2
    have sg := same_new ng (.lst [g1, g2, g3, .bl true, .bl false])
    have eg : (upd H17 gp (.lst [g1, g2, g3, .bl true, .bl false])) gp = some (.lst [g1, g2, g3, .bl true, .bl false]) := upd_same
    generalize upd H17 gp (.lst [g1, g2, g3, .bl true, .bl false]) = H18 at *
    have z18 := z15.trans (z4.trans (z5.trans sg))
    have g1' := k1.same (z2.trans (v4.trans (v5.trans (z3.trans (z4.trans (z5.trans sg))))))
    have g2' := k2.same (v4.trans (v5.trans (z3.trans (z4.trans (z5.trans sg)))))
    have g3' := k3.same (z4.trans (z5.trans sg))
    have ha := ha.same z18
    have hb := hb.same z18
    have hc := hc.same z18
    have hd := hd.same z18
    have right := right.same z18
    -- due
    refine ⟨_, rfl, a, rfl, b, rfl, c, rfl, (by show 2 ≤ sizeLine; decide), fun x1 y1 => ⟨(by show 3 ≤ sizeLine; decide), fun x2 y2 => ?_⟩⟩
    obtain ⟨f1, d1⟩ := mk_node (m := 1) (TAtL.cons hb (TAtL.cons hc TAtL.nil)) y1 y2
    generalize upd (upd H18 x1 _) x2 _ = H19 at f1 d1 ⊢
    refine ⟨(by show 2 ≤ sizeLine; decide), fun x3 y3 => ⟨(by show 3 ≤ sizeLine; decide), fun x4 y4 => ?_⟩⟩
    obtain ⟨f2, d2⟩ := mk_node (m := 1) (TAtL.cons (ha.same f1) (TAtL.cons d1 TAtL.nil)) y3 y4
    generalize upd (upd H19 x3 _) x4 _ = H20 at f2 d2 ⊢
    refine ⟨(by show 1 ≤ sizeLine; decide), fun x5 y5 => ⟨(by show 3 ≤ sizeLine; decide), fun x6 y6 => ?_⟩⟩
    obtain ⟨f3, d3⟩ := mk_node (m := 2) (TAtL.cons d2 TAtL.nil) y5 y6
    generalize upd (upd H20 x5 _) x6 _ = H21 at f3 d3 ⊢
    have f03 := f1.trans (f2.trans f3)
    refine ⟨a, rfl, b, rfl, (by show 2 ≤ sizeLine; decide), fun x7 y7 => ⟨(by show 3 ≤ sizeLine; decide), fun x8 y8 => ?_⟩⟩
    obtain ⟨f4, d4⟩ := mk_node (m := 1) (TAtL.cons (ha.same f03) (TAtL.cons (hb.same f03) TAtL.nil)) y7 y8
    generalize upd (upd H21 x7 _) x8 _ = H22 at f4 d4 ⊢
    have f04 := f03.trans f4
    refine ⟨c, rfl, d, rfl, (by show 3 ≤ sizeLine; decide), fun x9 y9 => ⟨(by show 3 ≤ sizeLine; decide), fun x10 y10 => ?_⟩⟩
    obtain ⟨f5, d5⟩ := mk_node (m := 1) (TAtL.cons d4 (TAtL.cons (hc.same f04) (TAtL.cons (hd.same f04) TAtL.nil))) y9 y10
    generalize upd (upd H22 x9 _) x10 _ = H23 at f5 d5 ⊢
    have f05 := f04.trans f5
    refine ⟨(by show 5 ≤ sizeLine; decide), fun dp nd => ?_⟩
    have sd := same_new nd (.lst [.ref p12, .ref x6, .ref x10, .bl true, .bl false])
    have f0 := f05.trans sd
    have o1 : (enc tRight).depth ≤ 8 := depth_enc tRight
    have o2 : (enc tWithinC).depth ≤ 8 := depth_enc tWithinC
    have o3 : (enc tThree).depth ≤ 6 := depth_enc tThree
    refine ⟨.ref gp, rfl, .ref dp, rfl, .list [enc tRight, enc tWithinC, enc tThree, .bool true, .bool false], .ref gp, .ref dp, rfl,
      At.lst5 (f0 _ _ eg) (g1'.same f0) (g2'.same f0) (g3'.same f0) bool_at bool_at,
      At.lst5 upd_same (right.same f0) (d3.same (f4.trans (f5.trans sd))) (d5.same sd) bool_at bool_at,
      ⟨by show 5 ≤ 1000; decide, slim_enc _ nR tR, slim_enc _ nWC tWC, slim_enc _ nT tT, trivial, trivial, trivial⟩,
      by simp only [PyData.depth, PyData.depthAll]; omega, fun H25 s25 => ?_⟩
    exact q _ (s10.trans (z18.trans (f0.trans s25)))
  obtain ⟨t, ht, hrest⟩ := rest
  refine ⟨_, (pss_cons (ps_asg (pe_lc (own := [("_law_k", 9)]) (g := gName 9) (tt := tYes) rfl sc22.nd (pi_range1 (by rfl) Z.range (pa_cons pe_int pa_nil)) (blkOk_by (N := ["_law_a", "_law_b", "_law_c", "_law_d", "_law_left", "_law_right_here", "_law_within", "_law_got", "_law_due", "_law_k"]) (sc := defScope (top 22)) (by decide +kernel)) (fun _ _ _ _ _ => pg_name (i := 9) sc22.nd rfl (Or.inl rfl)) (fun _ _ _ _ _ => pts_nil) (fun _ _ _ _ _ => (pe_tup (pa_cons pe_str (pa_cons (pv 9) pa_nil))))) (pg_unl (by rfl) (pgs_cons (pg_name (i := 0) sc22.nd rfl (Or.inl rfl)) (pgs_cons (pg_name (i := 1) sc22.nd rfl (Or.inl rfl)) (pgs_cons (pg_name (i := 2) sc22.nd rfl (Or.inl rfl)) (pgs_cons (pg_name (i := 3) sc22.nd rfl (Or.inl rfl)) pgs_nil))))))
      ht), ?_⟩
  refine ⟨4, rfl, by decide, by decide, fun C nC => ?_⟩
  refine lc_gen (walk_range (lo := 0) (n := 4)) (Same H) (fun j y H' => TAt H' (.leaf (.thing (j : Int))) y) (same_new nC _) (fun _ _ => trivial) (fun H' acc new e s' => ⟨fun b o e2 => ?_, fun j y r => r.tups (ups_tups e)⟩) (fun k x H' H'' acc Q' hk s' e y q' => ?_) (fun H' acc s' e l r => ?_) (by decide)
  · rw [upd_ne (ne_of_none e2 nC)]
    exact s' b o e2
  · obtain ⟨rfl, rfl⟩ := y
    refine ⟨_, rfl, (by show 2 ≤ sizeLine; decide), fun p np => ?_⟩
    have sp := same_new np (.tup [.str "thing", .int (0 + (k : Int))])
    refine q' _ _ (s'.trans sp) (by rw [e]; exact sp _ _ e) (fun j z r => r.same sp) ?_
    refine thing_at ?_
    rw [upd_same]
    show some (HO.tup [.str "thing", .int (0 + (k : Int))]) = _
    rw [Int.zero_add]
  · obtain ⟨a, b, c, d, rfl⟩ : ∃ a b c d, acc = [a, b, c, d] := by
      match acc, l with
      | [a, b, c, d], _ => exact ⟨a, b, c, d, rfl⟩
    refine ⟨C, _, rfl, SqL.of e, rfl, a, [b, c, d], rfl, b, [c, d], rfl, c, [d], rfl, d, [], rfl, rfl, ?_⟩
    exact hrest a b c d H' s' (r 0 a rfl) (r 1 b rfl) (r 2 c rfl) (r 3 d rfl)
def spLaw (K : PySem.W.Frag) : Sp := fun vs H Q _ => ∃ (a : Addr) (ns : List Int), vs = [.ref a] ∧ SqL K H a (ns.map V.int) ∧ ns.length ≤ 63 ∧ ∀ H', Q (.bl true) H'
theorem ok_law (S : Defs K mg) (Z : Free mg) : Kp P w K mg base S.law 204 (spLaw K) := by
  have GH := ok_hand (P := P) (w := w) (base := base) S Z
  have GR := ok_right (P := P) (w := w) (base := base) S Z
  have GX := ok_box (P := P) (w := w) (base := base) S.box Z
  have GY := ok_cells (P := P) (w := w) (base := base) S.cells Z
  refine S.law.ok sc23 (fun vs H Q E h => ?_) (fun cdv A outer s H vs Q E hr h => ?_)
  · obtain ⟨a, ns, rfl, _⟩ := h
    rfl
  obtain ⟨a, ns, rfl, hS, hl, q⟩ := h
  have hr1 := hr.mono (show 1 ≤ 203 by decide)
  refine ⟨_, pss_one (ps_ret (pe_and (pe_call0 GH hr rfl S.hand.m S.hand.F.kp S.hand.b .nil pass0) (pe_one (pe_call GR hr rfl S.right.m S.right.F.kp S.right.b .nil pass0 (pa_cons
    (pe_call GX hr1 rfl S.box.m S.box.F.kp S.box.b .nil pass0 (pa_cons (pe_call GY hr1 rfl S.cells.m S.cells.F.kp S.cells.b .nil pass0 (pa_cons (pv 0) (pa_cons pe_int pa_nil))) (pa_cons pe_int pa_nil))) pa_nil))))), ?_⟩
  refine ⟨rfl, fun H1 s1 => ⟨true, rfl, iteT ?_⟩⟩
  refine ⟨.ref a, rfl, a, ns, rfl, s1.seq hS, hl, fun r H2 z zs s2 e2 => ?_⟩
  refine ⟨r, z, zs, rfl, e2, fun r2 H3 s3 n3 T3 => ?_⟩
  exact ⟨r2, rfl, T3, fun H4 => q H4⟩
end
end K37

set_option Elab.async false
set_option linter.all false
set_option maxRecDepth 100000
set_option maxHeartbeats 0
namespace K37
open PySem PySem.Spec PyProof.Rows L2
theorem facts {P : Program} {w : World} {K : PySem.W.Frag} {h : Heap} {mg : Str → Option Value} {f : Addr} (X : K.In h) (G : h.Ns mainGlobals mg) (hfa : mg ("law" : Str) = some (.ref f)) (c : He.SaysD fa fn K) :
    ∃ fd : FuncData, (∀ (s : Shared) (v : Value), BindsTo s fd ⟨[v], []⟩ [("_law_script", v)]) ∧ ∀ base : Heap, K.In base → base.Ns mainGlobals mg → FnOk P w K mg base CX0 204 f fd ["_law_script"] (spLaw K) := by
  obtain ⟨d0, F0⟩ := c.def_ 0 (d := dd "tuple_of" 1) rfl
  have g0 := He.glo_ok X G (c.fact 0 (f := .glo "tuple_of") rfl)
  have b0 : Binds K d0 ["thing"] [] := F0.bindsN fun _ _ _ _ _ _ us hl => match us, hl with | [_], _ => rfl
  obtain ⟨d1, F1⟩ := c.def_ 1 (d := dd "_opened" 3) rfl
  have g1 := He.glo_ok X G (c.fact 1 (f := .glo "_opened") rfl)
  have b1 : Binds K d1 ["one", "maker"] [] := F1.bindsN fun _ _ _ _ _ _ us hl => match us, hl with | [_, _], _ => rfl
  obtain ⟨d2, F2⟩ := c.def_ 2 (d := dd "_combed" 4) rfl
  have g2 := He.glo_ok X G (c.fact 2 (f := .glo "_combed") rfl)
  have b2 : Binds K d2 ["one", "maker"] [] := F2.bindsN fun _ _ _ _ _ _ us hl => match us, hl with | [_, _], _ => rfl
  obtain ⟨d3, F3⟩ := c.def_ 3 (d := dd "combed" 5) rfl
  have g3 := He.glo_ok X G (c.fact 3 (f := .glo "combed") rfl)
  have b3 : Binds K d3 ["one", "maker"] [] := F3.bindsN fun _ _ _ _ _ _ us hl => match us, hl with | [_, _], _ => rfl
  obtain ⟨d4, F4⟩ := c.def_ 4 (d := dd "alike_by" 6) rfl
  have g4 := He.glo_ok X G (c.fact 4 (f := .glo "alike_by") rfl)
  have b4 : Binds K d4 ["one", "other", "maker"] [] := F4.bindsN fun _ _ _ _ _ _ us hl => match us, hl with | [_, _, _], _ => rfl
  obtain ⟨d5, F5⟩ := c.def_ 5 (d := dd "_law_box" 8) rfl
  have g5 := He.glo_ok X G (c.fact 5 (f := .glo "_law_box") rfl)
  have b5 : Binds K d5 ["_law_script", "_law_k"] [] := F5.bindsN fun _ _ _ _ _ _ us hl => match us, hl with | [_, _], _ => rfl
  obtain ⟨d6, F6⟩ := c.def_ 6 (d := dd "_law_take" 9) rfl
  have g6 := He.glo_ok X G (c.fact 6 (f := .glo "_law_take") rfl)
  have b6 : Binds K d6 ["_law_tin", "_law_below"] [] := F6.bindsN fun _ _ _ _ _ _ us hl => match us, hl with | [_, _], _ => rfl
  obtain ⟨d7, F7⟩ := c.def_ 7 (d := dd "_law_cells" 10) rfl
  have g7 := He.glo_ok X G (c.fact 7 (f := .glo "_law_cells") rfl)
  have b7 : Binds K d7 ["_law_script", "_law_most"] [] := F7.bindsN fun _ _ _ _ _ _ us hl => match us, hl with | [_, _], _ => rfl
  obtain ⟨d8, F8⟩ := c.def_ 8 (d := dd "_law_same" 11) rfl
  have g8 := He.glo_ok X G (c.fact 8 (f := .glo "_law_same") rfl)
  have b8 : Binds K d8 ["_law_got", "_law_goal"] [] := F8.bindsN fun _ _ _ _ _ _ us hl => match us, hl with | [_, _], _ => rfl
  obtain ⟨d9, F9⟩ := c.def_ 9 (d := dd "_law_lists" 12) rfl
  have g9 := He.glo_ok X G (c.fact 9 (f := .glo "_law_lists") rfl)
  have b9 : Binds K d9 ["_law_matter"] [] := F9.bindsN fun _ _ _ _ _ _ us hl => match us, hl with | [_], _ => rfl
  obtain ⟨d10, F10⟩ := c.def_ 10 (d := dd "_law_of" 13) rfl
  have g10 := He.glo_ok X G (c.fact 10 (f := .glo "_law_of") rfl)
  have b10 : Binds K d10 ["_law_tin", "_law_goods"] [] := F10.bindsN fun _ _ _ _ _ _ us hl => match us, hl with | [_, _], _ => rfl
  obtain ⟨d11, F11⟩ := c.def_ 11 (d := dd "_law_tree" 14) rfl
  have g11 := He.glo_ok X G (c.fact 11 (f := .glo "_law_tree") rfl)
  have b11 : Binds K d11 ["_law_tin", "_law_deep", "_law_kind"] [] := F11.bindsN fun _ _ _ _ _ _ us hl => match us, hl with | [_, _, _], _ => rfl
  obtain ⟨d12, F12⟩ := c.def_ 12 (d := dd "_law_spots" 15) rfl
  have g12 := He.glo_ok X G (c.fact 12 (f := .glo "_law_spots") rfl)
  have b12 : Binds K d12 ["_law_tree_here", "_law_maker"] [] := F12.bindsN fun _ _ _ _ _ _ us hl => match us, hl with | [_, _], _ => rfl
  obtain ⟨d13, F13⟩ := c.def_ 13 (d := dd "_law_is_two" 16) rfl
  have g13 := He.glo_ok X G (c.fact 13 (f := .glo "_law_is_two") rfl)
  have b13 : Binds K d13 ["_law_tree_here", "_law_maker"] [] := F13.bindsN fun _ _ _ _ _ _ us hl => match us, hl with | [_, _], _ => rfl
  obtain ⟨d14, F14⟩ := c.def_ 14 (d := dd "_law_moved" 17) rfl
  have g14 := He.glo_ok X G (c.fact 14 (f := .glo "_law_moved") rfl)
  have b14 : Binds K d14 ["_law_tree_here", "_law_way"] [] := F14.bindsN fun _ _ _ _ _ _ us hl => match us, hl with | [_, _], _ => rfl
  obtain ⟨d15, F15⟩ := c.def_ 15 (d := dd "_law_all_moved" 18) rfl
  have g15 := He.glo_ok X G (c.fact 15 (f := .glo "_law_all_moved") rfl)
  have b15 : Binds K d15 ["_law_tin", "_law_tree_here", "_law_maker"] [] := F15.bindsN fun _ _ _ _ _ _ us hl => match us, hl with | [_, _, _], _ => rfl
  obtain ⟨d16, F16⟩ := c.def_ 16 (d := dd "_law_turned" 19) rfl
  have g16 := He.glo_ok X G (c.fact 16 (f := .glo "_law_turned") rfl)
  have b16 : Binds K d16 ["_law_tin", "_law_tree_here", "_law_maker"] [] := F16.bindsN fun _ _ _ _ _ _ us hl => match us, hl with | [_, _, _], _ => rfl
  obtain ⟨d17, F17⟩ := c.def_ 17 (d := dd "_law_bent" 20) rfl
  have g17 := He.glo_ok X G (c.fact 17 (f := .glo "_law_bent") rfl)
  have b17 : Binds K d17 ["_law_tin", "_law_tree_here"] [] := F17.bindsN fun _ _ _ _ _ _ us hl => match us, hl with | [_, _], _ => rfl
  obtain ⟨d18, F18⟩ := c.def_ 18 (d := dd "_law_right" 21) rfl
  have g18 := He.glo_ok X G (c.fact 18 (f := .glo "_law_right") rfl)
  have b18 : Binds K d18 ["_law_tin"] [] := F18.bindsN fun _ _ _ _ _ _ us hl => match us, hl with | [_], _ => rfl
  obtain ⟨d19, F19⟩ := c.def_ 19 (d := dd "_law_by_hand_right" 22) rfl
  have g19 := He.glo_ok X G (c.fact 19 (f := .glo "_law_by_hand_right") rfl)
  have b19 : Binds K d19 [] [] := F19.bindsN fun _ _ _ _ _ _ us hl => match us, hl with | [], _ => rfl
  obtain ⟨d20, F20⟩ := c.def_ 20 (d := dd "law" 23) rfl
  have g20 := He.glo_ok X G (c.fact 20 (f := .glo "law") rfl)
  have b20 : Binds K d20 ["_law_script"] [] := F20.bindsN fun _ _ _ _ _ _ us hl => match us, hl with | [_], _ => rfl
  have e := hfa.symm.trans g20
  cases e
  have b := FunD.bindsA (ps := ["_law_script"]) F20 fun _ _ _ _ _ _ us hl => match us, hl with | [_], _ => rfl
  refine ⟨d20, fun s v => b s [v] rfl, fun base _ _ => ?_⟩
  have Z : Free mg := ⟨He.free_ok X G (c.fact 21 (f := .free "isinstance") rfl), He.free_ok X G (c.fact 22 (f := .free "list") rfl), He.free_ok X G (c.fact 23 (f := .free "tuple") rfl), He.free_ok X G (c.fact 24 (f := .free "len") rfl), He.free_ok X G (c.fact 25 (f := .free "abs") rfl), He.free_ok X G (c.fact 26 (f := .free "int") rfl), He.free_ok X G (c.fact 27 (f := .free "enumerate") rfl), He.free_ok X G (c.fact 28 (f := .free "all") rfl), He.free_ok X G (c.fact 29 (f := .free "zip") rfl), He.free_ok X G (c.fact 30 (f := .free "range") rfl), He.free_ok X G (c.fact 31 (f := .free "str") rfl), He.free_ok X G (c.fact 32 (f := .free "bool") rfl)⟩
  exact ok_law ⟨⟨_, d0, F0, b0, g0⟩, ⟨_, d1, F1, b1, g1⟩, ⟨_, d2, F2, b2, g2⟩, ⟨_, d3, F3, b3, g3⟩, ⟨_, d4, F4, b4, g4⟩, ⟨_, d5, F5, b5, g5⟩, ⟨_, d6, F6, b6, g6⟩, ⟨_, d7, F7, b7, g7⟩, ⟨_, d8, F8, b8, g8⟩, ⟨_, d9, F9, b9, g9⟩, ⟨_, d10, F10, b10, g10⟩, ⟨_, d11, F11, b11, g11⟩, ⟨_, d12, F12, b12, g12⟩, ⟨_, d13, F13, b13, g13⟩, ⟨_, d14, F14, b14, g14⟩, ⟨_, d15, F15, b15, g15⟩, ⟨_, d16, F16, b16, g16⟩, ⟨_, d17, F17, b17, g17⟩, ⟨_, d18, F18, b18, g18⟩, ⟨_, d19, F19, b19, g19⟩, ⟨_, d20, F20, b20, g20⟩⟩ Z
end K37
open PySem PySem.W PySem.Calls PyProof.Rows
theorem PySem.Challenge.cw_unwound_k37_whole_combed_beside_single_m_holds : PySem.Challenge.rw_unwound_k37_whole_combed_beside_single_m.Holds := by
  w_on; o_law
  refine HandSHeadRun.head_any (r := OpenLaw.row PySem.Challenge.rw_unwound_k37_whole_combed_beside_single_m) (q := view (OpenLaw.row PySem.Challenge.rw_unwound_k37_whole_combed_beside_single_m).prog [23]) (H := K37.hk) (ob := K37.ob) (M := 4000) (loose := K37.loose) (d := HandSHeadRun.topDef (OpenLaw.row PySem.Challenge.rw_unwound_k37_whole_combed_beside_single_m).prog 23) (kwd := []) K37.ob_eq
    (by kernel_rfl) (fun s => by kernel_rfl) K37.run (by kernel_rfl) (by kernel_rfl) (by kernel_rfl) (by rfl) (by first | assumption | decide +kernel) (by decide +kernel) ⟨rfl, rfl, rfl, rfl, rfl, by decide +kernel⟩ ?hw ?hc
  case hw => w_witness2
  case hc =>
    refine L2.walk_ofE (l := PySem.Challenge.rw_unwound_k37_whole_combed_beside_single_m) (n := 63) (k := 204) (x := "_law_script") (CX := L2.CX0) rfl (by decide) (by kernel_rfl) ⟨rfl, by decide, by decide⟩ ?F (fun _ _ _ _ z => z)
    intro w mg fa h Y G hmg0
    obtain ⟨K, KX, c⟩ := Y
    have hmg : mg ("law" : PySem.Str) = some (.ref fa) := by
      have e : (HandSHeadRun.topDef (OpenLaw.row PySem.Challenge.rw_unwound_k37_whole_combed_beside_single_m).prog 23).name = ("law" : PySem.Str) := by kernel_rfl
      rw [← e]
      exact hmg0
    obtain ⟨fd, hb, hF⟩ := K37.facts (P := (PySem.Challenge.rw_unwound_k37_whole_combed_beside_single_m).prog) (w := w) KX G hmg c
    exact ⟨K, fd, K37.spLaw K, KX, hb, fun H a ns hl _ hS => ⟨a, ns, rfl, hS, hl, fun _ => rfl⟩, hF⟩
