import PyProof.Rows.All
import Wide.All
import OpenK.AllK
import Wide.FinOn
import HandS.ForMost
import HandS.More
import HandS.Conv
import HandS.Style
import HandS.Wide
import HandS.IsInst
import HandS.ExcField
import HandS.ExcCtx
import HandS.HotCalls
import HandS.WordsExc
import KE.KExcSuper
import KE.KExcIs
import HandS.ExcIs
import PySem.Challenge.RW_fieldrides_k42_whole_strikes
set_option Elab.async false
set_option linter.all false
set_option maxRecDepth 100000
set_option maxHeartbeats 4000000
/-! # The plain law: merges along paths, the sieve gives the fold, the merge is associative -/
namespace FR
inductive Kd where
  | up | dn | fi | la
  deriving DecidableEq
/-- a kind that compares -/
def Kd.cmp : Kd → Bool
  | .up => true
  | .dn => true
  | _ => false
/-- better(kind, x, y) -/
def better : Kd → Int → Int → Bool
  | .up, x, y => decide (y < x)
  | .dn, x, y => decide (x < y)
  | _, _, _ => false
/-- the record that gives: true is the newer one; values along a path -/
def sideL : List Kd → List Int → List Int → Bool
  | k :: ks, x :: xs, y :: ys => if x = y then sideL ks xs ys else match k with
    | .fi => false
    | .la => true
    | .up => decide (x < y)
    | .dn => decide (y < x)
  | _, _, _ => false
def sel (ks : List Kd) (u v : List Int) : List Int := if sideL ks u v then v else u
theorem sel_same (k : Kd) (ks : List Kd) (x : Int) (u v : List Int) : sel (k :: ks) (x :: u) (x :: v) = x :: sel ks u v := by
  unfold sel
  simp only [sideL, if_true]
  split <;> rfl
theorem sel_fi (ks : List Kd) {x y : Int} (u v : List Int) (h : x ≠ y) : sel (.fi :: ks) (x :: u) (y :: v) = x :: u := by
  simp [sel, sideL, h]
theorem sel_la (ks : List Kd) {x y : Int} (u v : List Int) (h : x ≠ y) : sel (.la :: ks) (x :: u) (y :: v) = y :: v := by
  simp [sel, sideL, h]
theorem sel_new {k : Kd} (ks : List Kd) {x y : Int} (u v : List Int) (h : better k y x = true) : sel (k :: ks) (x :: u) (y :: v) = y :: v := by
  cases k with
  | up =>
    have h' : x < y := by simpa [better] using h
    have n : x ≠ y := by omega
    simp [sel, sideL, n, h']
  | dn =>
    have h' : y < x := by simpa [better] using h
    have n : x ≠ y := by omega
    simp [sel, sideL, n, h']
  | fi => simp [better] at h
  | la => simp [better] at h
theorem sel_old {k : Kd} (ks : List Kd) {x y : Int} (u v : List Int) (hk : k.cmp = true) (h : better k y x = false) (n : x ≠ y) : sel (k :: ks) (x :: u) (y :: v) = x :: u := by
  cases k with
  | up =>
    have h' : ¬ x < y := by simpa [better] using h
    simp [sel, sideL, n, h']
  | dn =>
    have h' : ¬ y < x := by simpa [better] using h
    simp [sel, sideL, n, h']
  | fi => simp [Kd.cmp] at hk
  | la => simp [Kd.cmp] at hk
/-- only the last kind may be first or last -/
def GoodK : List Kd → Prop
  | [] => True
  | k :: ks => (k.cmp = true ∨ ks = []) ∧ GoodK ks
theorem better_trans {k : Kd} {x y z : Int} (h1 : better k y x = true) (h2 : better k z y = true) : better k z x = true := by
  cases k <;> simp [better] at * <;> omega
theorem better_tri {k : Kd} (hk : k.cmp = true) (x y : Int) : x = y ∨ better k x y = true ∨ better k y x = true := by
  cases k <;> simp [better, Kd.cmp] at * <;> omega
theorem better_asymm {k : Kd} {x y : Int} (h : better k x y = true) : better k y x = false := by
  cases k <;> simp [better] at * <;> omega
theorem better_ne {k : Kd} {x y : Int} (h : better k x y = true) : x ≠ y := by
  cases k <;> simp [better] at * <;> omega
theorem sel_nil (u v : List Int) : sel [] u v = u := by simp [sel, sideL]
theorem sel_assoc : ∀ (ks : List Kd) (u v w : List Int), GoodK ks → u.length = ks.length → v.length = ks.length → w.length = ks.length →
    sel ks (sel ks u v) w = sel ks u (sel ks v w) := by
  intro ks
  induction ks with
  | nil =>
    intro u v w _ _ _ _
    simp only [sel_nil]
  | cons k ks ih =>
    intro u v w g hu hv hw
    match u, v, w, hu, hv, hw with
    | x :: u, y :: v, z :: w, hu, hv, hw =>
      simp only [List.length_cons, Nat.add_right_cancel_iff] at hu hv hw
      obtain ⟨gk, gs⟩ := g
      have IH := ih u v w gs hu hv hw
      by_cases hk : k.cmp = true
      · rcases better_tri hk x y with exy | exy | exy
        · subst exy
          rcases better_tri hk x z with exz | exz | exz
          · subst exz
            simp only [sel_same, IH]
          · rw [sel_same, sel_old _ _ _ hk (better_asymm exz) (better_ne exz), sel_old _ _ _ hk (better_asymm exz) (better_ne exz), sel_same]
          · rw [sel_same, sel_new _ _ _ exz, sel_new _ _ _ exz, sel_new _ _ _ exz]
        · rw [sel_old ks u v hk (better_asymm exy) (better_ne exy)]
          rcases better_tri hk y z with eyz | eyz | eyz
          · subst eyz
            rw [sel_same, sel_old _ _ _ hk (better_asymm exy) (better_ne exy), sel_old _ _ _ hk (better_asymm exy) (better_ne exy)]
          · have exz := better_trans eyz exy
            rw [sel_old ks v w hk (better_asymm eyz) (better_ne eyz), sel_old _ _ _ hk (better_asymm exy) (better_ne exy), sel_old _ _ _ hk (better_asymm exz) (better_ne exz)]
          · rw [sel_new ks v w eyz]
        · rw [sel_new ks u v exy]
          rcases better_tri hk y z with eyz | eyz | eyz
          · subst eyz
            rw [sel_same, sel_new _ _ _ exy]
          · rw [sel_old ks v w hk (better_asymm eyz) (better_ne eyz), sel_new _ _ _ exy]
          · rw [sel_new ks v w eyz, sel_new _ _ _ (better_trans exy eyz)]
      · have eks : ks = [] := gk.resolve_left hk
        subst eks
        have eu : u = [] := List.length_eq_zero_iff.mp hu
        have ev : v = [] := List.length_eq_zero_iff.mp hv
        have ew : w = [] := List.length_eq_zero_iff.mp hw
        subst eu ev ew
        cases k with
        | up => simp [Kd.cmp] at hk
        | dn => simp [Kd.cmp] at hk
        | fi =>
          have q : ∀ a b : Int, sel [.fi] [a] [b] = [a] := fun a b => by
            by_cases e : a = b
            · subst e; rw [sel_same, sel_nil]
            · exact sel_fi _ _ _ e
          simp only [q]
        | la =>
          have q : ∀ a b : Int, sel [.la] [a] [b] = [b] := fun a b => by
            by_cases e : a = b
            · subst e; rw [sel_same, sel_nil]
            · exact sel_la _ _ _ e
          simp only [q]
theorem sel_length {ks : List Kd} {u v : List Int} {n : Nat} (hu : u.length = n) (hv : v.length = n) : (sel ks u v).length = n := by
  unfold sel
  split <;> assumption

/-! ### records along a path -/
abbrev Rc := List Int
def at0 (r : Rc) (f : Nat) : Int := r.getD f 0
def proj (L : List Nat) (r : Rc) : List Int := L.map (at0 r)
theorem proj_length (L : List Nat) (r : Rc) : (proj L r).length = L.length := by simp [proj]
/-- the side by a path: true is the newer one -/
def side (kd : Nat → Kd) (a b : Rc) (L : List Nat) : Bool := sideL (L.map kd) (proj L a) (proj L b)
theorem side_nil (kd : Nat → Kd) (a b : Rc) : side kd a b [] = false := by simp [side, proj, sideL]
theorem side_same {kd : Nat → Kd} {a b : Rc} {g : Nat} {L : List Nat} (h : at0 a g = at0 b g) : side kd a b (g :: L) = side kd a b L := by
  simp [side, proj, sideL, h]
/-- what an unlike field says -/
def says (k : Kd) (x y : Int) : Bool := match k with
  | .fi => false
  | .la => true
  | .up => decide (x < y)
  | .dn => decide (y < x)
theorem side_ne {kd : Nat → Kd} {a b : Rc} {g : Nat} {L : List Nat} (h : at0 a g ≠ at0 b g) : side kd a b (g :: L) = says (kd g) (at0 a g) (at0 b g) := by
  simp only [side, proj, List.map_cons, sideL, h, if_false]
  cases kd g <;> rfl
theorem side_pre {kd : Nat → Kd} {a b : Rc} {g : Nat} {s : List Nat} (hg : at0 a g ≠ at0 b g) : ∀ q : List Nat, side kd a b (q ++ g :: s) = side kd a b (q ++ [g]) := by
  intro q
  induction q with
  | nil => rw [List.nil_append, List.nil_append, side_ne hg, side_ne hg]
  | cons h q ih =>
    by_cases e : at0 a h = at0 b h
    · rw [List.cons_append, List.cons_append, side_same e, side_same e, ih]
    · rw [List.cons_append, List.cons_append, side_ne e, side_ne e]
def mrg (kd : Nat → Kd) (P : Nat → List Nat) (n : Nat) (a b : Rc) : Rc := (List.range n).map fun f => if side kd a b (P f) then at0 b f else at0 a f
theorem mrg_length (kd : Nat → Kd) (P : Nat → List Nat) (n : Nat) (a b : Rc) : (mrg kd P n a b).length = n := by simp [mrg]
theorem mrg_at {kd : Nat → Kd} {P : Nat → List Nat} {n f : Nat} (a b : Rc) (hf : f < n) : at0 (mrg kd P n a b) f = if side kd a b (P f) then at0 b f else at0 a f := by
  simp [at0, mrg, List.getD, hf]
/-- what is asked of the paths -/
structure PathsOk (kd : Nat → Kd) (P : Nat → List Nat) (n : Nat) : Prop where
  ends : ∀ f, f < n → ∃ q, P f = q ++ [f]
  low : ∀ f g, f < n → g ∈ P f → g < n
  pre : ∀ f q g s, f < n → P f = q ++ g :: s → P g = q ++ [g]
  good : ∀ f, f < n → GoodK ((P f).map kd)
section
variable {kd : Nat → Kd} {P : Nat → List Nat} {n : Nat}
theorem mrg_on (K : PathsOk kd P n) {f g : Nat} (a b : Rc) (hf : f < n) (hg : g ∈ P f) : at0 (mrg kd P n a b) g = if side kd a b (P f) then at0 b g else at0 a g := by
  obtain ⟨q, s, e⟩ := List.append_of_mem hg
  rw [mrg_at a b (K.low f g hf hg), K.pre f q g s hf e]
  by_cases h : at0 a g = at0 b g
  · rw [h]
    split <;> split <;> rfl
  · rw [e, side_pre (s := s) h]
theorem proj_mrg (K : PathsOk kd P n) {f : Nat} (a b : Rc) (hf : f < n) : proj (P f) (mrg kd P n a b) = sel ((P f).map kd) (proj (P f) a) (proj (P f) b) := by
  have e : proj (P f) (mrg kd P n a b) = if side kd a b (P f) then proj (P f) b else proj (P f) a := by
    have e1 : proj (P f) (mrg kd P n a b) = (P f).map fun g => if side kd a b (P f) then at0 b g else at0 a g :=
      List.map_congr_left fun g hg => mrg_on K a b hf hg
    rw [e1]
    by_cases h : side kd a b (P f) = true
    · simp [h, proj]
    · simp [h, proj]
  rw [e]
  rfl
theorem at_of_proj (K : PathsOk kd P n) {f : Nat} {a b : Rc} (hf : f < n) (h : proj (P f) a = proj (P f) b) : at0 a f = at0 b f := by
  obtain ⟨q, e⟩ := K.ends f hf
  rw [e] at h
  simp only [proj, List.map_append, List.map_cons, List.map_nil] at h
  have h2 := List.append_inj_right' h rfl
  exact (List.cons.inj h2).1
theorem rc_ext {a b : Rc} (ha : a.length = n) (hb : b.length = n) (h : ∀ f, f < n → at0 a f = at0 b f) : a = b := by
  refine List.ext_getElem (by rw [ha, hb]) fun i h1 h2 => ?_
  have := h i (by omega)
  simpa [at0, List.getD, h1, h2] using this
theorem mrg_assoc (K : PathsOk kd P n) (x y z : Rc) : mrg kd P n (mrg kd P n x y) z = mrg kd P n x (mrg kd P n y z) := by
  refine rc_ext (mrg_length ..) (mrg_length ..) fun f hf => at_of_proj K hf ?_
  have l : ∀ r : Rc, (proj (P f) r).length = ((P f).map kd).length := fun r => by simp [proj]
  rw [proj_mrg K _ _ hf, proj_mrg K _ _ hf, proj_mrg K _ _ hf, proj_mrg K _ _ hf]
  exact sel_assoc _ _ _ _ (K.good f hf) (l _) (l _) (l _)
/-! ### the fold -/
def fold (kd : Nat → Kd) (P : Nat → List Nat) (n : Nat) : List Rc → Rc
  | [] => []
  | r :: rs => rs.foldl (mrg kd P n) r
theorem foldl_mrg (K : PathsOk kd P n) (rs : List Rc) : ∀ a b : Rc, rs.foldl (mrg kd P n) (mrg kd P n a b) = mrg kd P n a (rs.foldl (mrg kd P n) b) := by
  induction rs with
  | nil => intro a b; rfl
  | cons r rs ih =>
    intro a b
    rw [List.foldl_cons, List.foldl_cons, mrg_assoc K, ih]
theorem fold_append (K : PathsOk kd P n) {a b : List Rc} (ha : a ≠ []) (hb : b ≠ []) : fold kd P n (a ++ b) = mrg kd P n (fold kd P n a) (fold kd P n b) := by
  match a, b, ha, hb with
  | r :: rs, s :: ss, _, _ =>
    show (rs ++ s :: ss).foldl (mrg kd P n) r = _
    rw [List.foldl_append, List.foldl_cons, foldl_mrg K]
    rfl
/-- the same end within any row -/
theorem fold_around (K : PathsOk kd P n) {row less : List Rc} (hr : row ≠ []) (hl : less ≠ []) (e : fold kd P n less = fold kd P n row) (b a : List Rc) :
    fold kd P n (b ++ less ++ a) = fold kd P n (b ++ row ++ a) := by
  have h1 : fold kd P n (b ++ less) = fold kd P n (b ++ row) := by
    cases b with
    | nil => simpa using e
    | cons x b => rw [fold_append K (by simp) hl, fold_append K (by simp) hr, e]
  have n1 : b ++ less ≠ [] := fun q => hl (List.append_eq_nil_iff.mp q).2
  have n2 : b ++ row ≠ [] := fun q => hr (List.append_eq_nil_iff.mp q).2
  cases a with
  | nil => simpa using h1
  | cons x a => rw [fold_append K n1 (by simp), fold_append K n2 (by simp), h1]
theorem fold_length {rs : List Rc} (h : rs ≠ []) (hl : ∀ r ∈ rs, r.length = n) : (fold kd P n rs).length = n := by
  match rs, h with
  | r :: rs, _ =>
    have key : ∀ (rs : List Rc) (a : Rc), a.length = n → (rs.foldl (mrg kd P n) a).length = n := by
      intro rs
      induction rs with
      | nil => intro a h; exact h
      | cons s rs ih => intro a _; exact ih _ (mrg_length ..)
    exact key rs r (hl r (by simp))
/-! ### the sieve -/
def bestV (k : Kd) (g : Nat) : List Rc → Int
  | [] => 0
  | r :: rs => rs.foldl (fun b x => if better k (at0 x g) b then at0 x g else b) (at0 r g)
def bestR (k : Kd) (g : Nat) (rows : List Rc) : List Rc := match k with
  | .fi => rows.take 1
  | .la => rows.drop (rows.length - 1)
  | _ => rows.filter fun r => decide (at0 r g = bestV k g rows)
def sieve (kd : Nat → Kd) (L : List Nat) (rows : List Rc) : List Rc := L.foldl (fun left g => bestR (kd g) g left) rows
def fsel (ks : List Kd) : List (List Int) → List Int
  | [] => []
  | u :: us => us.foldl (sel ks) u
theorem fsel_snoc (ks : List Kd) {us : List (List Int)} (h : us ≠ []) (v : List Int) : fsel ks (us ++ [v]) = sel ks (fsel ks us) v := by
  match us, h with
  | u :: us, _ =>
    show (us ++ [v]).foldl (sel ks) u = _
    rw [List.foldl_append]
    rfl
theorem bestV_snoc (k : Kd) (g : Nat) {rs : List Rc} (h : rs ≠ []) (r : Rc) : bestV k g (rs ++ [r]) = if better k (at0 r g) (bestV k g rs) then at0 r g else bestV k g rs := by
  match rs, h with
  | u :: us, _ =>
    show (us ++ [r]).foldl _ (at0 u g) = _
    rw [List.foldl_append]
    rfl
/-- one turn of the sieve, of a kind that compares -/
structure Sv (k : Kd) (g : Nat) (ks : List Kd) (s : List Nat) (rows : List Rc) : Prop where
  ne : rows ≠ []
  most : ∀ x ∈ rows, better k (at0 x g) (bestV k g rows) = false
  left : rows.filter (fun r => decide (at0 r g = bestV k g rows)) ≠ []
  eq : fsel (k :: ks) (rows.map (proj (g :: s))) = bestV k g rows :: fsel ks ((rows.filter fun r => decide (at0 r g = bestV k g rows)).map (proj s))
theorem better_self (k : Kd) (x : Int) : better k x x = false := by cases k <;> simp [better]
theorem sv_one (k : Kd) (g : Nat) (ks : List Kd) (s : List Nat) (r : Rc) : Sv k g ks s [r] := by
  refine ⟨by simp, fun x hx => ?_, ?_, ?_⟩
  · have e : x = r := by simpa using hx
    subst e
    exact better_self _ _
  · simp [bestV]
  · simp [bestV, fsel, proj]
theorem sv_snoc {k : Kd} (hk : k.cmp = true) {g : Nat} {ks : List Kd} {s : List Nat} {rows : List Rc} (S : Sv k g ks s rows) (r : Rc) : Sv k g ks s (rows ++ [r]) := by
  obtain ⟨ne, most, left, eq⟩ := S
  have nem : rows.map (proj (g :: s)) ≠ [] := by simpa using ne
  have pr : proj (g :: s) r = at0 r g :: proj s r := rfl
  have hsn : fsel (k :: ks) ((rows ++ [r]).map (proj (g :: s))) = sel (k :: ks) (bestV k g rows :: fsel ks ((rows.filter fun r => decide (at0 r g = bestV k g rows)).map (proj s))) (at0 r g :: proj s r) := by
    rw [List.map_append, List.map_cons, List.map_nil, fsel_snoc _ nem, eq, pr]
  rcases better_tri hk (at0 r g) (bestV k g rows) with e | e | e
  · have bv : bestV k g (rows ++ [r]) = bestV k g rows := by rw [bestV_snoc k g ne, e, better_self]; rfl
    have fl : (rows ++ [r]).filter (fun r => decide (at0 r g = bestV k g rows)) = rows.filter (fun r => decide (at0 r g = bestV k g rows)) ++ [r] := by
      rw [List.filter_append]
      simp [e]
    refine ⟨by simp, fun x hx => ?_, ?_, ?_⟩
    · rw [bv]
      rcases List.mem_append.mp hx with hx | hx
      · exact most x hx
      · have e2 : x = r := by simpa using hx
        rw [e2, e]
        exact better_self _ _
    · rw [bv, fl]
      simp
    · rw [hsn, bv, fl, e, sel_same, List.map_append, List.map_cons, List.map_nil, fsel_snoc _ (by simpa using left)]
  · have bv : bestV k g (rows ++ [r]) = at0 r g := by rw [bestV_snoc k g ne, e]; rfl
    have nf : rows.filter (fun x => decide (at0 x g = at0 r g)) = [] := by
      refine List.filter_eq_nil_iff.mpr fun x hx => ?_
      intro q
      have q' : at0 x g = at0 r g := of_decide_eq_true q
      have := most x hx
      rw [q', e] at this
      cases this
    have fl : (rows ++ [r]).filter (fun x => decide (at0 x g = at0 r g)) = [r] := by
      rw [List.filter_append, nf]
      simp
    refine ⟨by simp, fun x hx => ?_, ?_, ?_⟩
    · rw [bv]
      rcases List.mem_append.mp hx with hx | hx
      · cases hb : better k (at0 x g) (at0 r g) with
        | false => rfl
        | true =>
          have := better_trans e hb
          rw [most x hx] at this
          cases this
      · have e2 : x = r := by simpa using hx
        rw [e2]
        exact better_self _ _
    · rw [bv, fl]
      simp
    · rw [hsn, bv, fl, sel_new _ _ _ e]
      rfl
  · have nb := better_asymm e
    have bv : bestV k g (rows ++ [r]) = bestV k g rows := by rw [bestV_snoc k g ne, nb]; rfl
    have fl : (rows ++ [r]).filter (fun r => decide (at0 r g = bestV k g rows)) = rows.filter (fun r => decide (at0 r g = bestV k g rows)) := by
      rw [List.filter_append]
      have : ¬ at0 r g = bestV k g rows := fun q => better_ne e q.symm
      simp [this]
    refine ⟨by simp, fun x hx => ?_, ?_, ?_⟩
    · rw [bv]
      rcases List.mem_append.mp hx with hx | hx
      · exact most x hx
      · have e2 : x = r := by simpa using hx
        rw [e2]
        exact nb
    · rw [bv, fl]
      exact left
    · rw [hsn, bv, fl, sel_old _ _ _ hk nb (better_ne e)]
theorem sv_all {k : Kd} (hk : k.cmp = true) (g : Nat) (ks : List Kd) (s : List Nat) : ∀ (rs : List Rc) {rows : List Rc}, Sv k g ks s rows → Sv k g ks s (rows ++ rs) := by
  intro rs
  induction rs with
  | nil => intro rows S; simpa using S
  | cons r rs ih =>
    intro rows S
    have := ih (sv_snoc hk S r)
    rwa [List.append_assoc, List.singleton_append] at this
theorem sv {k : Kd} (hk : k.cmp = true) (g : Nat) (ks : List Kd) (s : List Nat) {rows : List Rc} (h : rows ≠ []) : Sv k g ks s rows := by
  match rows, h with
  | r :: rs, _ => exact sv_all hk g ks s rs (sv_one k g ks s r)
theorem fsel_nil (us : List (List Int)) (h : ∀ u ∈ us, u = []) : fsel [] us = [] := by
  match us with
  | [] => rfl
  | u :: us =>
    have key : ∀ (us : List (List Int)), us.foldl (sel []) [] = [] := by
      intro us
      induction us with
      | nil => rfl
      | cons v us ih => rw [List.foldl_cons, sel_nil, ih]
    show us.foldl (sel []) u = []
    rw [h u (by simp)]
    exact key us
theorem fsel_fi (g : Nat) (r : Rc) (rs : List Rc) : fsel [.fi] ((r :: rs).map (proj [g])) = [at0 r g] := by
  have key : ∀ (rs : List Rc) (x : Int), (rs.map (proj [g])).foldl (sel [.fi]) [x] = [x] := by
    intro rs
    induction rs with
    | nil => intro x; rfl
    | cons v rs ih =>
      intro x
      have e : sel [.fi] [x] (proj [g] v) = [x] := by
        show sel [.fi] [x] [at0 v g] = [x]
        by_cases e : x = at0 v g
        · rw [← e, sel_same, sel_nil]
        · exact sel_fi _ _ _ e
      rw [List.map_cons, List.foldl_cons, e, ih]
  exact key rs (at0 r g)
theorem fsel_la (g : Nat) : ∀ (rs : List Rc) (r : Rc), fsel [.la] ((rs ++ [r]).map (proj [g])) = [at0 r g] := by
  intro rs r
  by_cases h : rs = []
  · subst h
    rfl
  · rw [List.map_append, List.map_cons, List.map_nil, fsel_snoc _ (by simpa using h)]
    have l : ∃ y, fsel [.la] (rs.map (proj [g])) = [y] := by
      match rs, h with
      | u :: us, _ =>
        have key : ∀ (us : List Rc) (x : Int), ∃ y, (us.map (proj [g])).foldl (sel [.la]) [x] = [y] := by
          intro us
          induction us with
          | nil => intro x; exact ⟨x, rfl⟩
          | cons v us ih =>
            intro x
            rw [List.map_cons, List.foldl_cons]
            unfold sel
            split
            · exact ih (at0 v g)
            · exact ih x
        exact key us (at0 u g)
    obtain ⟨y, e⟩ := l
    rw [e]
    show sel [.la] [y] [at0 r g] = [at0 r g]
    by_cases e : y = at0 r g
    · rw [← e, sel_same, sel_nil]
    · exact sel_la _ _ _ e
theorem bestR_sub (k : Kd) (g : Nat) (rows : List Rc) : ∀ r ∈ bestR k g rows, r ∈ rows := by
  intro r hr
  cases k with
  | up => exact (List.mem_filter.mp hr).1
  | dn => exact (List.mem_filter.mp hr).1
  | fi => exact List.mem_of_mem_take hr
  | la => exact List.mem_of_mem_drop hr
theorem bestR_ne (k : Kd) (g : Nat) {rows : List Rc} (h : rows ≠ []) : bestR k g rows ≠ [] := by
  have hl : 0 < rows.length := List.length_pos_iff.mpr h
  cases k with
  | up => exact (sv (k := .up) rfl g [] [] h).left
  | dn => exact (sv (k := .dn) rfl g [] [] h).left
  | fi =>
    show rows.take 1 ≠ []
    intro e
    have := congrArg List.length e
    simp at this
    exact h this
  | la =>
    show rows.drop (rows.length - 1) ≠ []
    intro e
    have := congrArg List.length e
    simp at this
    omega
theorem sieve_sub (kd : Nat → Kd) : ∀ (L : List Nat) (rows : List Rc), ∀ r ∈ sieve kd L rows, r ∈ rows := by
  intro L
  induction L with
  | nil => intro rows r hr; exact hr
  | cons g L ih =>
    intro rows r hr
    exact bestR_sub _ _ _ r (ih _ r hr)
theorem sieve_fsel (kd : Nat → Kd) : ∀ (L : List Nat) (rows : List Rc), GoodK (L.map kd) → rows ≠ [] →
    sieve kd L rows ≠ [] ∧ ∀ r ∈ sieve kd L rows, proj L r = fsel (L.map kd) (rows.map (proj L)) := by
  intro L
  induction L with
  | nil =>
    intro rows _ h
    refine ⟨h, fun r hr => ?_⟩
    show [] = _
    rw [List.map_nil, fsel_nil]
    intro u hu
    obtain ⟨x, _, e⟩ := List.mem_map.mp hu
    rw [← e]
    rfl
  | cons g L ih =>
    intro rows gd h
    have gd' : GoodK (kd g :: L.map kd) := gd
    obtain ⟨gk, gs⟩ := gd'
    obtain ⟨n1, e1⟩ := ih (bestR (kd g) g rows) gs (bestR_ne _ _ h)
    refine ⟨n1, fun r hr => ?_⟩
    have hr1 : r ∈ bestR (kd g) g rows := sieve_sub kd L _ r hr
    have e2 := e1 r hr
    show at0 r g :: proj L r = fsel (kd g :: L.map kd) _
    by_cases hk : (kd g).cmp = true
    · have S := sv hk g (L.map kd) L h
      have eb : bestR (kd g) g rows = rows.filter fun r => decide (at0 r g = bestV (kd g) g rows) := by
        cases hkd : kd g with
        | up => rfl
        | dn => rfl
        | fi => rw [hkd] at hk; cases hk
        | la => rw [hkd] at hk; cases hk
      rw [S.eq, ← eb, ← e2]
      rw [eb] at hr1
      have := of_decide_eq_true (List.mem_filter.mp hr1).2
      rw [this]
    · have eL : L = [] := by
        have := gk.resolve_left hk
        simpa using this
      subst eL
      show at0 r g :: [] = fsel [kd g] _
      cases hkd : kd g with
      | up => rw [hkd] at hk; exact absurd rfl hk
      | dn => rw [hkd] at hk; exact absurd rfl hk
      | fi =>
        rw [hkd] at hr1
        match rows, h with
        | u :: us, _ =>
          have e3 : r = u := by simpa [bestR] using hr1
          rw [e3, fsel_fi]
      | la =>
        rw [hkd] at hr1
        obtain ⟨us, u, e3⟩ : ∃ us u, rows = us ++ [u] := ⟨rows.dropLast, rows.getLast h, (List.dropLast_concat_getLast h).symm⟩
        subst e3
        have e4 : r = u := by
          have : r ∈ (us ++ [u]).drop ((us ++ [u]).length - 1) := hr1
          simpa using this
        rw [e4, fsel_la]
/-- the end of a row, by a sieve along each path -/
def sieveEnd (kd : Nat → Kd) (P : Nat → List Nat) (n : Nat) (rows : List Rc) : Rc := (List.range n).map fun f => at0 ((sieve kd (P f) rows).headD []) f
theorem proj_fold (K : PathsOk kd P n) {f : Nat} (hf : f < n) {rows : List Rc} (h : rows ≠ []) : proj (P f) (fold kd P n rows) = fsel ((P f).map kd) (rows.map (proj (P f))) := by
  match rows, h with
  | r :: rs, _ =>
    have key : ∀ (rs : List Rc) (a : Rc), proj (P f) (rs.foldl (mrg kd P n) a) = (rs.map (proj (P f))).foldl (sel ((P f).map kd)) (proj (P f) a) := by
      intro rs
      induction rs with
      | nil => intro a; rfl
      | cons s rs ih =>
        intro a
        rw [List.foldl_cons, ih, proj_mrg K _ _ hf]
        rfl
    exact key rs r
theorem sieve_fold (K : PathsOk kd P n) {rows : List Rc} (h : rows ≠ []) (hl : ∀ r ∈ rows, r.length = n) : sieveEnd kd P n rows = fold kd P n rows := by
  refine rc_ext (by simp [sieveEnd]) (fold_length h hl) fun f hf => ?_
  obtain ⟨n1, e1⟩ := sieve_fsel kd (P f) rows (K.good f hf) h
  have e2 : at0 (sieveEnd kd P n rows) f = at0 ((sieve kd (P f) rows).headD []) f := by
    simp [at0, sieveEnd, List.getD, hf]
  rw [e2]
  match hs : sieve kd (P f) rows, n1 with
  | r :: rs, _ =>
    rw [hs] at e1
    refine at_of_proj K hf ?_
    rw [proj_fold K hf h]
    exact e1 r (by simp)
end
/-! ### the paths of a forest -/
def par (ps : List (Option Nat)) (f : Nat) : Option Nat := ps.getD f none
def chain (ps : List (Option Nat)) : Nat → Nat → List Nat
  | 0, f => [f]
  | k + 1, f => match par ps f with
    | none => [f]
    | some h => chain ps k h ++ [f]
def path (ps : List (Option Nat)) (f : Nat) : List Nat := chain ps ps.length f
def stepP (ps : List (Option Nat)) : List Nat → List Nat
  | [] => []
  | g :: p => match par ps g with
    | none => g :: p
    | some h => h :: g :: p
def iterP (ps : List (Option Nat)) : Nat → List Nat → List Nat
  | 0, p => p
  | k + 1, p => iterP ps k (stepP ps p)
def kindAt (ks : List Kd) (f : Nat) : Kd := ks.getD f .up
structure Forest (ps : List (Option Nat)) (ks : List Kd) : Prop where
  len : ks.length = ps.length
  pos : 1 ≤ ps.length
  most : ps.length ≤ 8
  low : ∀ f h, f < ps.length → par ps f = some h → h < ps.length
  deep : ∃ d : Nat → Nat, (∀ f h, f < ps.length → par ps f = some h → d h < d f) ∧ ∀ f, f < ps.length → d f < ps.length
  kind : ∀ f h, f < ps.length → par ps f = some h → (kindAt ks h).cmp = true
section
variable {ps : List (Option Nat)} {ks : List Kd}
theorem chain_root {f : Nat} (h : par ps f = none) : ∀ k, chain ps k f = [f]
  | 0 => rfl
  | k + 1 => by simp [chain, h]
theorem iter_chain : ∀ (k g : Nat) (p : List Nat), iterP ps k (g :: p) = chain ps k g ++ p := by
  intro k
  induction k with
  | zero => intro g p; rfl
  | succ k ih =>
    intro g p
    show iterP ps k (stepP ps (g :: p)) = _
    cases e : par ps g with
    | none => simp only [stepP, e, ih, chain, chain_root e]
    | some h =>
      simp only [stepP, e, ih, chain]
      simp
theorem chain_fuel {d : Nat → Nat} (hl : ∀ f h, f < ps.length → par ps f = some h → h < ps.length) (hd : ∀ f h, f < ps.length → par ps f = some h → d h < d f) :
    ∀ (k f : Nat), f < ps.length → d f ≤ k → ∀ k', d f ≤ k' → chain ps k f = chain ps k' f := by
  intro k
  induction k with
  | zero =>
    intro f hf h k' h'
    cases e : par ps f with
    | none => rw [chain_root e, chain_root e]
    | some g =>
      have dg := hd f g hf e
      omega
  | succ k ih =>
    intro f hf h k' h'
    cases e : par ps f with
    | none => rw [chain_root e, chain_root e]
    | some g =>
      have dg := hd f g hf e
      obtain ⟨m, rfl⟩ : ∃ m, k' = m + 1 := ⟨k' - 1, by omega⟩
      simp only [chain, e]
      rw [ih g (hl f g hf e) (by omega) m (by omega)]
theorem path_root {f : Nat} (h : par ps f = none) : path ps f = [f] := chain_root h _
theorem path_step (F : Forest ps ks) {f g : Nat} (hf : f < ps.length) (h : par ps f = some g) : path ps f = path ps g ++ [f] := by
  obtain ⟨d, d1, d2⟩ := F.deep
  have pos := F.pos
  obtain ⟨m, em⟩ : ∃ m, ps.length = m + 1 := ⟨ps.length - 1, by omega⟩
  have hg := F.low f g hf h
  have e1 : path ps f = chain ps m g ++ [f] := by
    unfold path
    rw [em]
    simp only [chain, h]
  have dg := d1 f g hf h
  have df := d2 f hf
  rw [e1]
  unfold path
  rw [chain_fuel F.low d1 m g hg (by omega) ps.length (by omega)]
theorem path_ind (F : Forest ps ks) {C : Nat → Prop} (h0 : ∀ f, f < ps.length → par ps f = none → C f) (h1 : ∀ f g, f < ps.length → par ps f = some g → C g → C f) : ∀ f, f < ps.length → C f := by
  obtain ⟨d, d1, d2⟩ := F.deep
  have key : ∀ (m f : Nat), d f < m → f < ps.length → C f := by
    intro m
    induction m with
    | zero => intro f h; omega
    | succ m ih =>
      intro f h hf
      cases e : par ps f with
      | none => exact h0 f hf e
      | some g => exact h1 f g hf e (ih g (by have := d1 f g hf e; omega) (F.low f g hf e))
  intro f hf
  exact key (d f + 1) f (by omega) hf
theorem goodK_snoc : ∀ (l : List Kd) (k : Kd), (∀ x ∈ l, x.cmp = true) → GoodK (l ++ [k]) := by
  intro l
  induction l with
  | nil => intro k _; exact ⟨.inr rfl, trivial⟩
  | cons x l ih => intro k h; exact ⟨.inl (h x (by simp)), ih k fun y hy => h y (List.mem_cons_of_mem _ hy)⟩
theorem path_last (F : Forest ps ks) {f : Nat} (hf : f < ps.length) : ∃ q, path ps f = q ++ [f] := by
  cases e : par ps f with
  | none => exact ⟨[], path_root e⟩
  | some g => exact ⟨_, path_step F hf e⟩
theorem path_cmp (F : Forest ps ks) : ∀ f, f < ps.length → ∀ q s g, path ps f = q ++ g :: s → (s ≠ [] → (kindAt ks g).cmp = true) ∧ path ps g = q ++ [g] ∧ g < ps.length := by
  refine path_ind F (fun f hf e q s g h => ?_) (fun f p hf e ih q s g h => ?_)
  · rw [path_root e] at h
    match q, h with
    | [], h =>
      have h' := List.cons.inj h
      obtain ⟨h1, h2⟩ := h'
      subst h1 h2
      exact ⟨fun z => absurd rfl z, path_root e, hf⟩
    | x :: q, h =>
      have := congrArg List.length h
      simp at this
  · rw [path_step F hf e] at h
    by_cases hs : s = []
    · subst hs
      have h2 := List.append_inj_right' h rfl
      have h1 := List.append_inj_left' h rfl
      have eg : f = g := (List.cons.inj h2).1
      subst eg
      refine ⟨fun z => absurd rfl z, ?_, hf⟩
      rw [path_step F hf e, h1]
    · obtain ⟨s', x, e2⟩ : ∃ s' x, s = s' ++ [x] := ⟨s.dropLast, s.getLast hs, (List.dropLast_concat_getLast hs).symm⟩
      subst e2
      have h' : path ps p ++ [f] = (q ++ g :: s') ++ [x] := by rw [h]; simp
      have h1 := List.append_inj_left' h' rfl
      obtain ⟨i1, i2, i3⟩ := ih q s' g h1
      refine ⟨fun _ => ?_, i2, i3⟩
      by_cases hs' : s' = []
      · subst hs'
        obtain ⟨q2, l2⟩ := path_last F (F.low f p hf e)
        have : q ++ [g] = q2 ++ [p] := by rw [← h1, l2]
        have h3 := List.append_inj_right' this rfl
        have eg : g = p := (List.cons.inj h3).1
        rw [eg]
        exact F.kind f p hf e
      · exact i1 hs'
theorem pathsOk (F : Forest ps ks) : PathsOk (kindAt ks) (path ps) ps.length where
  ends := fun f hf => path_last F hf
  low := fun f g hf hg => by
    obtain ⟨q, s, e⟩ := List.append_of_mem hg
    exact (path_cmp F f hf q s g e).2.2
  pre := fun f q g s hf e => (path_cmp F f hf q s g e).2.1
  good := fun f hf => by
    obtain ⟨q, e⟩ := path_last F hf
    rw [e, List.map_append, List.map_cons, List.map_nil]
    refine goodK_snoc _ _ fun x hx => ?_
    obtain ⟨g, hg, rfl⟩ := List.mem_map.mp hx
    obtain ⟨a, b, e2⟩ := List.append_of_mem hg
    refine (path_cmp F f hf a (b ++ [f]) g ?_).1 (by simp)
    rw [e, e2]
    simp
theorem iter_path (f : Nat) : iterP ps ps.length [f] = path ps f := by
  rw [iter_chain, List.append_nil]
  rfl
theorem path_ne (f : Nat) : path ps f ≠ [] := by
  unfold path
  cases ps.length with
  | zero => simp [chain]
  | succ k =>
    simp only [chain]
    split <;> simp
theorem path_low (F : Forest ps ks) {f g : Nat} (hf : f < ps.length) (hg : g ∈ path ps f) : g < ps.length := (pathsOk F).low f g hf hg
end
end FR
/-! # The text by places, and what stands in the heap -/
namespace K42
open PySem L2
def top (i : Nat) : Stmt := PySem.Challenge.pw_fieldrides_k42_whole_strikes.main.body.getD i (.Pass ⟨0, 0, 0, 0⟩)
/-- a tape: two ints -/
def TapeAt (H : Hp) (t : Addr) : Prop := ∃ c k : Int, H t = some (.lst [.int c, .int k])
/-- all but t is as it was -/
def But (t : Addr) (H H' : Hp) : Prop := ∀ b o, b ≠ t → H b = some o → H' b = some o
theorem But.refl (t : Addr) (H : Hp) : But t H H := fun _ _ _ h => h
theorem But.trans {t : Addr} {H H1 H2 : Hp} (a : But t H H1) (b : But t H1 H2) : But t H H2 := fun c o n h => b c o n (a c o n h)
theorem But.of {t : Addr} {H H' : Hp} (s : Same H H') : But t H H' := fun b o _ h => s b o h
theorem But.at_ {t : Addr} {H : Hp} {o : HO} : But t H (upd H t o) := fun b u n h => by rw [upd_ne n]; exact h
theorem same_new {H : Hp} {p : Addr} {o : HO} (h : H p = none) : Same H (upd H p o) := fun b u e => by rw [upd_ne (ne_of_none e h)]; exact e
theorem But.new {t : Addr} {H H1 : Hp} {p : Addr} {o : HO} (b : But t H H1) (h : H1 p = none) : But t H (upd H1 p o) := b.trans (.of (same_new h))
theorem But.free {t : Addr} {H H' : Hp} (b : But t H H') {p : Addr} (n : p ≠ t) (h : H' p = none) : H p = none := by
  cases q : H p with
  | none => rfl
  | some o =>
    rw [b p o n q] at h
    cases h
theorem TapeAt.new {H : Hp} {t p : Addr} {o : HO} (T : TapeAt H t) (h : H p = none) : TapeAt (upd H p o) t := by
  obtain ⟨c, k, e⟩ := T
  exact ⟨c, k, by rw [upd_ne (ne_of_none e h)]; exact e⟩
theorem TapeAt.same {H H' : Hp} {t : Addr} (T : TapeAt H t) (s : Same H H') : TapeAt H' t := by
  obtain ⟨c, k, e⟩ := T
  exact ⟨c, k, s _ _ e⟩
theorem TapeAt.ne {H : Hp} {t p : Addr} (T : TapeAt H t) (h : H p = none) : t ≠ p := by
  obtain ⟨c, k, e⟩ := T
  exact ne_of_none e h
/-- the built-ins that the text names are the built-ins -/
structure Bl (mg : Str → Option Value) : Prop where
  len : mg "len" = none
  abs : mg "abs" = none
  int : mg "int" = none
  tuple : mg "tuple" = none
  list : mg "list" = none
  range : mg "range" = none
  min : mg "min" = none
  isinstance : mg "isinstance" = none
  bool : mg "bool" = none
  valueError : mg "ValueError" = none
/-! ## a def of the module: where it stands (Tx), what it promises (Df) -/
structure Tx (K : PySem.W.Frag) (mg : Str → Option Value) (x : Str) (st : Stmt) (ps : List Str) : Prop where
  ex : ∃ (f : Addr) (fd : FuncData), mg x = some (.ref f) ∧ Fun K x x st f fd ∧ Binds K fd ps []
structure Df (P : Program) (w : World) (K : PySem.W.Frag) (mg : Str → Option Value) (base : Heap) (CX : CXT) (k : Nat) (x : Str) (ps : List Str) (sp : Sp) : Prop where
  ex : ∃ (f : Addr) (fd : FuncData), mg x = some (.ref f) ∧ PySem.W.keepIn K (.ref f) = true ∧ Binds K fd ps [] ∧ FnOk P w K mg base CX k f fd ps sp
theorem Tx.df {P : Program} {w : World} {K : PySem.W.Frag} {mg : Str → Option Value} {base : Heap} {CX : CXT} {k : Nat} {x : Str} {st : Stmt} {ps : List Str} {sp : Sp} (T : Tx K mg x st ps)
    (h : ∀ (f : Addr) (fd : FuncData), Fun K x x st f fd → FnOk P w K mg base CX k f fd ps sp) : Df P w K mg base CX k x ps sp := by
  obtain ⟨f, fd, m, F, b⟩ := T.ex
  exact ⟨f, fd, m, F.kp, b, h f fd F⟩
theorem pe_df {X : Cx} {CX : CXT} {k : Nat} {x : Str} {ps : List Str} {sp : Sp} {E : XK} {p pos : Pos} {e : Expr} {es : List Expr} {t : TA} (D : Df X.prog X.w X.K X.mg X.base CX k x ps sp) (hr : Room k X.A) (hx : Passes CX X E) (ha : PA X (e :: es) t)
    (hg : Gl X x := by rfl) (hdb : (x == ("__debug__" : Str)) = false := by decide) (he : starEach (e :: es) X.env = (false, eval e X.env) :: starEach es X.env := by rfl) (hpl : (backTo pos (starEach es X.env)).any (·.1) = false := by rfl) :
    PE X (.Call (.Name x p) (e :: es) [] pos) (tCall sp [] E t) := by
  obtain ⟨f, fd, m, kp, b, F⟩ := D.ex
  exact pe_call F hr hg m kp b .nil hx ha hdb he hpl
theorem Df.mono {P : Program} {w : World} {K : PySem.W.Frag} {mg : Str → Option Value} {base : Heap} {CX : CXT} {j k : Nat} {x : Str} {ps : List Str} {sp : Sp} (D : Df P w K mg base CX j x ps sp) (h : j ≤ k) : Df P w K mg base CX k x ps sp := by
  obtain ⟨f, fd, m, kp, b, F⟩ := D.ex
  exact ⟨f, fd, m, kp, b, F.mono h⟩
theorem But.put {t p : Addr} {H H' : Hp} {o : HO} (b : But t H H') (h : H p = none) : But t H (upd H' p o) := fun c u n e => by rw [upd_ne (ne_of_none e h)]; exact b c u n e
theorem TapeAt.put {H : Hp} {t p : Addr} {o : HO} (T : TapeAt H t) (n : t ≠ p) : TapeAt (upd H p o) t := by
  obtain ⟨c, k, e⟩ := T
  exact ⟨c, k, by rw [upd_ne n]; exact e⟩
abbrev Rc := List Int
/-- a record stands at p -/
def RecAt (H : Hp) (p : Addr) (r : Rc) : Prop := H p = some (.tup (r.map V.int))
theorem RecAt.same {H H' : Hp} {p : Addr} {r : Rc} (h : RecAt H p r) (s : Same H H') : RecAt H' p r := s _ _ h
theorem RecAt.ne {H : Hp} {t p : Addr} {r : Rc} (h : RecAt H p r) (T : TapeAt H t) : p ≠ t := by
  obtain ⟨c, k, e⟩ := T
  exact ne_of h e (by intro z; cases z)
theorem RecAt.but {H H' : Hp} {t p : Addr} {r : Rc} (h : RecAt H p r) (T : TapeAt H t) (b : But t H H') : RecAt H' p r := b _ _ (h.ne T) h
/-- the values vs are records rs -/
def Rows (H : Hp) : List V → List Rc → Prop := Paired fun v r => ∃ p, v = V.ref p ∧ RecAt H p r
theorem Rows.imp {H H' : Hp} (f : ∀ p r, RecAt H p r → RecAt H' p r) : ∀ {vs : List V} {rs : List Rc}, Rows H vs rs → Rows H' vs rs
  | _, _, .nil => .nil
  | _, _, .cons ⟨p, e, h⟩ t => .cons ⟨p, e, f _ _ h⟩ (Rows.imp f t)
theorem Rows.same {H H' : Hp} {vs : List V} {rs : List Rc} (h : Rows H vs rs) (s : Same H H') : Rows H' vs rs := h.imp fun _ _ x => x.same s
theorem Rows.but {H H' : Hp} {t : Addr} {vs : List V} {rs : List Rc} (h : Rows H vs rs) (T : TapeAt H t) (b : But t H H') : Rows H' vs rs := h.imp fun _ _ x => x.but T b
theorem Rows.length {H : Hp} : ∀ {vs : List V} {rs : List Rc}, Rows H vs rs → vs.length = rs.length
  | _, _, .nil => rfl
  | _, _, .cons _ t => by rw [List.length_cons, List.length_cons, Rows.length t]
theorem Rows.append {H : Hp} : ∀ {vs ws : List V} {rs ss : List Rc}, Rows H vs rs → Rows H ws ss → Rows H (vs ++ ws) (rs ++ ss)
  | _, _, _, _, .nil, h => h
  | _, _, _, _, .cons a t, h => .cons a (Rows.append t h)
theorem Rows.take {H : Hp} : ∀ {vs : List V} {rs : List Rc} (n : Nat), Rows H vs rs → Rows H (vs.take n) (rs.take n)
  | _, _, 0, _ => .nil
  | _, _, _ + 1, .nil => .nil
  | _, _, n + 1, .cons r t => .cons r (Rows.take n t)
theorem Rows.drop {H : Hp} : ∀ {vs : List V} {rs : List Rc} (n : Nat), Rows H vs rs → Rows H (vs.drop n) (rs.drop n)
  | _, _, 0, r => r
  | _, _, _ + 1, .nil => .nil
  | _, _, n + 1, .cons _ t => Rows.drop n t
theorem Rows.get {H : Hp} : ∀ {vs : List V} {rs : List Rc} {i : Nat} {r : Rc}, Rows H vs rs → rs[i]? = some r → ∃ p, vs[i]? = some (V.ref p) ∧ RecAt H p r
  | _, _, _, _, .nil, e => by simp at e
  | _, _, 0, _, .cons ⟨p, e1, h⟩ _, e => by
    have e' := Option.some.inj e
    subst e' e1
    exact ⟨p, rfl, h⟩
  | _, _, i + 1, r, .cons _ t, e => by
    obtain ⟨p, h1, h2⟩ := Rows.get (i := i) (r := r) t (by simpa using e)
    exact ⟨p, by simpa using h1, h2⟩
theorem Rows.get' {H : Hp} {vs : List V} {rs : List Rc} {i : Nat} {v : V} (h : Rows H vs rs) (e : vs[i]? = some v) : ∃ p r, v = V.ref p ∧ rs[i]? = some r ∧ RecAt H p r := by
  have hl := h.length
  have hi : i < rs.length := by
    have := (List.getElem?_eq_some_iff.mp e).1
    omega
  obtain ⟨p, h1, h2⟩ := h.get (i := i) (r := rs[i]) (by simp [hi])
  rw [h1] at e
  exact ⟨p, rs[i], (Option.some.inj e).symm, by simp [hi], h2⟩
theorem Rows.set {H : Hp} {p : Addr} {r : Rc} (h : RecAt H p r) : ∀ {vs : List V} {rs : List Rc} (i : Nat), Rows H vs rs → Rows H (vs.set i (V.ref p)) (rs.set i r)
  | _, _, _, .nil => .nil
  | _, _, 0, .cons _ t => .cons ⟨p, rfl, h⟩ t
  | _, _, i + 1, .cons q t => .cons q (Rows.set h i t)
/-- a list of records stands at l -/
def RowAt (H : Hp) (l : Addr) (rs : List Rc) : Prop := ∃ vs, H l = some (.lst vs) ∧ Rows H vs rs
theorem RowAt.same {H H' : Hp} {l : Addr} {rs : List Rc} (h : RowAt H l rs) (s : Same H H') : RowAt H' l rs := by
  obtain ⟨vs, e, R⟩ := h
  exact ⟨vs, s _ _ e, R.same s⟩
theorem RowAt.but {H H' : Hp} {l t : Addr} {rs : List Rc} (h : RowAt H l rs) (n : l ≠ t) (T : TapeAt H t) (b : But t H H') : RowAt H' l rs := by
  obtain ⟨vs, e, R⟩ := h
  exact ⟨vs, b _ _ n e, R.but T b⟩
/-! ## rules whose reading names K itself (within a comprehension) -/
theorem ix_listK {X : Cx} (K : PySem.W.Frag) (h : X.K = K := by rfl) : IxR X (rIxL K) := by
  subst h
  exact ix_list
theorem ix_tupK {X : Cx} (K : PySem.W.Frag) (h : X.K = K := by rfl) : IxR X (rIxT K) := by
  subst h
  exact ix_tup
theorem call_lenK {X : Cx} (K : PySem.W.Frag) (h : X.K = K := by rfl) : CallR X (.builtin "len") (fun xs H Q => ∃ p ys, xs = [.ref p] ∧ (SqL K H p ys ∨ SqT K H p ys) ∧ Q (.int ys.length) H) := by
  subst h
  exact call_len_seq
end K42
/-! # The program's own errors: their making says super().__init__(a text), then stores one field -/
namespace K42X
open PySem PySem.W PySem.Calls PyProof.Rows PySem.HandSPX
open L2 (defArgs defBody defScope inClass)
/-- the __init__ of BadRecord, of BadPlace -/
def sI : Bool → Stmt
  | true => inClass (K42.top 3) 0
  | false => inClass (K42.top 6) 0
def fN : Bool → Str
  | true => "record"
  | false => "place"
/-- what the written part says of such a class, at C, and of its __init__, at fI -/
structure SupTxt (P : Program) (K : Frag) (mg : Str → Option Value) (x : Str) (C fI : Addr) (b : Bool) : Prop where
  gC : mg x = some (.ref C)
  cls : ∃ nm q N bs bm sn sub ab col dd k0 k1 k2 k3 k5, K.lookup C = some (excClassObj nm q C N bs bm true sn sub ab col dd k0 k1 k2 k3 k5 "ValueError.__new__") ∧ refsVE bm = true
  sa : findIn K (.ref C) "__setattr__" = some (some (.builtin "object.__setattr__"))
  ga : findIn K (.ref C) "__getattribute__" = some (some (.builtin "BaseException.__getattribute__"))
  gg : findIn K (.ref C) "__getattr__" = some none
  noN : findIn K (.ref C) (fN b) = some none
  iC : findIn K (.ref C) "__init__" = some (some (.ref fI))
  tC : typeIn K (.ref fI) = some (.type "function")
  kC : keepIn K (.ref C) = true
  exC : subIn K (.ref C) (.type "BaseException") = some true
  veC : subIn K (.ref C) (.type "ValueError") = some true
  tyC : typeIn K (.ref C) = some (.type "type")
  hdC : hasDictIn K C = true
  slf : mroIn K C (.ref C) = some true
  sup : ks_superIn K C C "__init__" = some (some (.builtin "ValueError.__init__"))
  gS : mg "super" = none
  th : nsIn K cStatics "thirdparty.any" = some none
  fn : ∃ (oc : Value) (od : Option Addr) (doc pm : Value) (an : Option Addr) (cda : Addr) (ct : Value) (cc : Addr) (osl : Array (Option Value)) (qual : Str)
      (ccl cl : Value) (cdd cld : Option Addr) (vs : Array Value) (ccs csl : Array (Option Value)) (file : Str) (tf : Tok),
    K.lookup fI = some ⟨oc, od, .func (ksFn "__init__" qual (defArgs (sI b)) (defBody (sI b)) (defScope (sI b)) .none .none doc pm an (.ref cda) ct cc), osl⟩ ∧ codeIn K (.ref cda) qual = true ∧
    K.lookup cda = some ⟨ccl, cdd, .fields vs, ccs⟩ ∧ vs[2]? = some (.str file tf) ∧ ((P.main.file : Str) == file) = true ∧ K.lookup cc = some ⟨cl, cld, .cell (some (.ref C)), csl⟩
  ftop : (P.main.scope.names.lookup ("super" : Str)).isSome = false
/-- a made one -/
structure OwnMade (h h' : Heap) (e C d : Addr) (f : Str) (v : Value) : Prop where
  keep : ∀ b o, h.get? b = some o → h'.get? b = some o
  new : h.objs.size ≤ e
  obj : ∃ t, h'.get? e = some { cls := .ref C, dict := some d, data := .fields #[.ref t, .none, .none, .none, .bool false, .none] }
  dbig : h.objs.size ≤ d
  dne : d ≠ e
  ns : h'.Ns1 d (fun y => if y = f then some v else none)
/-- what __init__ leaves of a fresh exception at x -/
structure InitEnd (h h' : Heap) (x C dx : Addr) (f : Str) (v : Value) : Prop where
  keep : ∀ b o, b ≠ x → h.get? b = some o → h'.get? b = some o
  obj : ∃ t, h'.get? x = some { cls := .ref C, dict := some dx, data := .fields #[.ref t, .none, .none, .none, .bool false, .none] }
  dbig : h.objs.size ≤ dx
  dne : dx ≠ x
  ns : h'.Ns1 dx (fun y => if y = f then some v else none)
section
variable {prog : Program} {w : World} {A : Around} {E : Value → Shared → Prop} {h : Heap} {g : Array GenState} {d : Drawn} {tk : Nat} {os : OsState}
/-- the bound ValueError.__init__ called -/
theorem call_mw {nm q : Str} {C N : Addr} {bs bm : List Value} {hdct : Bool} {sn : List Str} {sub : List Value} {ab : Bool} {col : Option Bool} {dd : Option Addr} {k0 k1 k2 k3 k5 : Option Value} {u x t : Addr} {rest : List Value} {Q : Value → Shared → Prop}
    (hC : h.get? C = some (excClassObj nm q C N bs bm hdct sn sub ab col dd k0 k1 k2 k3 k5 "ValueError.__new__")) (hx : h.get? x = some (excO C t)) (hu : h.get? u = some (kxs_mw "ValueError.__init__" x)) (hz : rest.length ≤ sizeLine)
    (hq : ∀ h' t', (∀ b o, b ≠ x → h.get? b = some o → h'.get? b = some o) → h'.get? x = some (excO C t') → Q .none ⟨h', g, d, tk, os⟩) : wpAny (model prog w) A (call (.ref u) rest) Q E ⟨h, g, d, tk, os⟩ := by
  refine wpAny_call (codeAny_of_tree ?_)
  show wpAny _ A.in1 (callAny (.ref u) ⟨rest, []⟩) _ _ _
  simp only [callAny]
  refine wpAny_bind (wpAny_load hu ?_)
  simp only [kxs_mw, show (Value.type "method-wrapper" == Value.type "method" || Value.type "method-wrapper" == Value.type "builtin_function_or_method" || Value.type "method-wrapper" == Value.type "method-wrapper") = true by decide, if_true]
  refine KFB.if_so (by decide) ?_
  refine wpAny_bind (check_bound_init F.excBase_ValueError.toExcCallFacts hC hx rfl ?_)
  refine wpAny_bind (wpAny_pure (wpAny_pure ?_))
  refine ⟨plainId_quiet F.excBase_ValueError.init.plain _, codeAny_builtin F.excBase_ValueError.initEntry ?_⟩
  exact exc_init_tree (cls := .ref C) (t0 := t) (dv := none) (c2 := .none) (c3 := .none) (b4 := .bool false) hx hz fun h' k e t' => hq h' _ k e
end
section
variable {prog : Program} {w : World} {M : Model} {A : Around} {E : Value → Shared → Prop} {s : Shared}
theorem callWith_mw {pos : Pos} {env : Env} {u x : Addr} {e : Expr} {rest : List Expr} {Q : Value → Shared → Prop}
    (h : wpAny M A (spliced (backTo pos (starEach (e :: rest) env))) (fun vs s₁ => KxsAt "ValueError.__init__" u x s₁.heap ∧ wpAny M A (call (.ref u) vs) Q E s₁) E s)
    (he : starEach (e :: rest) env = (false, eval e env) :: starEach rest env := by rfl) (hplain : (backTo pos (starEach rest env)).any (·.1) = false := by rfl) :
    wpAny M A (callWith pos (.ref u) [] (backTo pos (starEach (e :: rest) env)) []) Q E s := by
  rw [he] at h ⊢
  refine kxs_callWith (i := "ValueError.__init__") (x := x) (by show (false || (backTo pos (starEach rest env)).any (·.1)) = false; rw [hplain]; rfl) ?_
  exact evalArgs_plain h
end
section
variable {prog : Program} {w : World} {A : Around} {E : Value → Shared → Prop} {s : Shared}
theorem callWith_mw1 {pos p : Pos} {env : Env} {u x : Addr} {m : Str} {j : Nat} {Q : Value → Shared → Prop} (hu : s.heap.get? u = some (kxs_mw "ValueError.__init__" x))
    (h : ∀ t t', wpAny (model prog w) A (call (.ref u) [.str m t]) Q E { s with toks := t' }) :
    wpAny (model prog w) A (callWith pos (.ref u) [] (backTo pos (starEach [.Constant (.str m) j p] env)) []) Q E s := by
  refine callWith_mw (x := x) ?_
  show wpAny _ _ (spliced ((false, eval (.Constant (.str m) j p) env) :: backTo pos (starEach [] env))) _ _ _
  refine Calls.spliced_cons (Calls.Constant_str (k := j) (pos := p) ?_)
  exact Calls.spliced_nil ⟨hu, h _ _⟩
end
section
variable {prog : Program} {w : World} {A : Around} {E : Value → Shared → Prop} {R : Result → Shared → Prop} {s : Shared} {K : Frag} {mg mb : Str → Option Value} {x : Str} {C fI : Addr} {b : Bool}
theorem sup_init (T : SupTxt prog K mg x C fI b) {a t0 : Addr} {v : Value} (X : K.In s.heap) (G : s.heap.Ns mainGlobals mg) (Gb : s.heap.Ns builtinsNs mb) (hb : ∀ x : Str, x ≠ "__name__" → mb x = bootBuiltins x) (hlim : s.heap.NoLimit) (ha : s.heap.get? a = some (excO C t0)) (haC : a ≠ C) (hnx : K.lookup a = none)
    (hroom : A.depth < recursionLimit) (hq : ∀ h' tk dx, InitEnd s.heap h' a C dx (fN b) v → R (.ok (.ret .none)) { s with heap := h', toks := tk }) :
    codeAny (model prog w) A (.call (.ref fI) ⟨[.ref a, v], []⟩) R s := by
  obtain ⟨oc, od, doc, pm, an, cda, ct, cc, osl, qual, ccl, cl, cdd, cld, vs, ccs, csl, file, tf, ho, hcd, hcode, hvs, hfile, hcell⟩ := T.fn
  obtain ⟨nm, q, N, bs, bm, sn, sub, ab, col, dd, k0, k1, k2, k3, k5, hC, hbm⟩ := T.cls
  have hcl : clsIn K C = some { name := nm, bases := bs, mro := .ref C :: bm, ns := N, qualname := q, hasDict := true, slotNames := sn, subclasses := sub, abstract := ab, collection := col, hasDel := false } := by unfold clsIn; rw [hC] <;> rfl
  have sup := T.sup
  unfold ks_superIn at sup
  rw [hcl] at sup
  refine ks_codeAny_call_defAt (fd := ksFn "__init__" qual (defArgs (sI b)) (defBody (sI b)) (defScope (sI b)) .none .none doc pm an (.ref cda) ct cc) (body := defBody (sI b)) (binds := [("self", .ref a), (fN b, v)])
    hroom (X _ _ ho) rfl hlim (codeRec_of X hcd) rfl (BindsTo.of_eq ?_) ?_ ?_ (fun h₁ hn k₁ => ?_) (by cases b <;> rfl) (by cases b <;> rfl) (by cases b <;> rfl)
  · cases b <;> rfl
  · exact (by decide +kernel : ∀ b, ∀ y ∈ (defScope (sI b)).names, y.2 ≠ NameKind.cell) b
  · intro y hy
    rcases List.mem_cons.mp hy with e | hy
    · subst e
      cases b <;> rfl
    · have e := List.mem_singleton.mp hy
      subst e
      cases b <;> rfl
  · obtain ⟨hh, g, d, tk, os⟩ := s
    have X₁ : K.In h₁ := X.keeps k₁
    have ha₁ := k₁ _ _ ha
    have hC₁ := X₁ _ _ hC
    have aL : hh.objs.size ≠ a := Nat.ne_of_gt (Heap.lt_size ha)
    have nob := T.noN
    cases b
    all_goals
      refine ks_wpAt_execs_cons (ks_wpAt_Expr_any (ks_wpAt_MethodCall ?_))
      refine ks_wpAt_super_base rfl rfl (by decide) rfl (X₁ _ _ ho) rfl rfl rfl (X₁ _ _ hcode) rfl hvs hfile T.ftop ?_
      refine ks_loadName_global rfl rfl (loadGlobal_builtin (G.keeps k₁) T.gS (Gb.keeps k₁) ((hb _ (by decide)).trans (by decide +kernel)) ⟨rfl, ?_⟩)
      refine wpAny_loadName_free rfl rfl rfl ⟨_, X₁ _ _ hcell, rfl⟩ ?_
      refine wpAny_loadName_local rfl rfl hn (by rfl) ?_
      refine ks_wpAny_isType_cls hC₁ rfl ⟨rfl, ?_⟩
      refine ks_wpAny_call_super hC₁ rfl ha₁ rfl (fun c e => by cases e) (looks_mroIn X₁ T.slf) (fun h₂ e₂ k₂ => ?_)
      have X₂ : K.In h₂ := X₁.keeps k₂
      have ha₂ := k₂ _ _ ha₁
      have hC₂ := X₂ _ _ hC
      have I₂ : InstAt h₂ a (excO C t0) C none := ⟨ha₂, rfl, rfl, trivial⟩
      refine kxs_getMethod kxs_ValueError e₂ (looks_opaque X₂ T.th) (fun A Q E s k q => wpAny_bind ((looks_clsIn X₂ hcl) A _ E s k (wpAny_pure q))) rfl X₂ sup (I₂.type.andThen (looks_subIn X₂ T.veC)) haC (by decide) ?_
      have hu : (h₂.push (kxs_mw "ValueError.__init__" a)).get? h₂.objs.size = some (kxs_mw "ValueError.__init__" a) := Heap.get?_push_size _ rfl
      have k₃ : ∀ b o, h₂.get? b = some o → (h₂.push (kxs_mw "ValueError.__init__" a)).get? b = some o := fun b o e => Heap.get?_push_of_some _ e
      refine callWith_mw1 (x := a) hu (fun t5 t6 => ?_)
      refine call_mw (x := a) (k₃ _ _ hC₂) (k₃ _ _ ha₂) hu (by show 1 ≤ sizeLine; rw [sizeLine_eq]; omega) (fun h₄ t7 k₄ ha₄ => ?_)
      have old : ∀ b o, b ≠ a → h₁.get? b = some o → h₄.get? b = some o := fun b o hb e => k₄ b o hb (k₃ b o (k₂ b o e))
      have hn₄ : h₄.Ns hh.objs.size _ := hn.at fun o e => old _ _ aL e
      have X₄ : K.In h₄ := fun b o e => old b o (fun z => by rw [z, hnx] at e; cases e) (X₁ b o e)
      show PySem.wpAt _ _ _ _ _ _ _
      refine wpAt_of_wpAny (wpAny_execs_cons (plainObj_wpAny_Assign_Attribute ?_))
      refine wpAny_Name (wpAny_loadName_local rfl rfl hn₄ (by rfl) ?_) (by decide)
      refine wpAny_Name (wpAny_loadName_local rfl rfl hn₄ (by rfl) ?_) (by decide)
      refine set_plain X₄ (ox := excO C t7) (od := none) ⟨ha₄, rfl, rfl, trivial⟩ T.sa ?_
      refine exc_osa X₄ ha₄ hcl (show refsVE (.ref C :: bm) = true from hbm) rfl nob (fun h₅ tk₅ dx k₅ dn dne hx₅ hn₅ => ?_)
      have z1 : hh.objs.size ≤ h₄.objs.size := Nat.le_of_lt hn₄.lt
      show wpAny _ _ (execs [] _) _ _ _
      exact wpAny_execs_nil (hq h₅ _ dx ⟨fun b o hb e => k₅ b o hb (old b o hb (k₁ b o e)), ⟨_, hx₅⟩, Nat.le_trans z1 dn, dne, hn₅⟩)
theorem sup_made (T : SupTxt prog K mg x C fI b) {v : Value} (X : K.In s.heap) (G : s.heap.Ns mainGlobals mg) (Gb : s.heap.Ns builtinsNs mb) (hb : ∀ x : Str, x ≠ "__name__" → mb x = bootBuiltins x) (hlim : s.heap.NoLimit) (hroom : A.depth + 1 < recursionLimit)
    (hq : ∀ h' tk e d, OwnMade s.heap h' e C d (fN b) v → R (.ok (.ret (.ref e))) { s with heap := h', toks := tk }) :
    codeAny (model prog w) A (.call (.ref C) ⟨[v], []⟩) R s := by
  obtain ⟨nm, q, N, bs, bm, sn, sub, ab, col, dd, k0, k1, k2, k3, k5, hC, hbm⟩ := T.cls
  obtain ⟨hp, g, dr, tk, os⟩ := s
  have k : ∀ b o, hp.get? b = some o → ((hp.push (kdv_tup [v])).push (excO C hp.objs.size)).get? b = some o := fun b o e => Heap.get?_push_of_some _ (Heap.get?_push_of_some _ e)
  have hget : ((hp.push (kdv_tup [v])).push (excO C hp.objs.size)).get? (hp.objs.size + 1) = some (excO C hp.objs.size) := by heap_get
  have hnone : ∀ a, hp.objs.size ≤ a → hp.get? a = none := fun a h => by
    cases e : hp.get? a with
    | none => rfl
    | some o => exact absurd (Nat.lt_of_lt_of_le (Heap.lt_size e) h) (Nat.lt_irrefl _)
  have hnx : K.lookup (hp.objs.size + 1) = none := by
    cases e : K.lookup (hp.objs.size + 1) with
    | none => rfl
    | some o =>
      have z : hp.get? (hp.objs.size + 1) = some o := X _ _ e
      rw [hnone _ (Nat.le_succ _)] at z
      cases z
  have haC : hp.objs.size + 1 ≠ C := fun z => by rw [z, hC] at hnx; cases hnx
  refine call_own F.excBase_ValueError (fun X => refsVE_contains X bm hbm) (X _ _ hC) (looks_findIn X T.iC) (fun self => bind_fn X self T.tC) (by show 1 ≤ sizeLine; rw [sizeLine_eq]; omega) ?_
  refine sup_init (s := ⟨(hp.push (kdv_tup [v])).push (excO C hp.objs.size), g, dr, tk, os⟩) T (X.keeps k) (G.keeps k) (Gb.keeps k) hb (hlim.keeps k) hget haC hnx ?_ fun h' tk' dx ⟨k', hx, dn, dne, hns⟩ => ?_
  · show A.depth + 1 < recursionLimit
    exact hroom
  · have old : ∀ b o, hp.get? b = some o → h'.get? b = some o := fun b o e => k' b o (Nat.ne_of_lt (Nat.lt_succ_of_lt (Heap.lt_size e))) (k b o e)
    have z : hp.objs.size + 1 + 1 ≤ dx := by
      first
        | (simpa only [Heap.size_push] using dn)
        | exact dn
        | (have q := dn; rw [Heap.size_push, Heap.size_push] at q; exact q)
    exact ⟨rfl, hq h' tk' (hp.objs.size + 1) dx ⟨old, Nat.le_succ _, hx, Nat.le_trans (Nat.le_trans (Nat.le_succ _) (Nat.le_succ _)) z, dne, hns⟩⟩
end
end K42X
/-! # The own errors over the layer: made, asked by isinstance, read -/
namespace K42
open PySem L2 PyProof.Rows
open K42X (SupTxt fN)
theorem relO_one {v : V} {v' : Value} {g : Str} (r : RelV v v') (f : Str) : RelO (List.lookup f [(g, v)]) (if f = g then some v' else none) := by
  by_cases hw : f = g
  · subst hw
    rw [if_pos rfl]
    have q : List.lookup f [(f, v)] = some v := by simp [List.lookup]
    rw [q]
    exact r
  · rw [if_neg hw]
    have qw : (f == g) = false := by simpa using hw
    have q2 : List.lookup f [(g, v)] = none := by simp [List.lookup, qw]
    rw [q2]
    trivial
section
variable {X : Cx} {x : Str} {C fI : Addr} {b : Bool}
/-- C(e) -/
def tSup (C : Addr) (f : Str) (ta : TA) : L2.St → Hp → XK → Prop := fun σ H Q => ta σ H fun vs H1 => ∃ v, vs = [v] ∧ ∀ d, H1 d = none → Q (.ref C) (some d) (upd H1 d (.xd [(f, v)]))
theorem pmk_sup {a : Expr} {ta : TA} {p pos : Pos} {k : Nat} (T : SupTxt X.prog X.K X.mg x C fI b) (hr : Room k X.A) (ha : PA X [a] ta) (hg : Gl X x := by rfl) (hdb : (x == ("__debug__" : Str)) = false := by decide)
    (he : starEach (a :: []) X.env = (false, eval a X.env) :: starEach [] X.env := by rfl) (hpl : (backTo pos (starEach [] X.env)).any (·.1) = false := by rfl) :
    L2N.PMk X (.Call (.Name x p) [a] [] pos) (tSup C (fN b) ta) := by
  intro pins s σ H Q I h
  refine wpAny_Call_Name_kw (ld_glob I hg T.gC ?_ hdb)
  refine PySem.W.callWith_K (h₀ := X.base) I.ok.mod.kin T.kC (thn (ha.run pos pins s σ H _ I h) fun us s1 hh => ?_) he hpl
  obtain ⟨vs, H1, I1, r1, v, ev, q1⟩ := hh
  subst ev
  refine ⟨I1.kIn, ?_⟩
  cases r1 with
  | cons rv rn =>
    rename_i v' us'
    cases rn
    show wpAny _ _ (call (.ref C) [v']) _ _ _
    have hlim := I1.nolimit
    obtain ⟨mb, gb1, gb2⟩ := I1.mod.blt
    have bk := I1.bk
    obtain ⟨hp, g, dr, tk, os⟩ := s1
    refine wpAny_call (K42X.sup_made T I1.kIn (I1.mod.glob.keeps bk) (gb1.keeps bk) gb2 hlim (by have := hr.dp; omega) fun h' tk' e d M => ?_)
    obtain ⟨t, hoe⟩ := M.obj
    have hns := M.ns
    obtain ⟨G', g1, g2⟩ := restrict h' fun b => decide (b ≠ e)
    have gk : ∀ b, b ≠ e → G'.get? b = h'.get? b := fun b hb => g1 b (decide_eq_true hb)
    have ge : G'.get? e = none := g2 e (by simp)
    have old : ∀ b o, hp.get? b = some o → G'.get? b = some o := fun b o q => (gk b (Nat.ne_of_lt (Nat.lt_of_lt_of_le (Heap.lt_size q) M.new))).trans (M.keep b o q)
    have ob : ObjOk X.prog X.w (upd H1 d (.xd [(fN b, v)])) G' d (.xd [(fN b, v)]) :=
      ⟨_, hns.at (fun o q => (gk d M.dne).trans q), fun f => relO_one rv f⟩
    have J : Inv X pins σ (upd H1 d (.xd [(fN b, v)])) ⟨G', g, dr, tk', os⟩ := I1.laid (t' := tk') old M.dbig ob
    refine ⟨e, _, _, ⟨G', g, dr, tk', os⟩, _, .ref C, some d, rfl, J, fun b o q => ?_, ge, hoe, ⟨rfl, rfl, fun vs ev => by cases ev; rfl⟩, rfl, rfl, ?_, rfl, I1.bare, raises_own T.exC T.tyC, q1 d (I1.hok.fresh M.dbig)⟩
    · by_cases hb : b = e
      · have q' : G'.get? b = some o := q
        rw [hb, ge] at q'; cases q'
      · exact (gk b hb).symm.trans q
    · rw [upd_ne (Ne.symm M.dne)]
      exact I1.hok.fresh M.new
/-- raise C(e) -/
theorem ps_raiseSup {a : Expr} {W : WX} {ta : TA} {p pos pos2 : Pos} {k : Nat} (hc : X.calm = true) (T : SupTxt X.prog X.K X.mg x C fI b) (hr : Room k X.A) (tk : L2N.Takes X W) (ha : PA X [a] ta) (hg : Gl X x := by rfl) (hdb : (x == ("__debug__" : Str)) = false := by decide)
    (he : starEach (a :: []) X.env = (false, eval a X.env) :: starEach [] X.env := by rfl) (hpl : (backTo pos (starEach [] X.env)).any (·.1) = false := by rfl) :
    PS X (.Raise (some (.Call (.Name x p) [a] [] pos)) none pos2) (fun _ σ H => tSup C (fN b) ta σ H fun cls d H' => W cls d σ H') := L2N.ps_raise hc tk (pmk_sup T hr ha hg hdb he hpl)
end
/-! ## isinstance(e, ..), e the exception that the suite holds -/
/-- what the written part says of an own error class, so that isinstance asks its instances rightly -/
structure IsE (K : PySem.W.Frag) (D : Addr) : Prop where
  hc : (PySem.W.clsIn K D).isSome = true
  hg : PySem.W.findIn K (.ref D) "__getattribute__" = some (some (.builtin "BaseException.__getattribute__"))
  hk : PySem.W.findIn K (.ref D) "__getattr__" = some none
  hs : PySem.W.subIn K (.ref D) (.type "BaseException") = some true
  ha : PySem.W.findIn K (.ref D) "__class__" = some (some (.builtin "object.__class__"))
  hn : PySem.W.specialIn K (.builtin "object.__class__") "__get__" = some (some (.builtin "getset_descriptor.__get__"))
  ht : PySem.W.takesIn K (.builtin "object.__class__") = some true
  hm : PySem.W.mroIn K D (.type "object") = some true
section
variable {X : Cx} {pins : List (Addr × Obj)} {σ : L2.St} {H : Hp} {s : Shared}
/-- the object of the exception, with its dict or without -/
theorem inst_of {a D : Addr} {d : Option Addr} {oe : Obj} {pn : List (Addr × Obj)} (hz : Zc (.ref D) d oe) (hf : ∃ vs, oe.data = .fields vs) (I : Inv (X.suite a ((a, oe) :: pn)) pins σ H s) (hd : ∀ dd, d = some dd → ∃ fs, H dd = some (.xd fs)) :
    ∃ od, PySem.W.InstAt s.heap a oe D od := by
  obtain ⟨hget, _⟩ := I.pin (a, oe) (List.mem_append.mpr (.inl List.mem_cons_self))
  obtain ⟨vs, hv⟩ := hf
  cases d with
  | none => exact ⟨none, hget, hz.1, by unfold PySem.W.notCls; rw [hv] <;> rfl, by rw [hz.2]; trivial⟩
  | some dd =>
    obtain ⟨fs, e⟩ := hd dd rfl
    have hx : ObjOk (X.suite a ((a, oe) :: pn)).prog (X.suite a ((a, oe) :: pn)).w H s.heap dd (.xd fs) := I.hok dd _ e
    obtain ⟨mA, hns, hr⟩ := hx
    obtain ⟨od, ho, hl⟩ := lookIn_ns hns
    exact ⟨some od, hget, hz.1, by unfold PySem.W.notCls; rw [hv] <;> rfl, by rw [hz.2]; exact ho⟩
end
/-- isinstance(e, c) -/
def rIsE1 (K : PySem.W.Frag) (D a : Addr) (d : Option Addr) : List V → Hp → VK → Prop := fun xs H Q => ∃ (c : V) (cv : Value) (r : Bool), xs = [.ref a, c] ∧ ClsV c cv ∧ (∀ dd, d = some dd → ∃ fs, H dd = some (.xd fs)) ∧ PySem.W.kitOne K (.ref D) cv = some r ∧ Q (.bl r) H
/-- isinstance(e, (c1, c2, ..)) -/
def rIsET (K : PySem.W.Frag) (D a : Addr) (d : Option Addr) : List V → Hp → VK → Prop := fun xs H Q => ∃ (tp : Addr) (cs : List V) (us : List Value) (r : Bool), xs = [.ref a, .ref tp] ∧ H tp = some (.tup cs) ∧ Paired ClsV cs us ∧ (∀ dd, d = some dd → ∃ fs, H dd = some (.xd fs)) ∧ PySem.W.kitAny K (.ref D) us = some r ∧ Q (.bl r) H
section
variable {X : Cx} {a D : Addr} {d : Option Addr} {oe : Obj} {pn : List (Addr × Obj)}
theorem call_isE1 (C : IsE X.K D) (hz : Zc (.ref D) d oe) (hf : ∃ vs, oe.data = .fields vs) : CallR (X.suite a ((a, oe) :: pn)) (.builtin "isinstance") (rIsE1 X.K D a d) := by
  intro pins s σ H xs us Q I r h
  obtain ⟨c, cv, b, rfl, k, hd, e, q⟩ := h
  obtain ⟨u1, u2, rfl, r1, r2⟩ := vals2 r
  obtain rfl : u1 = Value.ref a := r1
  have e2 := k.eq r2
  subst e2
  obtain ⟨od, J⟩ := inst_of hz hf I hd
  exact PySem.W.kia_one (PySem.W.kitx_exc C.hc C.hg C.hk C.hs C.ha C.hn C.ht C.hm) I.kIn J e (fun z => nomatch z) fun tk => ⟨.bl b, H, I.tok tk, rfl, q⟩
theorem call_isET (C : IsE X.K D) (hz : Zc (.ref D) d oe) (hf : ∃ vs, oe.data = .fields vs) : CallR (X.suite a ((a, oe) :: pn)) (.builtin "isinstance") (rIsET X.K D a d) := by
  intro pins s σ H xs us Q I r h
  obtain ⟨tp, cs, ws, b, rfl, hT, k, hd, e, q⟩ := h
  obtain ⟨u1, u2, rfl, r1, r2⟩ := vals2 r
  obtain rfl : u1 = Value.ref a := r1
  cases (show u2 = Value.ref tp from r2)
  obtain ⟨od, J⟩ := inst_of hz hf I hd
  obtain ⟨_, its, rv, o, h1, h2, n, h3⟩ := (show ObjOk X.prog X.w H s.heap tp (.tup cs) from I.hok tp _ hT)
  have e3 := ClsV.all k rv
  subst e3
  obtain ⟨oc, od2, dt, sl⟩ := o
  simp only at h2 h3
  subst h2 h3
  exact PySem.W.kia_tup (PySem.W.kitx_exc C.hc C.hg C.hk C.hs C.ha C.hn C.ht C.hm) I.kIn J h1 e (fun z => nomatch z) fun tk => ⟨.bl b, H, I.tok tk, rfl, q⟩
end
end K42
/-! # A loop over a tuple where an exception is handled; _law_is_integer, _law_is_record there -/
namespace K42
open PySem HotX
section
variable {prog : Program} {w : World} {A : Around} {E : Value → Shared → Prop} {s : Shared}
theorem tuple_end_hot {it t x1 : Addr} {i : Nat} {items : Array Value} {Q : Option Value → Shared → Prop} (hot : HotAt A x1 s.heap) (hx1 : x1 ≠ it)
    (hit : s.heap.IsTupleIter it t i) (ht : s.heap.IsTuple t items) (hx : items[i]? = none)
    (hQ : ∀ h', (∀ b o, b ≠ it → s.heap.get? b = some o → h'.get? b = some o) → Q none { s with heap := h' }) : wpAny (model prog w) A (pyNext (.ref it)) Q E s := by
  obtain ⟨o, ho, hc, hd⟩ := id hit
  obtain ⟨ol, hol, _, nl, hdl⟩ := ht
  obtain ⟨hh, o1, vs1, h1, d1, c1⟩ := hot
  unfold pyNext
  refine wpAny_bind (wpAny_attempt (wpAny_callSpecial?_slot (name := Str.ofString "__next__") hit.typeIs F.slot_tuple_iterator_next
    (wpAny_call_entry F.slot_tuple_iterator_next hit.typeIs F.entry_tuple_iterator_next ?_ (F.args_tuple_iterator_next_1 _))))
  show wpAny _ _ (field (.ref it) 0 >>= _) _ _ s
  refine wpAny_bind (wpAny_field ho hd (x := .ref t) rfl ?_)
  show wpAny _ _ (if (Value.ref t == Value.none) = true then _ else _) _ _ s
  rw [if_neg (show ¬ ((Value.ref t == Value.none) = true) from Bool.false_ne_true)]
  show wpAny _ _ (field (.ref it) 1 >>= _) _ _ s
  refine wpAny_bind (wpAny_field ho hd (x := .int i 0) rfl ?_)
  show wpAny _ _ (seqItems? (.ref t) >>= _) _ _ s
  refine wpAny_bind (wpAny_seqItems hol hdl ?_)
  simp only [Int.toNat_natCast, hx]
  refine wpAny_bind (wpAny_rule (wpAny_bind (wpAny_setField ho hd (by simp) ?_)))
  show wpAny _ _ (newExc (.type "StopIteration") [] >>= _) _ _ _
  refine wpAny_bind ?_
  simp only [newExc, newTuple]
  refine wpAny_bind (wpAny_newObj_type ?_ (by size_fits))
  refine wpAny_bind (m := firstArgMember _ _) (wpAny_of_eq (a := Value.none) (by first | rfl | (simp only [firstArgMember]; rfl)) ?_)
  refine wpAny_newObj_type ?_ (by size_fits)
  have up : ∀ b u, b ≠ it → s.heap.get? b = some u → (s.heap.update it (Obj.mapFields (·.setIfInBounds 0 .none))).get? b = some u := fun b u hb e => by
    rw [Heap.get?_update_other _ _ (Ne.symm hb)]
    exact e
  have h1' := up _ _ hx1 h1
  refine raiseNew_hot ⟨hh, o1, vs1, Heap.get?_push_of_some _ (Heap.get?_push_of_some _ h1'), d1, c1⟩ (Nat.ne_of_lt (Heap.lt_size (Heap.get?_push_of_some _ h1'))) (Heap.get?_push_size _ rfl) rfl (by first | (simp; done) | (simp; omega) | (simp only [Array.size_append]; simp; omega)) ?_
  refine wpAny_bind (wpAny_isInstance (T := "StopIteration") (b := true) ⟨_, Heap.get?_update_self _ (Heap.get?_push_size _ rfl) rfl, rfl⟩ isSubtype_stop ?_)
  refine wpAny_pure (hQ _ fun b u hb e => ?_)
  rw [Heap.get?_update_other _ _ (Nat.ne_of_gt (Heap.lt_size (Heap.get?_push_of_some _ (up b u hb e))))]
  exact Heap.get?_push_of_some _ (Heap.get?_push_of_some _ (up b u hb e))
end
open L2 L2H PyProof.Rows
theorem turn_tupH {P : Program} {w : World} {K : PySem.W.Frag} {tg : Expr} (a it : Addr) : TurnH P w K tg (Itt K a) [it] it (fun i h => h.IsTupleIter it a i) where
  mem := by simp
  obj := fun i h st b hb => by
    have e : b = it := by simpa using hb
    subst e
    obtain ⟨o, e, c, d⟩ := st
    exact ⟨o, e, fun v z => by rw [d] at z; cases z⟩
  keep := fun i h h' st k => st.at fun o e => k it (by simp) o e
  item := by
    intro X hP hw hK hc i pins s σ H E I hf st hg
    subst hP hw hK
    obtain ⟨xs, x, hq, hx⟩ := hg
    obtain ⟨its, rv, p, hz⟩ := I.tuple hq
    obtain ⟨u, hu, ru⟩ := rv.get hx
    obtain ⟨f0, f1, f2, f3, f4, f5⟩ := hf it (by simp)
    refine wpAny_pyNext_tuple_item st (show s.heap.IsTuple a its.toArray from p) (x := u) (by simpa using hu) fun h' st' sb => ?_
    have I1 : Inv X pins σ H { s with heap := h' } := I.turned (t' := s.toks) (fun b o hb e => (sb.2 b hb).trans e) f0 f1 f3 f4 f5
    obtain ⟨o, e, c, d⟩ := id st'
    exact ⟨u, rfl, go_of (s := { s with heap := h' }) e c d (by decide) ⟨x, H, I1, ru, ⟨rfl, fun ys hy => by rw [I.tuple_inj hy hq]; exact hx⟩, st', fun b hb => (hf b hb).1⟩⟩
  done := by
    intro X hP hw hK hc i pins s σ H E I hf st hg
    subst hP hw hK
    obtain ⟨xs, hq, hx⟩ := hg
    obtain ⟨its, rv, p, hz⟩ := I.tuple hq
    obtain ⟨f0, f1, f2, f3, f4, f5⟩ := hf it (by simp)
    have hl := rv.length
    obtain ⟨y, ⟨hh, v1, e1, c1⟩, hp⟩ := hc
    have hy := (I.pin y (List.mem_append_left _ hp)).1
    exact tuple_end_hot ⟨hh, y.2, v1, hy, e1, c1⟩ (f5 y (List.mem_append_left _ hp)) st (show s.heap.IsTuple a its.toArray from p) (by simp; omega) fun h' eb => ⟨rfl, I.turned (t' := s.toks) eb f0 f1 f3 f4 f5⟩
  self := fun _ _ _ _ _ st h => wpAny_pyIter_tupleiter st h
theorem pi_tupH {X : Cx} {tg l : Expr} {tl : TE} (hl : PE X l tl) : PIH X tg l (iTup X.K tl) := by
  refine ⟨fun pins s σ H R I h => ?_⟩
  refine thn (hl.run pins s σ H _ I h) fun v s1 ⟨x, H1, I1, r1, q1⟩ => ?_
  obtain ⟨a, e, ⟨xs, hq⟩, q⟩ := q1
  subst e
  cases r1
  obtain ⟨its, rv, p, hz⟩ := I1.tuple hq
  refine wpAny_pyIter_tuple (show s1.heap.IsTuple a its.toArray from p) ?_
  refine ⟨s1.heap.objs.size, [s1.heap.objs.size], _, _, H1, rfl, I1.kept (t' := s1.toks) fun b o e => Heap.get?_push_of_some _ e, turn_tupH a _, ⟨_, Heap.get?_push_size _ rfl, rfl, rfl⟩, fun b hb => ?_, q⟩
  have e : b = s1.heap.objs.size := by simpa using hb
  subst e
  exact I1.fpOk (Nat.le_refl _) (I1.hok.fresh (Nat.le_refl _))
end K42
namespace K42
open PySem L2
section
variable {P : Program} {w : World} {K : PySem.W.Frag} {mg : Str → Option Value} {base : Heap}
abbrev sTape : Stmt := top 27
abbrev sTake : Stmt := top 28
/-! ## _law_tape(script, k): a new tape -/
def spTape (K : PySem.W.Frag) : Sp := fun vs H Q _ => ∃ (a : Addr) (ns : List Int) (k : Int), vs = [.ref a, .int k] ∧ 0 ≤ k ∧ SqL K H a (ns.map V.int) ∧ ∀ (p : Addr) (c : Int), H p = none → Q (.ref p) (upd H p (.lst [.int c, .int 0]))
theorem scTape : FnScope ["_law_script", "_law_k"] ["_law_script", "_law_k"] (defScope sTape) := ⟨rfl, rfl, rfl, by decide +kernel, rfl, by decide +kernel, by decide +kernel⟩
theorem ok_tape {f : Addr} {fd : FuncData} (F : Fun K "_law_tape" "_law_tape" sTape f fd) (B : Bl mg) : FnOk P w K mg base CX0 1 f fd ["_law_script", "_law_k"] (spTape K) := by
  refine F.ok scTape (fun vs H Q E h => ?_) (fun cdv A outer s H vs Q E hr h => ?_)
  · obtain ⟨a, ns, k, rfl, _⟩ := h
    rfl
  · obtain ⟨a, ns, k, rfl, hk0, hS, q⟩ := h
    refine ⟨_, pss_cons (ps_if (pt_cmpR op_lt (pv 1) (pe_callB call_len_seq (by rfl) B.len PySem.boot_len (pa_cons (pv 0) pa_nil)) (nomark _))
      (pss_one (ps_ret (pe_lst (pa_cons (pe_callB call_abs (by rfl) B.abs (by decide +kernel) (pa_cons (pe_ix ix_list (pv 0) (pv 1) (fun _ _ => rfl)) pa_nil)) (pa_cons pe_int pa_nil))))) pss_nil)
      (pss_one (ps_ret (pe_lst (pa_cons (pv 1) (pa_cons pe_int pa_nil))))), ?_⟩
    refine ⟨_, rfl, _, rfl, a, _, rfl, .inl hS, _, _, rfl, rfl, _, rfl, ?_⟩
    refine ite2 (fun c => ?_) (fun c => ?_)
    · have hlt : k.toNat < ns.length := by
        have := of_decide_eq_true c
        rw [List.length_map] at this
        omega
      refine ⟨_, rfl, _, rfl, a, _, _, .int (ns[k.toNat]), rfl, rfl, hS, at_of (j := k.toNat) (by omega) (by simp [hlt]), _, rfl, (by show 2 ≤ sizeLine; decide), fun p hp => ?_⟩
      exact q p _ hp
    · exact ⟨_, rfl, (by show 2 ≤ sizeLine; decide), fun p hp => q p _ hp⟩
theorem mulb (x : Int) {m : Int} (h : 0 < m) (h2 : m < 2 ^ 64) : -(2 ^ 64) < x % m ∧ x % m < 2 ^ 64 := by
  have h3 := Int.emod_nonneg x (show m ≠ 0 by omega)
  have h4 := Int.emod_lt_of_pos x h
  omega
/-! ## _law_take(tape, size): a number below size -/
def spTake : Sp := fun vs H Q _ => ∃ (t : Addr) (size : Int), vs = [.ref t, .int size] ∧ 0 < size ∧ size < 1073741824 ∧ TapeAt H t ∧ ∀ (H' : Hp) (r : Int), 0 ≤ r → r < size → But t H H' → TapeAt H' t → Q (.int r) H'
theorem scTake : FnScope ["_law_tape_here", "_law_size", "_law_cell", "_law_k", "_law_mixed"] ["_law_tape_here", "_law_size"] (defScope sTake) := ⟨rfl, rfl, rfl, by decide +kernel, rfl, by decide +kernel, by decide +kernel⟩
theorem ok_take {f : Addr} {fd : FuncData} (F : Fun K "_law_take" "_law_take" sTake f fd) (B : Bl mg) : FnOk P w K mg base CX0 1 f fd ["_law_tape_here", "_law_size"] spTake := by
  refine F.ok scTake (fun vs H Q E h => ?_) (fun cdv A outer s H vs Q E hr h => ?_)
  · obtain ⟨t, size, rfl, _⟩ := h
    rfl
  · obtain ⟨t, size, rfl, h0, h1, ⟨c, k, hT⟩, q⟩ := h
    refine ⟨_, (pss_cons (ps_set (i := 2) scTake.nd rfl (Or.inl rfl) (pe_ix ix_list (pv 0) pe_int (fun _ _ => rfl)))
      (pss_cons (ps_asg (pe_op op_add (pe_ix ix_list (pv 0) pe_int (fun _ _ => rfl)) pe_int) (pg_sub (pv 0) pe_int set_list))
      (pss_cons (ps_set (i := 3) scTake.nd rfl (Or.inl rfl) (pe_ix ix_list (pv 0) pe_int (fun _ _ => rfl)))
      (pss_cons (ps_if (pt_cmpR op_ge (pv 2) (pe_op op_pow pe_int pe_int) (nomark _)) (pss_cons (ps_asg (pe_op op_fdivN (pv 2) (pv 1)) (pg_sub (pv 0) pe_int set_list))
      (pss_one (ps_ret (pe_op op_mod (pe_callTy call_int1 (by rfl) B.int (by decide +kernel) (pa_cons (pv 2) pa_nil)) (pv 1))))) pss_nil)
      (pss_cons (ps_set (i := 4) scTake.nd rfl (Or.inl rfl) (pe_op op_mod (pe_callTy call_int1 (by rfl) B.int (by decide +kernel) (pa_cons (pe_op op_add (pe_op op_add (pv 2) (pe_op op_mul pe_int (pv 3))) pe_int) pa_nil)) pe_int))
      (pss_cons (ps_set (i := 4) scTake.nd rfl (Or.inl rfl) (pe_op op_mod (pe_callTy call_int1 (by rfl) B.int (by decide +kernel) (pa_cons (pe_op op_mul (pv 4) (pe_op op_add (pv 4) pe_int)) pa_nil)) pe_int))
      (pss_cons (ps_set (i := 4) scTake.nd rfl (Or.inl rfl) (pe_op op_mod (pe_callTy call_int1 (by rfl) B.int (by decide +kernel) (pa_cons (pe_op op_add (pe_op op_mul (pv 4) (pe_op op_add (pv 4) pe_int)) (pe_op op_mul pe_int (pv 3))) pa_nil)) pe_int))
      (pss_one (ps_ret (pe_op op_mod (pe_callTy call_int1 (by rfl) B.int (by decide +kernel) (pa_cons (pe_op op_fdivN (pv 4) pe_int) pa_nil)) (pv 1))))))))))), ?_⟩
    refine ⟨_, rfl, t, _, _, .int c, rfl, rfl, SqL.of hT, at_of (j := 0) rfl rfl, ?_⟩
    refine ⟨_, rfl, t, _, _, .int k, rfl, rfl, SqL.of hT, at_of (j := 1) rfl rfl, _, _, rfl, rfl, _, rfl, t, _, _, 1, rfl, rfl, hT, rfl, ?_⟩
    have b1 : But t H (upd H t (.lst [.int c, .int (k + 1)])) := But.at_
    refine ⟨_, rfl, t, _, _, .int (k + 1), rfl, rfl, SqL.of upd_same, at_of (j := 1) rfl rfl, ?_⟩
    refine ⟨_, rfl, _, _, rfl, rfl, ⟨by decide, by decide, by decide⟩, _, _, rfl, rfl, _, rfl, ?_⟩
    refine ite2 (fun _ => ?_) (fun _ => ?_)
    · refine ⟨_, rfl, _, rfl, _, _, rfl, rfl, ⟨by omega, by omega⟩, _, rfl, t, _, _, 0, rfl, rfl, upd_same, rfl, ?_⟩
      refine ⟨_, rfl, .inl ⟨_, rfl, _, rfl, _, _, rfl, rfl, h0, ?_⟩⟩
      exact q _ _ (Int.emod_nonneg _ (by omega)) (Int.emod_lt_of_pos _ h0) (b1.trans But.at_) ⟨_, _, upd_same⟩
    · refine ⟨_, rfl, _, rfl, _, _, rfl, rfl, .inl ⟨by decide, by decide⟩, _, _, rfl, rfl, _, _, rfl, rfl, .inl ⟨_, rfl, _, _, rfl, rfl, (by decide : (0 : Int) < 2147483647), ?_⟩⟩
      refine ⟨_, rfl, _, rfl, _, _, rfl, rfl, _, _, rfl, rfl, .inl (mulb _ (by decide) (by decide)), .inl ⟨_, rfl, _, _, rfl, rfl, (by decide : (0 : Int) < 2147483629), ?_⟩⟩
      refine ⟨_, rfl, _, rfl, _, _, rfl, rfl, _, _, rfl, rfl, .inl (mulb _ (by decide) (by decide)), _, rfl, _, _, rfl, rfl, .inl ⟨by decide, by decide⟩, _, _, rfl, rfl, .inl ⟨_, rfl, _, _, rfl, rfl, (by decide : (0 : Int) < 2147483647), ?_⟩⟩
      refine ⟨_, rfl, _, _, rfl, rfl, ⟨by decide, by decide⟩, .inl ⟨_, rfl, _, rfl, _, _, rfl, rfl, h0, ?_⟩⟩
      exact q _ _ (Int.emod_nonneg _ (by omega)) (Int.emod_lt_of_pos _ h0) b1 ⟨_, _, upd_same⟩
end
end K42
namespace K42
open PySem L2
section
variable {P : Program} {w : World} {K : PySem.W.Frag} {mg : Str → Option Value} {base : Heap}
abbrev sValue : Stmt := top 29
abbrev DTake (P : Program) (w : World) (K : PySem.W.Frag) (mg : Str → Option Value) (base : Heap) : Prop := Df P w K mg base CX0 1 "_law_take" ["_law_tape_here", "_law_size"] spTake
theorem four (a b c d : Int) {h : Int} : ∃ z : Int, ([V.int a, V.int b, V.int c, V.int d] : List V)[(h % 4).toNat]? = some (V.int z) := by
  have h1 := Int.emod_nonneg h (show (4 : Int) ≠ 0 by decide)
  have h2 := Int.emod_lt_of_pos h (show (0 : Int) < 4 by decide)
  have h3 : (h % 4).toNat = 0 ∨ (h % 4).toNat = 1 ∨ (h % 4).toNat = 2 ∨ (h % 4).toNat = 3 := by omega
  rcases h3 with e | e | e | e <;> rw [e]
  · exact ⟨a, rfl⟩
  · exact ⟨b, rfl⟩
  · exact ⟨c, rfl⟩
  · exact ⟨d, rfl⟩
theorem ten9 : (10 : Int) ^ Int.toNat 9 = 1000000000 := by decide
theorem ten30 : (10 : Int) ^ Int.toNat 30 = 1000000000000000000000000000000 := by decide
theorem ten20 : (10 : Int) ^ Int.toNat 20 = 100000000000000000000 := by decide
/-! ## _law_value(tape, span): some number -/
def spValue : Sp := fun vs H Q _ => ∃ (t : Addr) (span : Int), vs = [.ref t, .int span] ∧ 0 < span ∧ span < 1073741824 ∧ TapeAt H t ∧ ∀ (H' : Hp) (v : Int), But t H H' → TapeAt H' t → Q (.int v) H'
theorem scValue : FnScope ["_law_tape_here", "_law_span", "_law_pick", "_law_high", "_law_value_here"] ["_law_tape_here", "_law_span"] (defScope sValue) := ⟨rfl, rfl, rfl, by decide +kernel, rfl, by decide +kernel, by decide +kernel⟩
theorem df_value (T : Tx K mg "_law_value" sValue ["_law_tape_here", "_law_span"]) (B : Bl mg) (D_take : DTake P w K mg base) : Df P w K mg base CX0 2 "_law_value" ["_law_tape_here", "_law_span"] spValue := T.df fun f fd F => by
  refine F.ok scValue (fun vs H Q E h => ?_) (fun cdv A outer s H vs Q E hr h => ?_)
  · obtain ⟨t, span, rfl, _⟩ := h
    rfl
  · obtain ⟨t, span, rfl, h0, h1, hT, q⟩ := h
    refine ⟨_, (pss_cons (ps_set (i := 2) scValue.nd rfl (Or.inl rfl) (pe_df D_take (hr.mono (by decide)) pass0 (pa_cons (pv 0) (pa_cons pe_int pa_nil))))
      (pss_cons (ps_if (pt_cmpR op_eq (pv 2) pe_int (nomark _)) (pss_cons (ps_set (i := 3) scValue.nd rfl (Or.inl rfl) (pe_df D_take (hr.mono (by decide)) pass0 (pa_cons (pv 0) (pa_cons (pe_op op_pow pe_int pe_int) pa_nil))))
      (pss_cons (ps_set (i := 4) scValue.nd rfl (Or.inl rfl) (pe_op op_sub (pe_op op_mul (pv 3) (pe_op op_pow pe_int pe_int)) (pe_df D_take (hr.mono (by decide)) pass0 (pa_cons (pv 0) (pa_cons (pe_op op_pow pe_int pe_int) pa_nil)))))
      (pss_one (ps_ret (pe_ix ix_list (pe_lst (pa_cons (pv 4) (pa_cons (pe_op op_sub pe_int (pv 4)) (pa_cons (pe_op op_mulW (pv 4) (pe_op op_pow pe_int pe_int)) (pa_cons (pe_op op_sub pe_int (pe_op op_mulW (pv 4) (pe_op op_pow pe_int pe_int))) pa_nil))))) (pe_op op_mod (pe_callTy call_int1 (by rfl) B.int (by decide +kernel) (pa_cons (pv 3) pa_nil)) pe_int) (fun _ _ => rfl)))))) pss_nil)
      (pss_cons (ps_if (pt_cmpR op_eq (pv 2) pe_int (nomark _)) (pss_one (ps_ret (pe_op op_sub pe_int (pe_df D_take (hr.mono (by decide)) pass0 (pa_cons (pv 0) (pa_cons (pv 1) pa_nil)))))) pss_nil)
      (pss_one (ps_ret (pe_df D_take (hr.mono (by decide)) pass0 (pa_cons (pv 0) (pa_cons (pv 1) pa_nil)))))))), ?_⟩
    refine ⟨_, rfl, t, 8, rfl, by decide, by decide, hT, fun H1 r r0 r1 b1 T1 => ?_⟩
    refine ⟨_, rfl, rfl, _, rfl, ?_⟩
    refine ite2 (fun c => ?_) (fun c => ?_)
    · refine ⟨_, rfl, _, _, rfl, rfl, ⟨by decide, by decide, by decide⟩, t, _, rfl, by decide, by decide, T1, fun H2 hi hi0 hi1 b2 T2 => ?_⟩
      rw [ten9] at hi1
      refine ⟨_, rfl, _, _, rfl, rfl, ⟨by decide, by decide, by decide⟩, _, _, rfl, rfl, .inl ⟨by omega, by omega⟩, _, rfl, _, _, rfl, rfl, ⟨by decide, by decide, by decide⟩, t, _, rfl, by decide, by decide, T2, fun H3 lo lo0 lo1 b3 T3 => ?_⟩
      rw [ten9] at lo1
      have wide : CMulW (hi * 10 ^ Int.toNat 30 - lo) (10 ^ Int.toNat 20) := by
        rw [ten30, ten20]
        exact wide_mul (a := 200) (b := 100) (by omega) (by decide) (by decide) (by decide) (by decide)
      obtain ⟨z, hz⟩ := four (hi * 10 ^ Int.toNat 30 - lo) (0 - (hi * 10 ^ Int.toNat 30 - lo)) ((hi * 10 ^ Int.toNat 30 - lo) * 10 ^ Int.toNat 20) (0 - (hi * 10 ^ Int.toNat 30 - lo) * 10 ^ Int.toNat 20) (h := hi)
      refine ⟨_, _, rfl, rfl, _, rfl, _, rfl, _, _, rfl, rfl, _, rfl, _, _, rfl, rfl, ⟨by decide, by decide, by decide⟩, _, _, rfl, rfl, wide, _, rfl, _, _, rfl, rfl, ⟨by decide, by decide, by decide⟩, _, _, rfl, rfl, wide, _, _, rfl, rfl, (by show 4 ≤ sizeLine; decide), fun p hp => ?_⟩
      refine ⟨_, rfl, .inl ⟨_, rfl, _, _, rfl, rfl, (by show (0 : Int) < 4; decide), p, _, _, .int z, rfl, rfl, SqL.of upd_same, at_of (j := (hi % 4).toNat) (by show hi % 4 = _; have := Int.emod_nonneg hi (show (4 : Int) ≠ 0 by decide); omega) hz, ?_⟩⟩
      exact q _ z (((b1.trans b2).trans b3).new hp) (T3.new hp)
    · refine ⟨_, rfl, rfl, _, rfl, ?_⟩
      refine ite2 (fun c => ?_) (fun c => ?_)
      · refine ⟨_, rfl, _, rfl, t, _, rfl, h0, h1, T1, fun H2 x _ _ b2 T2 => ?_⟩
        exact ⟨_, _, rfl, rfl, q _ _ (b1.trans b2) T2⟩
      · exact ⟨_, rfl, _, rfl, t, _, rfl, h0, h1, T1, fun H2 x _ _ b2 T2 => q _ _ (b1.trans b2) T2⟩
end
end K42
namespace K42
open PySem L2
section
variable {P : Program} {w : World} {K : PySem.W.Frag} {mg : Str → Option Value} {base : Heap}
open L2H
structure DfH (P : Program) (w : World) (K : PySem.W.Frag) (mg : Str → Option Value) (base : Heap) (CX : CXT) (k : Nat) (x : Str) (ps : List Str) (sp : Sp) : Prop where
  ex : ∃ (f : Addr) (fd : FuncData), mg x = some (.ref f) ∧ PySem.W.keepIn K (.ref f) = true ∧ Binds K fd ps [] ∧ FnH P w K mg base CX k f fd ps sp
theorem pass0H {X : Cx} : ∀ σ, PassesAt CX0 X σ ((fun _ => E0) σ) := fun _ _ _ _ _ _ _ h => h.elim
theorem pe_dfH {X : Cx} {CX : CXT} {k : Nat} {x : Str} {ps : List Str} {sp : Sp} {E : L2.St → XK} {p pos : Pos} {e : Expr} {es : List Expr} {t : TA} (D : DfH X.prog X.w X.K X.mg X.base CX k x ps sp) (hr : RoomH k X.A) (hc : HotC X) (hx : ∀ σ, PassesAt CX X σ (E σ)) (ha : PA X (e :: es) t)
    (hg : Gl X x := by rfl) (hdb : (x == ("__debug__" : Str)) = false := by decide) (he : starEach (e :: es) X.env = (false, eval e X.env) :: starEach es X.env := by rfl) (hpl : (backTo pos (starEach es X.env)).any (·.1) = false := by rfl) :
    PE X (.Call (.Name x p) (e :: es) [] pos) (tCallS sp E t) := by
  obtain ⟨f, fd, m, kp, b, F⟩ := D.ex
  exact pe_callH F hr hc hg m kp b hx ha hdb he hpl
abbrev sIsInt : Stmt := top 38
abbrev sIsRec : Stmt := top 39
/-! ## _law_is_integer, _law_is_record: of ints, of tuples of ints -/
def spIsInt : Sp := fun vs H Q _ => ∃ i : Int, vs = [.int i] ∧ Q (.bl true) H
def spIsRec (K : PySem.W.Frag) : Sp := fun vs H Q _ => ∃ (p : Addr) (r : List Int) (n : Int), vs = [.ref p, .int n] ∧ SqT K H p (r.map V.int) ∧ H p = some (.tup (r.map V.int)) ∧ Q (.bl (decide ((r.length : Int) = n))) H
theorem scIsInt : FnScope ["_law_actual"] ["_law_actual"] (defScope sIsInt) := ⟨rfl, rfl, rfl, by decide +kernel, rfl, by decide +kernel, by decide +kernel⟩
theorem scIsRec : FnScope ["_law_actual", "_law_n", "_law_value_here"] ["_law_actual", "_law_n"] (defScope sIsRec) := ⟨rfl, rfl, rfl, by decide +kernel, rfl, by decide +kernel, by decide +kernel⟩
theorem kit_int_int {K : PySem.W.Frag} : PySem.W.kitOne K (.type "int") (.type "int") = some true := kit_ty (by decide +kernel)
theorem kit_int_bool {K : PySem.W.Frag} : PySem.W.kitOne K (.type "int") (.type "bool") = some false := kit_ty (by decide +kernel)
theorem kit_tup_tup {K : PySem.W.Frag} : PySem.W.kitOne K (.type "tuple") (.type "tuple") = some true := kit_ty (by decide +kernel)
theorem df_is_integer (T : Tx K mg "_law_is_integer" sIsInt ["_law_actual"]) (B : Bl mg) : Df P w K mg base CX0 1 "_law_is_integer" ["_law_actual"] spIsInt := T.df fun f fd F => by
  refine F.ok scIsInt (fun vs H Q E h => ?_) (fun cdv A outer s H vs Q E hr h => ?_)
  · obtain ⟨i, rfl, _⟩ := h
    rfl
  · obtain ⟨i, rfl, q⟩ := h
    refine ⟨_, (pss_one (ps_ret (pe_and (pe_callB call_isi (by rfl) B.isinstance (by decide +kernel) (pa_cons (pv 0) (pa_cons (pe_bltn (v := .ty "int") (u := .type "int") (by rfl) B.int (by decide +kernel) rfl) pa_nil))) (pe_one (pe_not (pe_callB call_isi (by rfl) B.isinstance (by decide +kernel) (pa_cons (pv 0) (pa_cons (pe_bltn (v := .ty "bool") (u := .type "bool") (by rfl) B.bool (by decide +kernel) rfl) pa_nil)))))))), ?_⟩
    refine ⟨_, rfl, _, _, _, _, _, rfl, .ty _, .base (.int i), kit_int_int, _, rfl, ?_⟩
    refine iteT ⟨_, rfl, _, _, _, _, _, rfl, .ty _, .base (.int i), kit_int_bool, _, rfl, q⟩
theorem dfH_is_integer (T : Tx K mg "_law_is_integer" sIsInt ["_law_actual"]) (B : Bl mg) : DfH P w K mg base CX0 1 "_law_is_integer" ["_law_actual"] spIsInt := by
  obtain ⟨f, fd, m, ⟨⟨oc, od, kV, doc, pm, an, cdv, ct, osl, rfl, lk, hcd⟩, kp⟩, b⟩ := T.ex
  refine ⟨f, _, m, kp, b, fn_ofH lk hcd scIsInt (fun vs H Q E h => ?_) (fun A outer s H vs Q E p hot hr h => ?_)⟩
  · obtain ⟨i, rfl, _⟩ := h
    rfl
  · obtain ⟨i, rfl, q⟩ := h
    refine ⟨_, (pss_one (ps_ret (pe_and (pe_callB call_isi (by rfl) B.isinstance (by decide +kernel) (pa_cons (pv 0) (pa_cons (pe_bltn (v := .ty "int") (u := .type "int") (by rfl) B.int (by decide +kernel) rfl) pa_nil))) (pe_one (pe_not (pe_callB call_isi (by rfl) B.isinstance (by decide +kernel) (pa_cons (pv 0) (pa_cons (pe_bltn (v := .ty "bool") (u := .type "bool") (by rfl) B.bool (by decide +kernel) rfl) pa_nil)))))))), ?_⟩
    refine ⟨_, rfl, _, _, _, _, _, rfl, .ty _, .base (.int i), kit_int_int, _, rfl, ?_⟩
    refine iteT ⟨_, rfl, _, _, _, _, _, rfl, .ty _, .base (.int i), kit_int_bool, _, rfl, q⟩
theorem df_is_record (T : Tx K mg "_law_is_record" sIsRec ["_law_actual", "_law_n"]) (B : Bl mg) (D_is_integer : Df P w K mg base CX0 1 "_law_is_integer" ["_law_actual"] spIsInt) : Df P w K mg base CX0 2 "_law_is_record" ["_law_actual", "_law_n"] (spIsRec K) := T.df fun f fd F => by
  refine F.ok scIsRec (fun vs H Q E h => ?_) (fun cdv A outer s H vs Q E hr h => ?_)
  · obtain ⟨p, r, n, rfl, _⟩ := h
    rfl
  · obtain ⟨p, r, n, rfl, hS, hp, q⟩ := h
    refine ⟨_, (pss_cons (ps_if (PW.pt (pw_or (pt_not (pt_val (pe_callB call_isi (by rfl) B.isinstance (by decide +kernel) (pa_cons (pv 0) (pa_cons (pe_bltn (v := .ty "tuple") (u := .type "tuple") (by rfl) B.tuple (by decide +kernel) rfl) pa_nil))))) (pw_or1 (pt_cmpR op_ne (pe_callB call_len_seq (by rfl) B.len PySem.boot_len (pa_cons (pv 0) pa_nil)) (pv 1) (nomark _))))) (pss_one (ps_ret pe_bl)) pss_nil)
      (pss_cons (ps_for PassesOwn.never rfl (pi_tup (pv 0)) (pg_name (i := 2) scIsRec.nd rfl (Or.inl rfl)) (pss_one (ps_if (pt_not (pt_val (pe_df D_is_integer (hr.mono (by decide)) pass0 (pa_cons (pv 2) pa_nil)))) (pss_one (ps_ret pe_bl)) pss_nil)))
      (pss_one (ps_ret pe_bl)))), ?_⟩
    refine ⟨_, rfl, _, _, _, _, _, rfl, .ty _, .base (.tup hp), kit_tup_tup, _, rfl, ?_⟩
    refine iteF ⟨_, rfl, p, _, rfl, .inr hS, _, rfl, rfl, _, rfl, ?_⟩
    rw [List.length_map]
    refine ite2 (fun c => ?_) (fun c => ?_)
    · have e : ¬ (r.length : Int) = n := by
        intro e
        rw [e] at c
        simp at c
      rw [decide_eq_false e] at q
      exact q
    · have e : (r.length : Int) = n := by
        have : V.int (r.length : Int) = V.int n := by simpa using c
        exact V.int.inj this
      refine ⟨_, rfl, p, rfl, ⟨_, hS⟩, for_tup (K := K) (a := p) (xs := r.map V.int) (fun i σ H' => ∃ v, σ = [some (.ref p), some (.int n), v] ∧ H' = H) ⟨none, rfl, rfl⟩ (fun i σ H' _ ⟨_, _, e⟩ => by rw [e]; exact hS) ?_ ?_⟩
      · rintro i x σ H' hi ⟨v, rfl, rfl⟩
        obtain ⟨z, hz, rfl⟩ : ∃ z, r[i]? = some z ∧ x = V.int z := by
          rw [List.getElem?_map] at hi
          cases e : r[i]? with
          | none => rw [e] at hi; cases hi
          | some z => rw [e] at hi; exact ⟨z, rfl, (Option.some.inj hi).symm⟩
        refine ⟨_, rfl, z, rfl, _, rfl, ?_⟩
        exact iteF ⟨_, rfl, rfl⟩
      · rintro σ H' ⟨v, rfl, rfl⟩
        rw [decide_eq_true e] at q
        exact q
theorem dfH_is_record (T : Tx K mg "_law_is_record" sIsRec ["_law_actual", "_law_n"]) (B : Bl mg) (D_is_integer : DfH P w K mg base CX0 1 "_law_is_integer" ["_law_actual"] spIsInt) : DfH P w K mg base CX0 2 "_law_is_record" ["_law_actual", "_law_n"] (spIsRec K) := by
  obtain ⟨f, fd, m, ⟨⟨oc, od, kV, doc, pm, an, cdv, ct, osl, rfl, lk, hcd⟩, kp⟩, b⟩ := T.ex
  refine ⟨f, _, m, kp, b, fn_ofH lk hcd scIsRec (fun vs H Q E h => ?_) (fun A outer s H vs Q E p0 hot hr h => ?_)⟩
  · obtain ⟨p, r, n, rfl, _⟩ := h
    rfl
  · obtain ⟨p, r, n, rfl, hS, hp, q⟩ := h
    have hc : HotC (cxH CX0 P w K mg base ["_law_actual", "_law_n", "_law_value_here"] "_law_is_record" (defScope sIsRec) f cdv A outer s H E p0).nox := ⟨p0, hot, List.mem_singleton.mpr rfl⟩
    refine ⟨_, PSs.nox (pss_cons (ps_if (PW.pt (pw_or (pt_not (pt_val (pe_callB call_isi (by rfl) B.isinstance (by decide +kernel) (pa_cons (pv 0) (pa_cons (pe_bltn (v := .ty "tuple") (u := .type "tuple") (by rfl) B.tuple (by decide +kernel) rfl) pa_nil))))) (pw_or1 (pt_cmpR op_ne (pe_callB call_len_seq (by rfl) B.len PySem.boot_len (pa_cons (pv 0) pa_nil)) (pv 1) (nomark _))))) (pss_one (ps_ret pe_bl)) pss_nil)
      (pss_cons (ps_forH PassesOwn.never hc (pi_tupH (pv 0)) (pg_name (i := 2) scIsRec.nd rfl (Or.inl rfl)) (pss_one (ps_if (pt_not (pt_val (pe_dfH D_is_integer (hr.mono (by decide)) hc pass0H (pa_cons (pv 2) pa_nil)))) (pss_one (ps_ret pe_bl)) pss_nil)))
      (pss_one (ps_ret pe_bl)))), ?_⟩
    refine ⟨_, rfl, _, _, _, _, _, rfl, .ty _, .base (.tup hp), kit_tup_tup, _, rfl, ?_⟩
    refine iteF ⟨_, rfl, p, _, rfl, .inr hS, _, rfl, rfl, _, rfl, ?_⟩
    rw [List.length_map]
    refine ite2 (fun c => ?_) (fun c => ?_)
    · have e : ¬ (r.length : Int) = n := by
        intro e
        rw [e] at c
        simp at c
      rw [decide_eq_false e] at q
      exact q
    · have e : (r.length : Int) = n := by
        have : V.int (r.length : Int) = V.int n := by simpa using c
        exact V.int.inj this
      refine ⟨_, rfl, p, rfl, ⟨_, hS⟩, for_tup (K := K) (a := p) (xs := r.map V.int) (fun i σ H' => ∃ v, σ = [some (.ref p), some (.int n), v] ∧ H' = H) ⟨none, rfl, rfl⟩ (fun i σ H' _ ⟨_, _, e⟩ => by rw [e]; exact hS) ?_ ?_⟩
      · rintro i x σ H' hi ⟨v, rfl, rfl⟩
        obtain ⟨z, hz, rfl⟩ : ∃ z, r[i]? = some z ∧ x = V.int z := by
          rw [List.getElem?_map] at hi
          cases e : r[i]? with
          | none => rw [e] at hi; cases hi
          | some z => rw [e] at hi; exact ⟨z, rfl, (Option.some.inj hi).symm⟩
        refine ⟨_, rfl, z, rfl, _, rfl, ?_⟩
        exact iteF ⟨_, rfl, rfl⟩
      · rintro σ H' ⟨v, rfl, rfl⟩
        rw [decide_eq_true e] at q
        exact q

end
end K42
namespace K42
open PySem L2
section
variable {P : Program} {w : World} {K : PySem.W.Frag} {mg : Str → Option Value} {base : Heap}
abbrev DValue (P : Program) (w : World) (K : PySem.W.Frag) (mg : Str → Option Value) (base : Heap) : Prop := Df P w K mg base CX0 2 "_law_value" ["_law_tape_here", "_law_span"] spValue
abbrev sRecord : Stmt := top 30
/-! ## _law_record(tape, n, span): a record -/
def spRecord : Sp := fun vs H Q _ => ∃ (t : Addr) (n : Int) (span : Int), vs = [.ref t, .int n, .int span] ∧ 0 ≤ n ∧ n ≤ 1000 ∧ 0 < span ∧ span < 1073741824 ∧ TapeAt H t ∧
  ∀ (H' : Hp) (p : Addr) (r : Rc), (r.length : Int) = n → But t H H' → TapeAt H' t → H p = none → RecAt H' p r → Q (.ref p) H'
theorem scRecord : FnScope ["_law_tape_here", "_law_n", "_law_span", "_law_k"] ["_law_tape_here", "_law_n", "_law_span"] (defScope sRecord) := ⟨rfl, rfl, rfl, by decide +kernel, rfl, by decide +kernel, by decide +kernel⟩
theorem df_record (T : Tx K mg "_law_record" sRecord ["_law_tape_here", "_law_n", "_law_span"]) (B : Bl mg) (D_value : DValue P w K mg base) : Df P w K mg base CX0 3 "_law_record" ["_law_tape_here", "_law_n", "_law_span"] spRecord := T.df fun f fd F => by
  refine F.ok scRecord (fun vs H Q E h => ?_) (fun cdv A outer s H vs Q E hr h => ?_)
  · obtain ⟨t, n, span, rfl, _⟩ := h
    rfl
  · obtain ⟨t, n, span, rfl, hn0, hn, h0, h1, hT, q⟩ := h
    refine ⟨_, (pss_one (ps_ret (pe_callTy call_tuple_of (by rfl) B.tuple (by decide +kernel) (pa_cons (pe_lc (own := [("_law_k", 3)]) (g := gName 3) rfl scRecord.nd (pi_range1 (by rfl) B.range (pa_cons (pv 1) pa_nil)) (blkOk_by (N := ["_law_tape_here", "_law_n", "_law_span", "_law_k"]) (sc := defScope sRecord) (by decide +kernel)) (fun _ _ _ _ _ => pg_name (i := 3) scRecord.nd rfl (Or.inl rfl)) (fun _ _ _ _ _ => pts_nil) (fun _ _ _ _ _ => (pe_df D_value (hr.mono (by decide)) pass0 (pa_cons (pv 0) (pa_cons (pv 2) pa_nil))))) pa_nil)))), ?_⟩
    refine ⟨_, rfl, _, rfl, by omega, by omega, fun D hD => ?_⟩
    refine lc_range (n := n.toNat) (fun i H' => ∃ xs : List Int, xs.length = i ∧ But t H H' ∧ TapeAt H' t ∧ H' D = some (.lst (xs.map V.int))) ⟨[], rfl, (But.refl t H).new hD, hT.new hD, upd_same⟩ ?_ ?_
    · rintro i H' hi ⟨xs, hl, b1, T1, hD1⟩
      refine ⟨rfl, ?_⟩
      refine ⟨_, rfl, _, rfl, t, span, rfl, h0, h1, T1, fun H2 v b2 T2 => ?_⟩
      have ntD : t ≠ D := hT.ne hD
      have hD2 := b2 _ _ ntD.symm hD1
      refine ⟨_, hD2, by rw [List.length_map, hl]; exact small1000 (by omega), xs ++ [v], by simp [hl], (b1.trans b2).put hD, T2.put ntD, ?_⟩
      rw [upd_same, List.map_append]
      rfl
    · rintro H' ⟨xs, hl, b1, T1, hD1⟩
      refine ⟨D, _, rfl, .inl ⟨SqL.of hD1, fun p hp => ?_⟩⟩
      exact q _ p xs (by omega) (b1.new hp) (T1.new hp) (b1.free (T1.ne hp).symm hp) upd_same
end
end K42
namespace K42
open PySem L2
section
variable {P : Program} {w : World} {K : PySem.W.Frag} {mg : Str → Option Value} {base : Heap}
abbrev sTurns : Stmt := top 31
def nV (n : Nat) : V := .int (n : Int)
/-! ## _law_turns(tape, n): the numbers below n in some order -/
def spTurns : Sp := fun vs H Q _ => ∃ (t : Addr) (n : Nat), vs = [.ref t, .int n] ∧ n ≤ 1000 ∧ TapeAt H t ∧
  ∀ (H' : Hp) (p : Addr) (l : List Nat), l.Perm (List.range n) → But t H H' → TapeAt H' t → H p = none → H' p = some (.lst (l.map nV)) → Q (.ref p) H'
theorem seqIndex_nat {k n : Nat} {i : Int} (e : i = (k : Int)) (h : k < n) : seqIndex? i n = some k := by
  subst e
  unfold seqIndex?
  have h1 : ¬ (k : Int) < 0 := by omega
  rw [if_neg h1]
  simp [h]
theorem rg_nV (n : Nat) : rgV 0 (n : Int) = (List.range n).map nV := by
  unfold rgV
  rw [show ((n : Int) - 0).toNat = n by omega]
  refine List.map_congr_left fun i _ => ?_
  show V.int (0 + (i : Int)) = V.int (i : Int)
  rw [Int.zero_add]
theorem erase_map : ∀ (l : List Nat) (k : Nat), (l.map nV).eraseIdx k = (l.eraseIdx k).map nV
  | [], k => rfl
  | x :: l, 0 => rfl
  | x :: l, k + 1 => by
    show nV x :: (l.map nV).eraseIdx k = nV x :: (l.eraseIdx k).map nV
    rw [erase_map l k]
theorem erase_perm : ∀ (l : List Nat) (k : Nat) (h : k < l.length), (l[k] :: l.eraseIdx k).Perm l
  | [], k, h => by simp at h
  | x :: l, 0, h => by simp
  | x :: l, k + 1, h => by
    have h' : k < l.length := by simpa using h
    have ih := erase_perm l k h'
    show (l[k] :: x :: l.eraseIdx k).Perm (x :: l)
    exact (List.Perm.swap _ _ _).trans (ih.cons x)
theorem pop_perm {l r : List Nat} {k : Nat} (h : k < l.length) : (l.eraseIdx k ++ (r ++ [l[k]])).Perm (l ++ r) := by
  have h1 : (l[k] :: l.eraseIdx k).Perm l := erase_perm l k h
  have h2 : (l.eraseIdx k ++ (r ++ [l[k]])).Perm (l[k] :: (l.eraseIdx k ++ r)) := by
    rw [← List.append_assoc]
    exact List.perm_append_singleton _ _
  exact h2.trans (h1.append_right r)
theorem scTurns : FnScope ["_law_tape_here", "_law_n", "_law_left", "_law_turns_here", "_law_k"] ["_law_tape_here", "_law_n"] (defScope sTurns) := ⟨rfl, rfl, rfl, by decide +kernel, rfl, by decide +kernel, by decide +kernel⟩
theorem df_turns (T : Tx K mg "_law_turns" sTurns ["_law_tape_here", "_law_n"]) (B : Bl mg) (D_take : DTake P w K mg base) : Df P w K mg base CX0 2 "_law_turns" ["_law_tape_here", "_law_n"] spTurns := T.df fun f fd F => by
  refine F.ok scTurns (fun vs H Q E h => ?_) (fun cdv A outer s H vs Q E hr h => ?_)
  · obtain ⟨t, n, rfl, _⟩ := h
    rfl
  · obtain ⟨t, n, rfl, hn, hT, q⟩ := h
    refine ⟨_, (pss_cons (ps_set (i := 2) scTurns.nd rfl (Or.inl rfl) (pe_listRg rfl (by rfl) B.list (prg_1 (by rfl) B.range (pv 1))))
      (pss_cons (ps_set (i := 3) scTurns.nd rfl (Or.inl rfl) (pe_lst pa_nil))
      (pss_cons (ps_for PassesOwn.never rfl (pi_range1 (by rfl) B.range (pa_cons (pv 1) pa_nil)) (pg_name (i := 4) scTurns.nd rfl (Or.inl rfl)) (pss_one (ps_expr (pe_bm PySem.F.plainAttrs_list PySem.F.slot_list_append PySem.F.type_list_append mt_append (pv 3) (pa_cons (pe_bm PySem.F.plainAttrs_list PySem.F.slot_list_pop PySem.F.type_list_pop mt_popAt (pv 2) (pa_cons (pe_df D_take (hr.mono (by decide)) pass0 (pa_cons (pv 0) (pa_cons (pe_callB call_len_seq (by rfl) B.len PySem.boot_len (pa_cons (pv 2) pa_nil)) pa_nil))) pa_nil)) pa_nil)))))
      (pss_one (ps_ret (pv 3)))))), ?_⟩
    refine ⟨_, rfl, _, rfl, RgOk.of_le (by omega) (by omega) (by omega) (by omega), fun D hD => ?_⟩
    rw [rg_nV]
    refine ⟨Nat.zero_le _, fun L hL => ?_⟩
    have nDL : D ≠ L := ne_of_none upd_same hL
    have hL0 : H L = none := (same_new hD).free hL
    have ntD : t ≠ D := hT.ne hD
    have ntL : t ≠ L := hT.ne hL0
    refine ⟨_, rfl, _, rfl, by omega, by omega, for_range (lo := 0) (n := (n : Int).toNat) (fun i σ H' => ∃ (lf tn : List Nat) (v : Option V), σ = [some (.ref t), some (.int n), some (.ref D), some (.ref L), v] ∧
      (lf ++ tn).Perm (List.range n) ∧ tn.length = i ∧ But t H H' ∧ TapeAt H' t ∧ H' D = some (.lst (lf.map nV)) ∧ H' L = some (.lst (tn.map nV))) ?_ ?_ ?_⟩
    · exact ⟨List.range n, [], none, rfl, by simp, rfl, ((But.refl t H).put hD).put hL0, (hT.put ntD).put ntL, by rw [upd_ne nDL]; exact upd_same, upd_same⟩
    · rintro i σ H' hi ⟨lf, tn, v, rfl, hp, hl, b1, T1, h1, h2⟩
      have hlen : lf.length + tn.length = n := by
        have := hp.length_eq
        simpa using this
      have hlf : 0 < lf.length := by omega
      refine ⟨_, rfl, .inl ⟨rfl, _, SqL.of h2⟩, _, rfl, .inl ⟨rfl, _, SqL.of h1⟩, _, rfl, _, rfl, D, _, rfl, .inl (SqL.of h1), t, _, rfl, ?_⟩
      rw [List.length_map]
      refine ⟨by omega, by omega, T1, fun H2 r r0 r1 b2 T2 => ?_⟩
      obtain ⟨k, rfl⟩ : ∃ k : Nat, r = (k : Int) := ⟨r.toNat, by omega⟩
      have hk : k < lf.length := by omega
      have e1 := b2 _ _ ntD.symm h1
      have e2 := b2 _ _ ntL.symm h2
      refine ⟨D, _, _, k, nV (lf[k]), rfl, rfl, e1, by omega, by omega, seqIndex_nat rfl (by rw [List.length_map]; exact hk), by simp [hk], ?_⟩
      refine ⟨L, _, _, rfl, rfl, by rw [upd_ne nDL.symm]; exact e2, by rw [List.length_map]; exact small1000 (by omega), ?_⟩
      refine ⟨lf.eraseIdx k, tn ++ [lf[k]], _, rfl, (pop_perm hk).trans hp, by simp [hl], ((b1.trans b2).put hD).put hL0, (T2.put ntD).put ntL, ?_, ?_⟩
      · rw [upd_ne nDL, upd_same, erase_map]
      · rw [upd_same, List.map_append]
        rfl
    · rintro σ H' ⟨lf, tn, v, rfl, hp, hl, b1, T1, h1, h2⟩
      have hlen : lf.length + tn.length = n := by
        have := hp.length_eq
        simpa using this
      have elf : lf = [] := List.length_eq_zero_iff.mp (by omega)
      subst elf
      exact ⟨_, rfl, q _ L tn (by simpa using hp) b1 T1 hL0 h2⟩
end
end K42
namespace K42
open PySem L2
section
variable {P : Program} {w : World} {K : PySem.W.Frag} {mg : Str → Option Value} {base : Heap}
abbrev sParents : Stmt := top 32
def pV : Option Nat → V
  | none => .non
  | some n => nV n
/-- each way to the parents ends -/
def Acyc (ps : List (Option Nat)) : Prop := (∀ f h, f < ps.length → FR.par ps f = some h → h < ps.length) ∧
  ∃ d : Nat → Nat, (∀ f h, f < ps.length → FR.par ps f = some h → d h < d f) ∧ ∀ f, f < ps.length → d f < ps.length
theorem par_set {ps : List (Option Nat)} {j x f y : Nat} (h : FR.par (ps.set j (some x)) f = some y) : (f = j ∧ y = x) ∨ FR.par ps f = some y := by
  unfold FR.par at h ⊢
  rw [List.getD_eq_getElem?_getD] at h ⊢
  rw [List.getElem?_set] at h
  by_cases e : j = f
  · rw [if_pos e] at h
    by_cases l : f < ps.length
    · left
      have l' : j < ps.length := by omega
      rw [if_pos l'] at h
      exact ⟨e.symm, (Option.some.inj h).symm⟩
    · have l' : ¬ j < ps.length := by omega
      rw [if_neg l'] at h
      cases h
  · rw [if_neg e] at h
    exact .inr h
theorem acyc_of {n : Nat} {l : List Nat} (hl : l.Perm (List.range n)) {ps : List (Option Nat)} (hn : ps.length = n)
    (h : ∀ f y, FR.par ps f = some y → ∃ a b : Nat, b < a ∧ l[a]? = some f ∧ l[b]? = some y) : Acyc ps := by
  have nd : l.Nodup := hl.symm.nodup List.nodup_range
  have mem : ∀ x, x ∈ l ↔ x < n := fun x => by rw [hl.mem_iff, List.mem_range]
  have len : l.length = n := by simpa using hl.length_eq
  have ix : ∀ (a f : Nat), l[a]? = some f → l.idxOf f = a := fun a f e => by
    obtain ⟨h1, h2⟩ := List.getElem?_eq_some_iff.mp e
    rw [← h2]
    exact nd.idxOf_getElem a h1
  refine ⟨fun f y _ e => ?_, fun f => l.idxOf f, fun f y _ e => ?_, fun f hf => ?_⟩
  · obtain ⟨a, b, _, _, h2⟩ := h f y e
    rw [hn]
    exact (mem y).mp (List.mem_of_getElem? h2)
  · obtain ⟨a, b, hab, h1, h2⟩ := h f y e
    show l.idxOf y < l.idxOf f
    rw [ix a f h1, ix b y h2]
    exact hab
  · have := List.idxOf_lt_length_of_mem ((mem f).mpr (by omega))
    show l.idxOf f < _
    omega
/-! ## _law_parents(tape, n): the parents of some forest -/
def spParents : Sp := fun vs H Q _ => ∃ (t : Addr) (n : Nat), vs = [.ref t, .int n] ∧ n ≤ 1000 ∧ TapeAt H t ∧
  ∀ (H' : Hp) (p : Addr) (ps : List (Option Nat)), ps.length = n → Acyc ps → But t H H' → TapeAt H' t → H p = none → H' p = some (.lst (ps.map pV)) → Q (.ref p) H'
theorem scParents : FnScope ["_law_tape_here", "_law_n", "_law_turns_here", "_law_bend", "_law_k", "_law_parents_here", "_law_pick"] ["_law_tape_here", "_law_n"] (defScope sParents) := ⟨rfl, rfl, rfl, by decide +kernel, rfl, by decide +kernel, by decide +kernel⟩
theorem df_parents (T : Tx K mg "_law_parents" sParents ["_law_tape_here", "_law_n"]) (B : Bl mg) (D_take : DTake P w K mg base) (D_turns : Df P w K mg base CX0 2 "_law_turns" ["_law_tape_here", "_law_n"] spTurns) : Df P w K mg base CX0 3 "_law_parents" ["_law_tape_here", "_law_n"] spParents := T.df fun f fd F => by
  refine F.ok scParents (fun vs H Q E h => ?_) (fun cdv A outer s H vs Q E hr h => ?_)
  · obtain ⟨t, n, rfl, _⟩ := h
    rfl
  · obtain ⟨t, n, rfl, hn, hT, q⟩ := h
    refine ⟨_, (pss_cons (ps_set (i := 2) scParents.nd rfl (Or.inl rfl) (pe_df D_turns (hr.mono (by decide)) pass0 (pa_cons (pv 0) (pa_cons (pv 1) pa_nil))))
      (pss_cons (ps_set (i := 3) scParents.nd rfl (Or.inl rfl) (pe_df D_take (hr.mono (by decide)) pass0 (pa_cons (pv 0) (pa_cons pe_int pa_nil))))
      (pss_cons (ps_setLc (i := 5) (own := [("_law_k", 4)]) (g := gName 4) rfl scParents.nd rfl rfl (sw_true rfl rfl rfl (by decide +kernel)) (pi_range1 (by rfl) B.range (pa_cons (pv 1) pa_nil)) (blkOk_by (N := ["_law_tape_here", "_law_n", "_law_turns_here", "_law_bend", "_law_k", "_law_parents_here", "_law_pick"]) (sc := defScope sParents) (by decide +kernel)) (fun _ _ _ _ _ => pg_name (i := 4) scParents.nd rfl (Or.inl rfl)) (fun _ _ _ _ _ => pts_nil) (fun _ _ _ _ _ => pe_non))
      (pss_cons (ps_for PassesOwn.never rfl (pi_range2 (by rfl) B.range (pa_cons pe_int (pa_cons (pv 1) pa_nil))) (pg_name (i := 4) scParents.nd rfl (Or.inl rfl)) (pss_cons (ps_set (i := 6) scParents.nd rfl (Or.inl rfl) (pe_df D_take (hr.mono (by decide)) pass0 (pa_cons (pv 0) (pa_cons (pe_op op_add (pv 4) pe_int) pa_nil))))
      (pss_cons (ps_if (pt_cmpR op_eq (pv 3) pe_int (nomark _)) (pss_one (ps_set (i := 6) scParents.nd rfl (Or.inl rfl) (pv 4))) pss_nil)
      (pss_cons (ps_if (pt_cmpR op_eq (pv 3) pe_int (nomark _)) (pss_one (ps_set (i := 6) scParents.nd rfl (Or.inl rfl) pe_int)) pss_nil)
      (pss_one (ps_if (pt_cmpR op_gt (pv 6) pe_int (nomark _)) (pss_one (ps_asg (pe_ix ix_list (pv 2) (pe_op op_sub (pv 6) pe_int) (fun _ _ => rfl)) (pg_sub (pv 5) (pe_ix ix_list (pv 2) (pv 4) (fun _ _ => rfl)) set_list))) pss_nil))))))
      (pss_one (ps_ret (pv 5))))))), ?_⟩
    refine ⟨_, rfl, _, rfl, t, n, rfl, hn, hT, fun H1 L l hp b1 T1 hL h1 => ?_⟩
    have ntL : t ≠ L := hT.ne hL
    refine ⟨_, rfl, t, _, rfl, by decide, by decide, T1, fun H2 bd _ _ b2 T2 => ?_⟩
    have h2 := b2 _ _ ntL.symm h1
    refine ⟨_, rfl, _, rfl, by omega, by omega, fun D hD => ?_⟩
    have b12 := b1.trans b2
    have ntD : t ≠ D := T2.ne hD
    have hD0 : H D = none := b12.free ntD.symm hD
    have nLD : L ≠ D := ne_of_none h2 hD
    refine lc_range (n := (n : Int).toNat) (fun i H' => H' = upd H2 D (.lst ((List.replicate i none).map pV))) rfl ?_ ?_
    · rintro i H' hi rfl
      refine ⟨rfl, _, upd_same, by rw [List.length_map, List.length_replicate]; exact small1000 (by omega), ?_⟩
      rw [upd_upd, List.replicate_succ', List.map_append]
      rfl
    · rintro H' rfl
      have len : l.length = n := by simpa using hp.length_eq
      have mem : ∀ x, x ∈ l → x < n := fun x hx => by
        have := (hp.mem_iff (a := x)).mp hx
        exact List.mem_range.mp this
      refine ⟨_, rfl, 1, n, rfl, ⟨by omega, by omega, by omega, by omega⟩, for_range (lo := 1) (n := ((n : Int) - 1).toNat) (fun i σ H' => ∃ (ps : List (Option Nat)) (v w : Option V), σ = [some (.ref t), some (.int n), some (.ref L), some (.int bd), v, some (.ref D), w] ∧
        ps.length = n ∧ (∀ f y, FR.par ps f = some y → ∃ a b : Nat, b < a ∧ l[a]? = some f ∧ l[b]? = some y) ∧ But t H H' ∧ TapeAt H' t ∧ H' D = some (.lst (ps.map pV)) ∧ H' L = some (.lst (l.map nV))) ?_ ?_ ?_⟩
      · refine ⟨List.replicate n none, none, none, rfl, by simp, fun f y e => ?_, b12.put hD0, T2.put ntD, upd_same, by rw [upd_ne nLD]; exact h2⟩
        unfold FR.par at e
        rw [List.getD_eq_getElem?_getD, List.getElem?_replicate] at e
        split at e <;> cases e
      · rintro i σ H' hi ⟨ps, v, w, rfl, hps, hpar, b3, T3, hD3, hL3⟩
        have ha : 1 + i < l.length := by omega
        refine ⟨_, rfl, _, rfl, _, _, rfl, rfl, t, _, rfl, by omega, by omega, T3, fun H4 r r0 r1 b4 T4 => ?_⟩
        have hD4 := b4 _ _ ntD.symm hD3
        have hL4 := b4 _ _ ntL.symm hL3
        have b34 := b3.trans b4
        -- the rest of the turn, for any pick from 0 to k
        have rest : ∀ (z : Int), 0 ≤ z → z ≤ 1 + (i : Int) → ∀ (E : Ends), (∀ σ H'', (∃ (ps : List (Option Nat)) (v w : Option V), σ = [some (.ref t), some (.int n), some (.ref L), some (.int bd), v, some (.ref D), w] ∧
            ps.length = n ∧ (∀ f y, FR.par ps f = some y → ∃ a b : Nat, b < a ∧ l[a]? = some f ∧ l[b]? = some y) ∧ But t H H'' ∧ TapeAt H'' t ∧ H'' D = some (.lst (ps.map pV)) ∧ H'' L = some (.lst (l.map nV))) → E.nx σ H'') →
            tIfS (tTest (tOp (rI0 fun i j => V.bl (decide (j < i))) (tVar 6) (tC (V.int 0)))) (tAsg (tOp (rIxL K) (tVar 2) (tOp (rI0 fun i j => V.int (i - j)) (tVar 6) (tC (V.int 1)))) (gSub (tVar 5) (tOp (rIxL K) (tVar 2) (tVar 4)) rSetL)) tNext E
              [some (.ref t), some (.int n), some (.ref L), some (.int bd), some (.int (1 + (i : Int))), some (.ref D), some (.int z)] H4 := by
          intro z z0 z1 E hE
          refine ⟨_, rfl, _, _, rfl, rfl, _, rfl, ?_⟩
          refine ite2 (fun c => ?_) (fun c => ?_)
          · have c' : 0 < z := of_decide_eq_true c
            obtain ⟨b, eb⟩ : ∃ b : Nat, z - 1 = (b : Int) := ⟨(z - 1).toNat, by omega⟩
            have hb : b < l.length := by omega
            refine ⟨_, rfl, _, rfl, _, _, rfl, rfl, L, _, _, nV (l[b]), rfl, rfl, SqL.of hL4, at_of (j := b) eb (by simp [hb]), ?_⟩
            refine ⟨_, rfl, _, rfl, _, rfl, L, _, _, nV (l[1 + i]), rfl, rfl, SqL.of hL4, at_of (j := 1 + i) (by omega) (by simp [ha]), ?_⟩
            have hlt := mem (l[1 + i]) (List.getElem_mem ha)
            refine ⟨D, _, _, l[1 + i], rfl, rfl, hD4, ?_, ?_⟩
            · unfold ixN
              rw [if_pos (by omega), if_pos (by rw [List.length_map]; omega)]
              rfl
            · refine hE _ _ ⟨ps.set (l[1 + i]) (some (l[b])), _, _, rfl, by rw [List.length_set]; exact hps, fun f y e => ?_, b34.put hD0, T4.put ntD, by rw [upd_same, List.map_set]; rfl, by rw [upd_ne nLD]; exact hL4⟩
              rcases par_set e with ⟨e1, e2⟩ | e
              · exact ⟨1 + i, b, by omega, by rw [e1]; simp [ha], by rw [e2]; simp [hb]⟩
              · exact hpar f y e
          · exact hE _ _ ⟨ps, _, _, rfl, hps, hpar, b34, T4, hD4, hL4⟩
        refine ⟨_, rfl, rfl, _, rfl, ?_⟩
        refine ite2 (fun c => ?_) (fun c => ?_)
        · refine ⟨_, rfl, ?_⟩
          refine ⟨_, rfl, rfl, _, rfl, ?_⟩
          refine ite2 (fun c => ?_) (fun c => ?_)
          · exact rest 0 (by omega) (by omega) _ (fun _ _ h => h)
          · exact rest (1 + (i : Int)) (by omega) (by omega) _ (fun _ _ h => h)
        · refine ⟨_, rfl, rfl, _, rfl, ?_⟩
          refine ite2 (fun c => ?_) (fun c => ?_)
          · exact rest 0 (by omega) (by omega) _ (fun _ _ h => h)
          · exact rest r (by omega) (by omega) _ (fun _ _ h => h)
      · rintro σ H' ⟨ps, v, w, rfl, hps, hpar, b3, T3, hD3, hL3⟩
        exact ⟨_, rfl, q _ D ps hps (acyc_of hp hps hpar) b3 T3 hD0 hD3⟩
end
end K42
namespace K42
open PySem L2
section
variable {P : Program} {w : World} {K : PySem.W.Frag} {mg : Str → Option Value} {base : Heap}
abbrev sKinds : Stmt := top 33
def kS : FR.Kd → Str
  | .up => "up"
  | .dn => "down"
  | .fi => "first"
  | .la => "last"
def kV (k : FR.Kd) : V := .str (kS k)
theorem flat_pV (ps : List (Option Nat)) : (ps.map pV).all flatV = true := by
  rw [List.all_eq_true]
  intro v hv
  obtain ⟨o, _, rfl⟩ := List.mem_map.mp hv
  cases o <;> rfl
theorem inV_of {ps : List (Option Nat)} {f j : Nat} (h : FR.par ps f = some j) : inV (.int j) (ps.map pV) = true := by
  unfold FR.par at h
  rw [List.getD_eq_getElem?_getD] at h
  have e : ps[f]? = some (some j) := by
    cases q : ps[f]? with
    | none => rw [q] at h; cases h
    | some o => rw [q] at h; exact congrArg some h
  unfold inV
  rw [List.any_eq_true]
  exact ⟨pV (some j), List.mem_map.mpr ⟨_, List.mem_of_getElem? e, rfl⟩, by simp [pV, nV, eqV]⟩
/-- a field that is a parent compares -/
def KindsOk (ps : List (Option Nat)) (ks : List FR.Kd) : Prop := ∀ j f, j < ks.length → FR.par ps f = some j → (FR.kindAt ks j).cmp = true
theorem kindsOk_snoc {ps : List (Option Nat)} {ks : List FR.Kd} {k : FR.Kd} (h : KindsOk ps ks) (hk : ∀ f, FR.par ps f = some ks.length → k.cmp = true) : KindsOk ps (ks ++ [k]) := by
  intro j f hj e
  unfold FR.kindAt
  rw [List.getD_eq_getElem?_getD]
  by_cases hl : j < ks.length
  · rw [List.getElem?_append_left hl, ← List.getD_eq_getElem?_getD]
    exact h j f hl e
  · rw [List.length_append, List.length_singleton] at hj
    have ej : j = ks.length := by omega
    subst ej
    rw [List.getElem?_append_right (Nat.le_refl _), Nat.sub_self]
    exact hk f e
/-! ## _law_kinds(tape, parents, False): some kinds -/
def spKinds : Sp := fun vs H Q _ => ∃ (t a : Addr) (ps : List (Option Nat)), vs = [.ref t, .ref a, .bl false] ∧ ps.length ≤ 1000 ∧ TapeAt H t ∧ a ≠ t ∧ H a = some (.lst (ps.map pV)) ∧
  ∀ (H' : Hp) (p : Addr) (ks : List FR.Kd), ks.length = ps.length → KindsOk ps ks → But t H H' → TapeAt H' t → H p = none → H' p = some (.lst (ks.map kV)) → Q (.ref p) H'
theorem kd_of {r : Int} (h0 : 0 ≤ r) (h1 : r < 4) : ∃ k : FR.Kd, ([V.str "up", V.str "down", V.str "first", V.str "last"] : List V)[r.toNat]? = some (kV k) ∧ (r < 2 → k.cmp = true) := by
  have h3 : r = 0 ∨ r = 1 ∨ r = 2 ∨ r = 3 := by omega
  rcases h3 with e | e | e | e <;> subst e
  · exact ⟨.up, rfl, fun _ => rfl⟩
  · exact ⟨.dn, rfl, fun _ => rfl⟩
  · exact ⟨.fi, rfl, fun h => by omega⟩
  · exact ⟨.la, rfl, fun h => by omega⟩
theorem scKinds : FnScope ["_law_tape_here", "_law_parents_here", "_law_fair", "_law_kinds_here", "_law_field", "_law_pick"] ["_law_tape_here", "_law_parents_here", "_law_fair"] (defScope sKinds) := ⟨rfl, rfl, rfl, by decide +kernel, rfl, by decide +kernel, by decide +kernel⟩
theorem df_kinds (T : Tx K mg "_law_kinds" sKinds ["_law_tape_here", "_law_parents_here", "_law_fair"]) (B : Bl mg) (D_take : DTake P w K mg base) : Df P w K mg base CX0 2 "_law_kinds" ["_law_tape_here", "_law_parents_here", "_law_fair"] spKinds := T.df fun f fd F => by
  refine F.ok scKinds (fun vs H Q E h => ?_) (fun cdv A outer s H vs Q E hr h => ?_)
  · obtain ⟨t, a, ps, rfl, _⟩ := h
    rfl
  · obtain ⟨t, a, ps, rfl, hn, hT, nat, ha, q⟩ := h
    refine ⟨_, (pss_cons (ps_set (i := 3) scKinds.nd rfl (Or.inl rfl) (pe_lst pa_nil))
      (pss_cons (ps_for PassesOwn.never rfl (pi_range1 (by rfl) B.range (pa_cons (pe_callB call_len_seq (by rfl) B.len PySem.boot_len (pa_cons (pv 1) pa_nil)) pa_nil)) (pg_name (i := 4) scKinds.nd rfl (Or.inl rfl)) (pss_cons (ps_set (i := 5) scKinds.nd rfl (Or.inl rfl) (pe_df D_take (hr.mono (by decide)) pass0 (pa_cons (pv 0) (pa_cons pe_int pa_nil))))
      (pss_cons (ps_if (PW.pt (pw_or (pt_val (pv 2)) (pw_or1 (pt_cmpR op_in_seq (pv 4) (pv 1) (by rfl))))) (pss_one (ps_set (i := 5) scKinds.nd rfl (Or.inl rfl) (pe_op op_mod (pe_callTy call_int1 (by rfl) B.int (by decide +kernel) (pa_cons (pv 5) pa_nil)) pe_int))) pss_nil)
      (pss_one (ps_expr (pe_bm PySem.F.plainAttrs_list PySem.F.slot_list_append PySem.F.type_list_append mt_append (pv 3) (pa_cons (pe_ix ix_list (pe_lst (pa_cons pe_str (pa_cons pe_str (pa_cons pe_str (pa_cons pe_str pa_nil))))) (pv 5) (fun _ _ => rfl)) pa_nil)))))))
      (pss_one (ps_ret (pv 3))))), ?_⟩
    refine ⟨Nat.zero_le _, fun L hL => ?_⟩
    have ntL : t ≠ L := hT.ne hL
    have naL : a ≠ L := ne_of_none ha hL
    have ha1 : upd H L (.lst []) a = some (.lst (ps.map pV)) := by rw [upd_ne naL]; exact ha
    refine ⟨_, rfl, a, _, rfl, .inl (SqL.of ha1), ?_⟩
    rw [List.length_map]
    refine ⟨_, rfl, by omega, by omega, for_range (lo := 0) (n := (ps.length : Int).toNat) (fun i σ H' => ∃ (ks : List FR.Kd) (v w : Option V), σ = [some (.ref t), some (.ref a), some (.bl false), some (.ref L), v, w] ∧
      ks.length = i ∧ KindsOk ps ks ∧ But t H H' ∧ TapeAt H' t ∧ H' L = some (.lst (ks.map kV))) ?_ ?_ ?_⟩
    · exact ⟨[], none, none, rfl, rfl, fun j f hj => by simp at hj, (But.refl t H).put hL, hT.put ntL, upd_same⟩
    · rintro i σ H' hi ⟨ks, v, w, rfl, hl, hk, b1, T1, h1⟩
      refine ⟨_, rfl, t, _, rfl, by decide, by decide, T1, fun H2 r r0 r1 b2 T2 => ?_⟩
      have h2 := b2 _ _ ntL.symm h1
      have b12 := b1.trans b2
      have ha2 := b12 _ _ nat ha
      -- the end of the turn
      have rest : ∀ (z : Int) (hz0 : 0 ≤ z) (hz1 : z < 4) (hz : ∀ f, FR.par ps f = some ks.length → z < 2) (E : Ends), (∀ σ H'', (∃ (ks : List FR.Kd) (v w : Option V), σ = [some (.ref t), some (.ref a), some (.bl false), some (.ref L), v, w] ∧
          ks.length = i + 1 ∧ KindsOk ps ks ∧ But t H H'' ∧ TapeAt H'' t ∧ H'' L = some (.lst (ks.map kV))) → E.nx σ H'') →
          tDrop (tBM K "list" rAppend (tVar 3) (tCons (tOp (rIxL K) (tLst (tCons (tC (V.str "up")) (tCons (tC (V.str "down")) (tCons (tC (V.str "first")) (tCons (tC (V.str "last")) tNil))))) (tVar 5)) tNil)) E
            [some (.ref t), some (.ref a), some (.bl false), some (.ref L), some (.int (0 + (i : Int))), some (.int z)] H2 := by
        intro z hz0 hz1 hz E hE
        obtain ⟨k, ek, hc⟩ := kd_of hz0 hz1
        refine ⟨_, rfl, .inl ⟨rfl, _, SqL.of h2⟩, (by show 4 ≤ sizeLine; decide), fun p hp => ?_⟩
        have npL : L ≠ p := ne_of_none h2 hp
        have p0 : H p = none := b12.free (T2.ne hp).symm hp
        refine ⟨_, rfl, p, _, _, kV k, rfl, rfl, SqL.of upd_same, at_of (j := z.toNat) (by omega) ek, ?_⟩
        refine ⟨L, _, _, rfl, rfl, by rw [upd_ne npL]; exact h2, by rw [List.length_map]; exact small1000 (by omega), ?_⟩
        refine hE _ _ ⟨ks ++ [k], _, _, rfl, by simp [hl], kindsOk_snoc hk fun f e => hc (hz f e), (b12.put p0).put hL, (T2.put (T2.ne hp)).put ntL, ?_⟩
        rw [upd_same, List.map_append]
        rfl
      refine ⟨_, rfl, false, rfl, ?_⟩
      refine iteF ?_
      refine ⟨_, rfl, _, rfl, a, _, rfl, .inl (SqL.of ha2), rfl, flat_pV ps, _, rfl, ?_⟩
      have ei : (0 : Int) + (i : Int) = ((ks.length : Nat) : Int) := by omega
      rw [ei]
      refine ite2 (fun c => ?_) (fun c => ?_)
      · refine ⟨_, rfl, .inl ⟨_, rfl, _, _, rfl, rfl, (by show (0 : Int) < 2; decide), ?_⟩⟩
        have m0 := Int.emod_nonneg r (show (2 : Int) ≠ 0 by decide)
        have m1 := Int.emod_lt_of_pos r (show (0 : Int) < 2 by decide)
        rw [← ei]
        exact rest (r % 2) m0 (by omega) (fun _ _ => m1) _ (fun _ _ h => h)
      · rw [← ei]
        exact rest r r0 r1 (fun f e => absurd (inV_of e) (by simpa using c)) _ (fun _ _ h => h)
    · rintro σ H' ⟨ks, v, w, rfl, hl, hk, b1, T1, h1⟩
      exact ⟨_, rfl, q _ L ks (by omega) hk b1 T1 hL h1⟩
end
end K42
namespace K42
open PySem L2
section
variable {P : Program} {w : World} {K : PySem.W.Frag} {mg : Str → Option Value} {base : Heap}
abbrev sPath : Stmt := top 34
theorem par_at {ps : List (Option Nat)} {g : Nat} (h : g < ps.length) : (ps.map pV)[g]? = some (pV (FR.par ps g)) := by
  unfold FR.par
  rw [List.getElem?_map, List.getD_eq_getElem?_getD, List.getElem?_eq_getElem h]
  rfl
/-! ## _law_path(parents, field) -/
def spPath : Sp := fun vs H Q _ => ∃ (a : Addr) (ps : List (Option Nat)) (f : Nat), vs = [.ref a, .int f] ∧ ps.length ≤ 1000 ∧ (∀ f h, f < ps.length → FR.par ps f = some h → h < ps.length) ∧ H a = some (.lst (ps.map pV)) ∧ f < ps.length ∧
  ∀ (p : Addr), H p = none → Q (.ref p) (upd H p (.lst ((FR.path ps f).map nV)))
theorem scPath : FnScope ["_law_parents_here", "_law_field", "_law_path_here", "_law_k"] ["_law_parents_here", "_law_field"] (defScope sPath) := ⟨rfl, rfl, rfl, by decide +kernel, rfl, by decide +kernel, by decide +kernel⟩
theorem df_path (T : Tx K mg "_law_path" sPath ["_law_parents_here", "_law_field"]) (B : Bl mg) : Df P w K mg base CX0 1 "_law_path" ["_law_parents_here", "_law_field"] spPath := T.df fun f fd F => by
  refine F.ok scPath (fun vs H Q E h => ?_) (fun cdv A outer s H vs Q E hr h => ?_)
  · obtain ⟨a, ps, f, rfl, _⟩ := h
    rfl
  · obtain ⟨a, ps, f, rfl, hn, low, ha, hf, q⟩ := h
    refine ⟨_, (pss_cons (ps_set (i := 2) scPath.nd rfl (Or.inl rfl) (pe_lst (pa_cons (pv 1) pa_nil)))
      (pss_cons (ps_for PassesOwn.never rfl (pi_range1 (by rfl) B.range (pa_cons (pe_callB call_len_seq (by rfl) B.len PySem.boot_len (pa_cons (pv 0) pa_nil)) pa_nil)) (pg_name (i := 3) scPath.nd rfl (Or.inl rfl)) (pss_one (ps_if (pt_cmpR op_notN (pe_ix ix_list (pv 0) (pe_ix ix_list (pv 2) pe_int (fun _ _ => rfl)) (fun _ _ => rfl)) pe_non (nomark _)) (pss_one (ps_expr (pe_bm PySem.F.plainAttrs_list PySem.F.slot_list_insert PySem.F.type_list_insert mt_insert (pv 2) (pa_cons pe_int (pa_cons (pe_ix ix_list (pv 0) (pe_ix ix_list (pv 2) pe_int (fun _ _ => rfl)) (fun _ _ => rfl)) pa_nil))))) pss_nil)))
      (pss_one (ps_ret (pv 2))))), ?_⟩
    refine ⟨_, rfl, (by show 1 ≤ sizeLine; decide), fun p hp => ?_⟩
    have nap : a ≠ p := ne_of_none ha hp
    have hap : ∀ o, upd H p o a = some (.lst (ps.map pV)) := fun o => by rw [upd_ne nap]; exact ha
    refine ⟨_, rfl, a, _, rfl, .inl (SqL.of (hap _)), ?_⟩
    rw [List.length_map]
    refine ⟨_, rfl, by omega, by omega, for_range (lo := 0) (n := (ps.length : Int).toNat) (fun i σ H' => ∃ (g : Nat) (l : List Nat) (v : Option V), σ = [some (.ref a), some (.int f), some (.ref p), v] ∧ l.length ≤ i ∧
      FR.iterP ps (ps.length - i) (g :: l) = FR.path ps f ∧ g < ps.length ∧ H' = upd H p (.lst ((g :: l).map nV))) ?_ ?_ ?_⟩
    · exact ⟨f, [], none, rfl, Nat.le_refl _, FR.iter_path f, hf, rfl⟩
    · rintro i σ H' hi ⟨g, l, v, rfl, hl, e, hg, rfl⟩
      obtain ⟨m, em⟩ : ∃ m, ps.length - i = m + 1 := ⟨ps.length - i - 1, by omega⟩
      have em' : ps.length - (i + 1) = m := by omega
      rw [em] at e
      refine ⟨_, rfl, _, rfl, p, _, _, nV g, rfl, rfl, SqL.of upd_same, at_of (j := 0) rfl rfl, a, _, _, _, rfl, rfl, SqL.of (hap _), at_of (j := g) rfl (par_at hg), rfl, _, rfl, ?_⟩
      cases ep : FR.par ps g with
      | none =>
        refine iteF ⟨g, l, _, rfl, by omega, ?_, hg, rfl⟩
        rw [em']
        have e2 : FR.iterP ps m (FR.stepP ps (g :: l)) = FR.path ps f := e
        simp only [FR.stepP, ep] at e2
        exact e2
      | some h =>
        refine iteT ⟨_, rfl, .inl ⟨rfl, _, SqL.of upd_same⟩, ?_⟩
        refine ⟨_, rfl, _, rfl, p, _, _, nV g, rfl, rfl, SqL.of upd_same, at_of (j := 0) rfl rfl, a, _, _, _, rfl, rfl, SqL.of (hap _), at_of (j := g) rfl (par_at hg), ?_⟩
        rw [ep]
        refine ⟨p, _, _, nV h, rfl, rfl, upd_same, by rw [List.length_map]; exact small1000 (by simp; omega), by omega, by omega, ?_⟩
        refine ⟨h, g :: l, _, rfl, by simp; omega, ?_, low g h hg ep, ?_⟩
        · rw [em']
          have e2 : FR.iterP ps m (FR.stepP ps (g :: l)) = FR.path ps f := e
          simp only [FR.stepP, ep] at e2
          exact e2
        · rw [upd_upd]
          rfl
    · rintro σ H' ⟨g, l, v, rfl, hl, e, hg, rfl⟩
      have e2 : g :: l = FR.path ps f := by
        have : ps.length - (ps.length : Int).toNat = 0 := by omega
        rw [this] at e
        exact e
      rw [e2]
      exact ⟨_, rfl, q p hp⟩
end
end K42
namespace K42
open PySem L2
section
variable {P : Program} {w : World} {K : PySem.W.Frag} {mg : Str → Option Value} {base : Heap}
abbrev DPath (P : Program) (w : World) (K : PySem.W.Frag) (mg : Str → Option Value) (base : Heap) : Prop := Df P w K mg base CX0 1 "_law_path" ["_law_parents_here", "_law_field"] spPath
abbrev sSide : Stmt := top 35
theorem kind_at {ks : List FR.Kd} {g : Nat} (h : g < ks.length) : (ks.map kV)[g]? = some (kV (FR.kindAt ks g)) := by
  unfold FR.kindAt
  rw [List.getElem?_map, List.getD_eq_getElem?_getD, List.getElem?_eq_getElem h]
  rfl
theorem rec_at {r : Rc} {g : Nat} (h : g < r.length) : (r.map V.int)[g]? = some (V.int (FR.at0 r g)) := by
  unfold FR.at0
  rw [List.getElem?_map, List.getD_eq_getElem?_getD, List.getElem?_eq_getElem h]
  rfl
theorem list_at {l : List Nat} {i : Nat} {x : V} (h : (l.map nV)[i]? = some x) : ∃ g, l[i]? = some g ∧ x = nV g := by
  rw [List.getElem?_map] at h
  cases e : l[i]? with
  | none => rw [e] at h; cases h
  | some g => rw [e] at h; exact ⟨g, rfl, (Option.some.inj h).symm⟩
theorem drop_at {α : Type} {l : List α} {i : Nat} {g : α} (h : l[i]? = some g) : l.drop i = g :: l.drop (i + 1) := by
  obtain ⟨h1, h2⟩ := List.getElem?_eq_some_iff.mp h
  rw [List.drop_eq_getElem_cons h1, h2]
theorem kV_fi (k : FR.Kd) : decide (kV k = V.str "first") = decide (k = .fi) := by cases k <;> decide +kernel
theorem kV_la (k : FR.Kd) : decide (kV k = V.str "last") = decide (k = .la) := by cases k <;> decide +kernel
theorem kV_up (k : FR.Kd) : decide (kV k = V.str "up") = decide (k = .up) := by cases k <;> decide +kernel
theorem kV_dn (k : FR.Kd) : decide (kV k = V.str "down") = decide (k = .dn) := by cases k <;> decide +kernel
/-! ## _law_side(parents, kinds, field, older, newer) -/
def spSide : Sp := fun vs H Q _ => ∃ (a k : Addr) (ps : List (Option Nat)) (ks : List FR.Kd) (f : Nat) (p1 p2 : Addr) (r1 r2 : Rc), vs = [.ref a, .ref k, .int f, .ref p1, .ref p2] ∧ FR.Forest ps ks ∧ H a = some (.lst (ps.map pV)) ∧ H k = some (.lst (ks.map kV)) ∧ f < ps.length ∧
  RecAt H p1 r1 ∧ RecAt H p2 r2 ∧ r1.length = ps.length ∧ r2.length = ps.length ∧ ∀ H', Same H H' → Q (.int (if FR.side (FR.kindAt ks) r1 r2 (FR.path ps f) then 1 else 0)) H'
theorem scSide : FnScope ["_law_parents_here", "_law_kinds_here", "_law_field", "_law_older", "_law_newer", "_law_place"] ["_law_parents_here", "_law_kinds_here", "_law_field", "_law_older", "_law_newer"] (defScope sSide) := ⟨rfl, rfl, rfl, by decide +kernel, rfl, by decide +kernel, by decide +kernel⟩
theorem df_side (T : Tx K mg "_law_side" sSide ["_law_parents_here", "_law_kinds_here", "_law_field", "_law_older", "_law_newer"]) (B : Bl mg) (D_path : DPath P w K mg base) : Df P w K mg base CX0 2 "_law_side" ["_law_parents_here", "_law_kinds_here", "_law_field", "_law_older", "_law_newer"] spSide := T.df fun f fd F => by
  refine F.ok scSide (fun vs H Q E h => ?_) (fun cdv A outer s H vs Q E hr h => ?_)
  · obtain ⟨a, k, ps, ks, f, p1, p2, r1, r2, rfl, _⟩ := h
    rfl
  · obtain ⟨a, k, ps, ks, f, p1, p2, r1, r2, rfl, O, ha, hk, hf, h1, h2, l1, l2, q⟩ := h
    refine ⟨_, (pss_cons (ps_for PassesOwn.never rfl (pi_list (pe_df D_path (hr.mono (by decide)) pass0 (pa_cons (pv 0) (pa_cons (pv 2) pa_nil)))) (pg_name (i := 5) scSide.nd rfl (Or.inl rfl)) (pss_one (ps_if (pt_cmpR op_ne (pe_ix ix_tup (pv 3) (pv 5) (fun _ _ => rfl)) (pe_ix ix_tup (pv 4) (pv 5) (fun _ _ => rfl)) (nomark _)) (pss_cons (ps_if (pt_cmpR op_eq (pe_ix ix_list (pv 1) (pv 5) (fun _ _ => rfl)) pe_str (nomark _)) (pss_one (ps_ret pe_int)) pss_nil)
      (pss_cons (ps_if (pt_cmpR op_eq (pe_ix ix_list (pv 1) (pv 5) (fun _ _ => rfl)) pe_str (nomark _)) (pss_one (ps_ret pe_int)) pss_nil)
      (pss_one (ps_ret (pe_callTy call_int1 (by rfl) B.int (by decide +kernel) (pa_cons (pe_cmpR op_ne (pe_cmpR op_gt (pe_ix ix_tup (pv 3) (pv 5) (fun _ _ => rfl)) (pe_ix ix_tup (pv 4) (pv 5) (fun _ _ => rfl)) (nomark _)) (pe_cmpR op_eq (pe_ix ix_list (pv 1) (pv 5) (fun _ _ => rfl)) pe_str (nomark _)) (nomark _)) pa_nil)))))) pss_nil)))
      (pss_one (ps_ret pe_int))), ?_⟩
    have m8 := O.most
    refine ⟨_, rfl, _, rfl, a, ps, f, rfl, by omega, O.low, ha, hf, fun p hp => ?_⟩
    have S1 : Same H (upd H p (.lst ((FR.path ps f).map nV))) := same_new hp
    have hk1 := S1 _ _ hk
    have h11 := h1.same S1
    have h21 := h2.same S1
    refine ⟨p, rfl, ⟨_, SqL.of upd_same⟩, for_list (K := K) (a := p) (xs := (FR.path ps f).map nV) (fun i σ H' => ∃ v, σ = [some (.ref a), some (.ref k), some (.int f), some (.ref p1), some (.ref p2), v] ∧ H' = upd H p (.lst ((FR.path ps f).map nV)) ∧
      FR.side (FR.kindAt ks) r1 r2 (FR.path ps f) = FR.side (FR.kindAt ks) r1 r2 ((FR.path ps f).drop i)) ⟨none, rfl, rfl, rfl⟩ (fun i σ H' _ ⟨_, _, e, _⟩ => by rw [e]; exact SqL.of upd_same) ?_ ?_⟩
    · rintro i x σ H' hi ⟨v, rfl, rfl, e⟩
      obtain ⟨g, hg, rfl⟩ := list_at hi
      have hgm : g ∈ FR.path ps f := List.mem_of_getElem? hg
      have hgl := FR.path_low O hf hgm
      rw [drop_at hg] at e
      have a1 : atI (r1.map V.int) (g : Int) = some (V.int (FR.at0 r1 g)) := at_of (j := g) rfl (rec_at (by omega))
      have a2 : atI (r2.map V.int) (g : Int) = some (V.int (FR.at0 r2 g)) := at_of (j := g) rfl (rec_at (by omega))
      have ak : atI (ks.map kV) (g : Int) = some (kV (FR.kindAt ks g)) := at_of (j := g) rfl (kind_at (by rw [O.len]; exact hgl))
      refine ⟨_, rfl, _, rfl, p1, _, _, _, rfl, rfl, SqT.of h11, a1, _, rfl, _, rfl, p2, _, _, _, rfl, rfl, SqT.of h21, a2, rfl, _, rfl, ?_⟩
      by_cases eq : FR.at0 r1 g = FR.at0 r2 g
      · rw [eq]
        rw [show (!decide (V.int (FR.at0 r2 g) = V.int (FR.at0 r2 g))) = false by simp]
        rw [FR.side_same eq] at e
        exact iteF ⟨_, rfl, rfl, e⟩
      · rw [show (!decide (V.int (FR.at0 r1 g) = V.int (FR.at0 r2 g))) = true by simp [eq]]
        rw [FR.side_ne eq] at e
        refine iteT ?_
        refine ⟨_, rfl, _, rfl, k, _, _, _, rfl, rfl, SqL.of hk1, ak, rfl, _, rfl, ?_⟩
        rw [kV_fi]
        refine ite2 (fun c => ?_) (fun c => ?_)
        · rw [of_decide_eq_true c] at e
          have q1 := q _ S1
          rw [e] at q1
          exact q1
        · have nfi : FR.kindAt ks g ≠ .fi := fun z => c (decide_eq_true z)
          refine ⟨_, rfl, _, rfl, k, _, _, _, rfl, rfl, SqL.of hk1, ak, rfl, _, rfl, ?_⟩
          rw [kV_la]
          refine ite2 (fun c => ?_) (fun c => ?_)
          · rw [of_decide_eq_true c] at e
            have q1 := q _ S1
            rw [e] at q1
            exact q1
          · have nla : FR.kindAt ks g ≠ .la := fun z => c (decide_eq_true z)
            refine ⟨_, rfl, _, rfl, p1, _, _, _, rfl, rfl, SqT.of h11, a1, _, rfl, _, rfl, p2, _, _, _, rfl, rfl, SqT.of h21, a2, _, _, rfl, rfl, _, rfl, _, rfl, k, _, _, _, rfl, rfl, SqL.of hk1, ak, rfl, rfl, .inr ⟨_, rfl, ?_⟩⟩
            rw [kV_up]
            have q1 := q _ S1
            rw [e] at q1
            have ez : (!decide (V.bl (decide (FR.at0 r2 g < FR.at0 r1 g)) = V.bl (decide (FR.kindAt ks g = .up)))) = FR.says (FR.kindAt ks g) (FR.at0 r1 g) (FR.at0 r2 g) := by
              cases hkd : FR.kindAt ks g with
              | fi => exact absurd hkd nfi
              | la => exact absurd hkd nla
              | up =>
                show _ = decide (FR.at0 r1 g < FR.at0 r2 g)
                by_cases c1 : FR.at0 r2 g < FR.at0 r1 g
                · have c2 : ¬ FR.at0 r1 g < FR.at0 r2 g := by omega
                  simp [c1, c2]
                · have c2 : FR.at0 r1 g < FR.at0 r2 g := by omega
                  simp [c1, c2]
              | dn =>
                show _ = decide (FR.at0 r2 g < FR.at0 r1 g)
                by_cases c1 : FR.at0 r2 g < FR.at0 r1 g
                · simp [c1]
                · simp [c1]
            rw [ez]
            exact q1
    · rintro σ H' ⟨v, rfl, rfl, e⟩
      rw [List.length_map, List.drop_length, FR.side_nil] at e
      have q1 := q _ S1
      rw [e] at q1
      exact q1
end
end K42
namespace K42
open PySem L2
section
variable {P : Program} {w : World} {K : PySem.W.Frag} {mg : Str → Option Value} {base : Heap}
abbrev sMerge : Stmt := top 36
abbrev sFold : Stmt := top 37
/-! ## _law_merge(parents, kinds, older, newer) -/
def spMerge : Sp := fun vs H Q _ => ∃ (a k : Addr) (ps : List (Option Nat)) (ks : List FR.Kd) (p1 p2 : Addr) (r1 r2 : Rc), vs = [.ref a, .ref k, .ref p1, .ref p2] ∧ FR.Forest ps ks ∧ H a = some (.lst (ps.map pV)) ∧ H k = some (.lst (ks.map kV)) ∧
  RecAt H p1 r1 ∧ RecAt H p2 r2 ∧ r1.length = ps.length ∧ r2.length = ps.length ∧ ∀ H' p, Same H H' → H p = none → RecAt H' p (FR.mrg (FR.kindAt ks) (FR.path ps) ps.length r1 r2) → Q (.ref p) H'
theorem scMerge : FnScope ["_law_parents_here", "_law_kinds_here", "_law_older", "_law_newer", "_law_pair", "_law_f"] ["_law_parents_here", "_law_kinds_here", "_law_older", "_law_newer"] (defScope sMerge) := ⟨rfl, rfl, rfl, by decide +kernel, rfl, by decide +kernel, by decide +kernel⟩
theorem df_merge (T : Tx K mg "_law_merge" sMerge ["_law_parents_here", "_law_kinds_here", "_law_older", "_law_newer"]) (B : Bl mg) (D_side : Df P w K mg base CX0 2 "_law_side" ["_law_parents_here", "_law_kinds_here", "_law_field", "_law_older", "_law_newer"] spSide) : Df P w K mg base CX0 3 "_law_merge" ["_law_parents_here", "_law_kinds_here", "_law_older", "_law_newer"] spMerge := T.df fun f fd F => by
  refine F.ok scMerge (fun vs H Q E h => ?_) (fun cdv A outer s H vs Q E hr h => ?_)
  · obtain ⟨a, k, ps, ks, p1, p2, r1, r2, rfl, _⟩ := h
    rfl
  · obtain ⟨a, k, ps, ks, p1, p2, r1, r2, rfl, O, ha, hk, h1, h2, l1, l2, q⟩ := h
    refine ⟨_, (pss_cons (ps_set (i := 4) scMerge.nd rfl (Or.inr rfl) (pe_lst (pa_cons (pv 2) (pa_cons (pv 3) pa_nil))))
      (pss_one (ps_ret (pe_callTy call_tuple_of (by rfl) B.tuple (by decide +kernel) (pa_cons (pe_lc (own := [("_law_f", 5)]) (g := gName 5) rfl scMerge.nd (pi_range1 (by rfl) B.range (pa_cons (pe_callB call_len_seq (by rfl) B.len PySem.boot_len (pa_cons (pv 0) pa_nil)) pa_nil)) (blkOk_by (N := ["_law_parents_here", "_law_kinds_here", "_law_older", "_law_newer", "_law_pair", "_law_f"]) (sc := defScope sMerge) (by decide +kernel)) (fun _ _ _ _ _ => pg_name (i := 5) scMerge.nd rfl (Or.inl rfl)) (fun _ _ _ _ _ => pts_nil) (fun _ _ _ _ _ => (pe_ix (ix_tupK K) (pe_ix (ix_listK K) (pv 4) (pe_df D_side (hr.mono (by decide)) pass0 (pa_cons (pv 0) (pa_cons (pv 1) (pa_cons (pv 5) (pa_cons (pv 2) (pa_cons (pv 3) pa_nil)))))) (fun _ _ => rfl)) (pv 5) (fun _ _ => rfl)))) pa_nil))))), ?_⟩
    have m8 := O.most
    refine ⟨_, rfl, _, rfl, (by show 2 ≤ sizeLine; decide), fun c hc => ?_⟩
    have Sc : Same H (upd H c (.lst [.ref p1, .ref p2])) := same_new hc
    refine ⟨_, rfl, a, _, rfl, .inl (SqL.of (Sc _ _ ha)), ?_⟩
    rw [List.length_map]
    refine ⟨_, rfl, by omega, by omega, fun D hD => ?_⟩
    have SD : Same (upd H c (.lst [.ref p1, .ref p2])) (upd (upd H c (.lst [.ref p1, .ref p2])) D (.lst [])) := same_new hD
    have D0 : H D = none := Sc.free hD
    have M : (FR.mrg (FR.kindAt ks) (FR.path ps) ps.length r1 r2).length = ps.length := FR.mrg_length ..
    refine lc_range (n := (ps.length : Int).toNat) (fun i H' => Same H H' ∧ H' c = some (.lst [.ref p1, .ref p2]) ∧ H' D = some (.lst (((FR.mrg (FR.kindAt ks) (FR.path ps) ps.length r1 r2).take i).map V.int))) ⟨Sc.trans SD, SD _ _ upd_same, by rw [List.take_zero]; exact upd_same⟩ ?_ ?_
    · rintro i H' hi ⟨S1, hc1, hD1⟩
      have hin : i < ps.length := by omega
      refine ⟨rfl, _, rfl, _, rfl, _, rfl, _, rfl, _, rfl, _, rfl, a, k, ps, ks, i, p1, p2, r1, r2, by rw [Int.zero_add]; rfl, O, S1 _ _ ha, S1 _ _ hk, hin, h1.same S1, h2.same S1, l1, l2, fun H2 S2 => ?_⟩
      have hc2 := S2 _ _ hc1
      have hD2 := S2 _ _ hD1
      have S12 := S1.trans S2
      have pk : ∃ (p : Addr) (r : Rc), ([V.ref p1, V.ref p2] : List V)[if FR.side (FR.kindAt ks) r1 r2 (FR.path ps i) then 1 else 0]? = some (.ref p) ∧ RecAt H2 p r ∧ r.length = ps.length ∧ FR.at0 r i = FR.at0 (FR.mrg (FR.kindAt ks) (FR.path ps) ps.length r1 r2) i := by
        rw [FR.mrg_at _ _ hin]
        by_cases z : FR.side (FR.kindAt ks) r1 r2 (FR.path ps i) = true
        · rw [z]
          exact ⟨p2, r2, rfl, h2.same S12, l2, rfl⟩
        · rw [Bool.not_eq_true] at z
          rw [z]
          exact ⟨p1, r1, rfl, h1.same S12, l1, rfl⟩
      obtain ⟨p, r, e1, e2, e3, e4⟩ := pk
      refine ⟨c, _, _, .ref p, rfl, rfl, SqL.of hc2, at_of (j := if FR.side (FR.kindAt ks) r1 r2 (FR.path ps i) then 1 else 0) (by split <;> rfl) e1, ?_⟩
      refine ⟨_, rfl, p, _, _, .int (FR.at0 r i), rfl, rfl, SqT.of e2, at_of (j := i) (by omega) (rec_at (by omega)), ?_⟩
      refine ⟨_, hD2, by rw [List.length_map, List.length_take]; exact small1000 (by omega), fun b o e => ?_, ?_, ?_⟩
      · rw [upd_ne (ne_of_none e D0)]
        exact S12 _ _ e
      · rw [upd_ne (ne_of_none upd_same hD)]
        exact hc2
      · have ei : (FR.mrg (FR.kindAt ks) (FR.path ps) ps.length r1 r2)[i]? = some (FR.at0 r i) := by
          rw [e4]
          unfold FR.at0
          rw [List.getD_eq_getElem?_getD, List.getElem?_eq_getElem (by omega)]
          rfl
        rw [upd_same, List.take_succ, ei, List.map_append]
        rfl
    · rintro H' ⟨S1, hc1, hD1⟩
      have et : (FR.mrg (FR.kindAt ks) (FR.path ps) ps.length r1 r2).take (ps.length : Int).toNat = FR.mrg (FR.kindAt ks) (FR.path ps) ps.length r1 r2 := List.take_of_length_le (by omega)
      rw [et] at hD1
      refine ⟨D, _, rfl, .inl ⟨SqL.of hD1, fun p hp => ?_⟩⟩
      exact q _ p (S1.trans (same_new hp)) (S1.free hp) upd_same
/-! ## _law_fold(parents, kinds, records) -/
def spFold : Sp := fun vs H Q _ => ∃ (a k : Addr) (ps : List (Option Nat)) (ks : List FR.Kd) (l : Addr) (rs : List Rc), vs = [.ref a, .ref k, .ref l] ∧ FR.Forest ps ks ∧ H a = some (.lst (ps.map pV)) ∧ H k = some (.lst (ks.map kV)) ∧
  RowAt H l rs ∧ rs ≠ [] ∧ (∀ r ∈ rs, r.length = ps.length) ∧ rs.length ≤ 1000 ∧ ∀ H' p, Same H H' → RecAt H' p (FR.fold (FR.kindAt ks) (FR.path ps) ps.length rs) → Q (.ref p) H'
theorem scFold : FnScope ["_law_parents_here", "_law_kinds_here", "_law_records", "_law_end", "_law_record_here"] ["_law_parents_here", "_law_kinds_here", "_law_records"] (defScope sFold) := ⟨rfl, rfl, rfl, by decide +kernel, rfl, by decide +kernel, by decide +kernel⟩
theorem fold_take {kd : Nat → FR.Kd} {P : Nat → List Nat} {n : Nat} {r : Rc} {rs : List Rc} {i : Nat} {y : Rc} (h : rs[i]? = some y) : FR.fold kd P n (r :: rs.take (i + 1)) = FR.mrg kd P n (FR.fold kd P n (r :: rs.take i)) y := by
  show (rs.take (i + 1)).foldl _ _ = _
  rw [List.take_succ, h, List.foldl_append]
  rfl
theorem df_fold (T : Tx K mg "_law_fold" sFold ["_law_parents_here", "_law_kinds_here", "_law_records"]) (B : Bl mg) (D_merge : Df P w K mg base CX0 3 "_law_merge" ["_law_parents_here", "_law_kinds_here", "_law_older", "_law_newer"] spMerge) : Df P w K mg base CX0 4 "_law_fold" ["_law_parents_here", "_law_kinds_here", "_law_records"] spFold := T.df fun f fd F => by
  refine F.ok scFold (fun vs H Q E h => ?_) (fun cdv A outer s H vs Q E hr h => ?_)
  · obtain ⟨a, k, ps, ks, l, rs, rfl, _⟩ := h
    rfl
  · obtain ⟨a, k, ps, ks, l, rs, rfl, O, ha, hk, ⟨vs, hl, R⟩, hne, hlen, hm, q⟩ := h
    refine ⟨_, (pss_cons (ps_set (i := 3) scFold.nd rfl (Or.inl rfl) (pe_ix ix_list (pv 2) pe_int (fun _ _ => rfl)))
      (pss_cons (ps_for PassesOwn.never rfl (pi_list (pe_slice sl_list (pv 2) (po_some pe_int) po_none)) (pg_name (i := 4) scFold.nd rfl (Or.inl rfl)) (pss_one (ps_set (i := 3) scFold.nd rfl (Or.inl rfl) (pe_df D_merge (hr.mono (by decide)) pass0 (pa_cons (pv 0) (pa_cons (pv 1) (pa_cons (pv 3) (pa_cons (pv 4) pa_nil))))))))
      (pss_one (ps_ret (pv 3))))), ?_⟩
    match rs, vs, R, hne with
    | r :: rs, v0 :: vs, .cons ⟨p0, e0, h0⟩ R, _ =>
      subst e0
      refine ⟨_, rfl, l, _, _, .ref p0, rfl, rfl, SqL.of hl, at_of (j := 0) rfl rfl, ?_⟩
      refine ⟨_, rfl, _, rfl, l, _, rfl, SqL.of hl, fun c hc => ?_⟩
      have Sc : Same H (upd H c (.lst (cutV (V.ref p0 :: vs) (some 1) none))) := same_new hc
      have ecut : cutV (V.ref p0 :: vs) (some 1) none = vs := by
        have e1 : HT.sIx (vs.length + 1) 0 (some 1) = 1 := by
          unfold HT.sIx
          simp
        have e2 : HT.sIx (vs.length + 1) (vs.length + 1) none = vs.length + 1 := rfl
        unfold cutV
        rw [List.length_cons, e1, e2]
        simp
      rw [ecut] at Sc ⊢
      have hlr : vs.length = rs.length := Rows.length R
      refine ⟨c, rfl, ⟨_, SqL.of upd_same⟩, for_list (K := K) (a := c) (xs := vs) (fun i σ H' => ∃ (p : Addr) (v : Option V), σ = [some (.ref a), some (.ref k), some (.ref l), some (.ref p), v] ∧ Same H H' ∧ H' c = some (.lst vs) ∧
        RecAt H' p (FR.fold (FR.kindAt ks) (FR.path ps) ps.length (r :: rs.take i))) ⟨p0, none, rfl, Sc, upd_same, h0.same Sc⟩ (fun i σ H' _ ⟨_, _, _, _, e, _⟩ => SqL.of e) ?_ ?_⟩
      · rintro i x σ H' hi ⟨p, v, rfl, S1, hc1, hp⟩
        obtain ⟨p2, r2, rfl, hr2, h2⟩ := Rows.get' (vs := vs) (rs := rs) R hi
        have lp : (FR.fold (FR.kindAt ks) (FR.path ps) ps.length (r :: rs.take i)).length = ps.length := FR.fold_length (by simp) fun x hx => by
          rcases List.mem_cons.mp hx with e | hx
          · rw [e]; exact hlen r (by simp)
          · exact hlen x (List.mem_cons_of_mem _ (List.mem_of_mem_take hx))
        refine ⟨_, rfl, _, rfl, _, rfl, _, rfl, a, k, ps, ks, p, p2, _, r2, rfl, O, S1 _ _ ha, S1 _ _ hk, hp, h2.same S1, lp, hlen r2 (List.mem_cons_of_mem _ (List.mem_of_getElem? hr2)), fun H2 p3 S2 _ h3 => ?_⟩
        exact ⟨p3, _, rfl, S1.trans S2, S2 _ _ hc1, by rw [fold_take hr2]; exact h3⟩
      · rintro σ H' ⟨p, v, rfl, S1, hc1, hp⟩
        rw [hlr, List.take_length] at hp
        exact ⟨_, rfl, q _ p S1 hp⟩
end
end K42
namespace K42
open PySem L2
section
variable {P : Program} {w : World} {K : PySem.W.Frag} {mg : Str → Option Value} {base : Heap}
abbrev sFields : Stmt := top 40
abbrev sRow : Stmt := top 41
/-! ## _law_fields(tape): 1 to 8 -/
def spFields : Sp := fun vs H Q _ => ∃ (t : Addr), vs = [.ref t] ∧ TapeAt H t ∧ ∀ (H' : Hp) (n : Nat), 1 ≤ n → n ≤ 8 → But t H H' → TapeAt H' t → Q (.int n) H'
theorem scFields : FnScope ["_law_tape_here"] ["_law_tape_here"] (defScope sFields) := ⟨rfl, rfl, rfl, by decide +kernel, rfl, by decide +kernel, by decide +kernel⟩
theorem df_fields (T : Tx K mg "_law_fields" sFields ["_law_tape_here"]) (B : Bl mg) (D_take : DTake P w K mg base) : Df P w K mg base CX0 2 "_law_fields" ["_law_tape_here"] spFields := T.df fun f fd F => by
  refine F.ok scFields (fun vs H Q E h => ?_) (fun cdv A outer s H vs Q E hr h => ?_)
  · obtain ⟨t, rfl, _⟩ := h
    rfl
  · obtain ⟨t, rfl, hT, q⟩ := h
    refine ⟨_, (pss_cons (ps_if (pt_cmpR op_eq (pe_df D_take (hr.mono (by decide)) pass0 (pa_cons (pv 0) (pa_cons pe_int pa_nil))) pe_int (nomark _)) (pss_one (ps_ret (pe_op op_add pe_int (pe_df D_take (hr.mono (by decide)) pass0 (pa_cons (pv 0) (pa_cons pe_int pa_nil)))))) pss_nil)
      (pss_one (ps_ret (pe_op op_add pe_int (pe_df D_take (hr.mono (by decide)) pass0 (pa_cons (pv 0) (pa_cons pe_int pa_nil))))))), ?_⟩
    refine ⟨_, rfl, t, _, rfl, by decide, by decide, hT, fun H1 r _ _ b1 T1 => ?_⟩
    refine ⟨rfl, _, rfl, ?_⟩
    refine ite2 (fun c => ?_) (fun c => ?_)
    · refine ⟨_, rfl, t, _, rfl, by decide, by decide, T1, fun H2 x x0 x1 b2 T2 => ?_⟩
      refine ⟨_, _, rfl, rfl, ?_⟩
      obtain ⟨m, rfl⟩ : ∃ m : Nat, x = (m : Int) := ⟨x.toNat, by omega⟩
      have q1 := q H2 (7 + m) (by omega) (by omega) (b1.trans b2) T2
      rw [Int.natCast_add] at q1
      exact q1
    · refine ⟨_, rfl, t, _, rfl, by decide, by decide, T1, fun H2 x x0 x1 b2 T2 => ?_⟩
      refine ⟨_, _, rfl, rfl, ?_⟩
      obtain ⟨m, rfl⟩ : ∃ m : Nat, x = (m : Int) := ⟨x.toNat, by omega⟩
      have q1 := q H2 (1 + m) (by omega) (by omega) (b1.trans b2) T2
      rw [Int.natCast_add] at q1
      exact q1
/-! ## _law_row(script, parents, count, span): a row of records -/
def spRow (K : PySem.W.Frag) : Sp := fun vs H Q _ => ∃ (s a : Addr) (ns : List Int) (ps : List (Option Nat)) (n : Int) (span : Int), vs = [.ref s, .ref a, .int n, .int span] ∧ SqL K H s (ns.map V.int) ∧ H a = some (.lst (ps.map pV)) ∧
  1 ≤ ps.length ∧ ps.length ≤ 1000 ∧ (∀ f h, f < ps.length → FR.par ps f = some h → h < ps.length) ∧ (∀ f, f < ps.length → ∀ g ∈ FR.path ps f, g < ps.length) ∧ 0 ≤ n ∧ n ≤ 1000 ∧ 0 < span ∧ span < 1073741824 ∧
  ∀ (H' : Hp) (p : Addr) (rs : List Rc), (rs.length : Int) = n → (∀ r ∈ rs, r.length = ps.length) → Same H H' → H p = none → RowAt H' p rs → Q (.ref p) H'
theorem scRow : FnScope ["_law_script", "_law_parents_here", "_law_count", "_law_span", "_law_records", "_law_k", "_law_tape_here", "_law_record_here", "_law_elder", "_law_place"] ["_law_script", "_law_parents_here", "_law_count", "_law_span"] (defScope sRow) := ⟨rfl, rfl, rfl, by decide +kernel, rfl, by decide +kernel, by decide +kernel⟩
theorem df_row (T : Tx K mg "_law_row" sRow ["_law_script", "_law_parents_here", "_law_count", "_law_span"]) (B : Bl mg) (D_take : DTake P w K mg base) (D_tape : Df P w K mg base CX0 1 "_law_tape" ["_law_script", "_law_k"] (spTape K)) (D_record : Df P w K mg base CX0 3 "_law_record" ["_law_tape_here", "_law_n", "_law_span"] spRecord) (D_path : DPath P w K mg base) :
    Df P w K mg base CX0 4 "_law_row" ["_law_script", "_law_parents_here", "_law_count", "_law_span"] (spRow K) := T.df fun f fd F => by
  refine F.ok scRow (fun vs H Q E h => ?_) (fun cdv A outer s H vs Q E hr h => ?_)
  · obtain ⟨sa, a, ns, ps, n, span, rfl, _⟩ := h
    rfl
  · obtain ⟨sa, a, ns, ps, n, span, rfl, hs, ha, hp1, hp2, low, plow, hn0, hn1, sp0, sp1, q⟩ := h
    refine ⟨_, (pss_cons (ps_set (i := 4) scRow.nd rfl (Or.inl rfl) (pe_lst pa_nil))
      (pss_cons (ps_for PassesOwn.never rfl (pi_range1 (by rfl) B.range (pa_cons (pv 2) pa_nil)) (pg_name (i := 5) scRow.nd rfl (Or.inl rfl)) (pss_cons (ps_set (i := 6) scRow.nd rfl (Or.inl rfl) (pe_df D_tape (hr.mono (by decide)) pass0 (pa_cons (pv 0) (pa_cons (pe_op op_add pe_int (pv 5)) pa_nil))))
      (pss_cons (ps_set (i := 7) scRow.nd rfl (Or.inl rfl) (pe_callTy call_list_of (by rfl) B.list (by decide +kernel) (pa_cons (pe_df D_record (hr.mono (by decide)) pass0 (pa_cons (pv 6) (pa_cons (pe_callB call_len_seq (by rfl) B.len PySem.boot_len (pa_cons (pv 1) pa_nil)) (pa_cons (pv 3) pa_nil)))) pa_nil)))
      (pss_cons (ps_if (PW.pt (pw_and (pt_cmpR op_gt (pv 5) pe_int (nomark _)) (pw_and1 (pt_cmpR op_eq (pe_df D_take (hr.mono (by decide)) pass0 (pa_cons (pv 6) (pa_cons pe_int pa_nil))) pe_int (nomark _))))) (pss_cons (ps_set (i := 8) scRow.nd rfl (Or.inl rfl) (pe_ix ix_list (pv 4) (pe_df D_take (hr.mono (by decide)) pass0 (pa_cons (pv 6) (pa_cons (pv 5) pa_nil))) (fun _ _ => rfl)))
      (pss_one (ps_for PassesOwn.never rfl (pi_list (pe_df D_path (hr.mono (by decide)) pass0 (pa_cons (pv 1) (pa_cons (pe_df D_take (hr.mono (by decide)) pass0 (pa_cons (pv 6) (pa_cons (pe_callB call_len_seq (by rfl) B.len PySem.boot_len (pa_cons (pv 1) pa_nil)) pa_nil))) pa_nil)))) (pg_name (i := 9) scRow.nd rfl (Or.inl rfl)) (pss_one (ps_asg (pe_ix ix_tup (pv 8) (pv 9) (fun _ _ => rfl)) (pg_sub (pv 7) (pv 9) set_list)))))) pss_nil)
      (pss_one (ps_expr (pe_bm PySem.F.plainAttrs_list PySem.F.slot_list_append PySem.F.type_list_append mt_append (pv 4) (pa_cons (pe_callTy call_tuple_of (by rfl) B.tuple (by decide +kernel) (pa_cons (pv 7) pa_nil)) pa_nil))))))))
      (pss_one (ps_ret (pv 4))))), ?_⟩
    refine ⟨Nat.zero_le _, fun L hL => ?_⟩
    refine ⟨_, rfl, _, rfl, by omega, by omega, for_range (lo := 0) (n := n.toNat) (fun i σ H' => ∃ (vs : List V) (rs : List Rc) (v5 v6 v7 v8 v9 : Option V), σ = [some (.ref sa), some (.ref a), some (.int n), some (.int span), some (.ref L), v5, v6, v7, v8, v9] ∧
      rs.length = i ∧ (∀ r ∈ rs, r.length = ps.length) ∧ Same H H' ∧ H' L = some (.lst vs) ∧ Rows H' vs rs) ?_ ?_ ?_⟩
    · exact ⟨[], [], _, _, _, _, _, rfl, rfl, fun r h => by simp at h, same_new hL, upd_same, .nil⟩
    · rintro i σ H1 hi ⟨vs, rs, v5, v6, v7, v8, v9, rfl, hl, hlen, S1, h1, R1⟩
      have hi0 : (0 : Int) ≤ 2 + (0 + (i : Int)) := by omega
      refine ⟨_, rfl, _, rfl, _, _, rfl, rfl, sa, ns, _, rfl, hi0, S1.seq hs, fun tt c htt => ?_⟩
      have S2 : Same H1 (upd H1 tt (.lst [.int c, .int 0])) := same_new htt
      have T2 : TapeAt (upd H1 tt (.lst [.int c, .int 0])) tt := ⟨_, _, upd_same⟩
      generalize hH2 : upd H1 tt (.lst [.int c, .int 0]) = H2 at S2 T2 ⊢
      have S02 := S1.trans S2
      refine ⟨_, rfl, _, rfl, a, _, rfl, .inl (SqL.of (S02 _ _ ha)), _, rfl, tt, _, span, by rw [List.length_map]; rfl, by omega, by omega, sp0, sp1, T2, fun H3 p r hr b3 T3 hp2n hp3 => ?_⟩
      have S13 : Same H1 H3 := fun b o e => b3 _ _ (ne_of_none e htt) (S2 _ _ e)
      refine ⟨p, _, rfl, .inr (SqT.of hp3), fun rh hrh => ?_⟩
      have S34 : Same H3 (upd H3 rh (.lst (r.map V.int))) := same_new hrh
      have S14 := S13.trans S34
      have ntr : tt ≠ rh := T3.ne hrh
      have T4 : TapeAt (upd H3 rh (.lst (r.map V.int))) tt := T3.put ntr
      have h4 : upd H3 rh (.lst (r.map V.int)) rh = some (.lst (r.map V.int)) := upd_same
      generalize hH4 : upd H3 rh (.lst (r.map V.int)) = H4 at S34 S14 T4 h4 ⊢
      have rh1 : H1 rh = none := by
        cases e : H1 rh with
        | none => rfl
        | some o =>
          have := S13 _ _ e
          rw [hrh] at this
          cases this
      have lr : r.length = ps.length := by omega
      -- the end of the turn
      have rest : ∀ (H9 : Hp) (xs : List Int) (v8 v9 : Option V) (E : Ends), Same H1 H9 → H9 rh = some (.lst (xs.map V.int)) → xs.length = ps.length →
          (∀ σ H'', (∃ (vs : List V) (rs : List Rc) (v5 v6 v7 v8 v9 : Option V), σ = [some (.ref sa), some (.ref a), some (.int n), some (.int span), some (.ref L), v5, v6, v7, v8, v9] ∧
            rs.length = i + 1 ∧ (∀ r ∈ rs, r.length = ps.length) ∧ Same H H'' ∧ H'' L = some (.lst vs) ∧ Rows H'' vs rs) → E.nx σ H'') →
          tDrop (tBM K "list" rAppend (tVar 4) (tCons (tCB (fun xs H Q => ∃ p ys, xs = [.ref p] ∧ ((SqL K H p ys ∧ ∀ l, H l = none → Q (.ref l) (upd H l (.tup ys))) ∨ (SqT K H p ys ∧ Q (.ref p) H))) (tCons (tVar 7) tNil)) tNil)) E
            [some (.ref sa), some (.ref a), some (.int n), some (.int span), some (.ref L), some (.int (0 + (i : Int))), some (.ref tt), some (.ref rh), v8, v9] H9 := by
        intro H9 xs v8 v9 E S9 h9 lx hE
        have hL9 := S9 _ _ h1
        refine ⟨_, rfl, .inl ⟨rfl, _, SqL.of hL9⟩, _, rfl, rh, _, rfl, .inl ⟨SqL.of h9, fun p3 hp3 => ?_⟩⟩
        have S10 : Same H9 (upd H9 p3 (.tup (xs.map V.int))) := same_new hp3
        have hlv : vs.length = rs.length := Rows.length R1
        refine ⟨L, _, _, rfl, rfl, S10 _ _ hL9, small1000 (by omega), ?_⟩
        have S11 : ∀ {o : HO}, Same H (upd (upd H9 p3 (.tup (xs.map V.int))) L o) := fun {o} b u e => by
          rw [upd_ne (ne_of_none e hL)]
          exact S10 _ _ (S9 _ _ (S1 _ _ e))
        have tup_up : ∀ {o : HO} (p : Addr) (r : Rc), RecAt (upd H9 p3 (.tup (xs.map V.int))) p r → RecAt (upd (upd H9 p3 (.tup (xs.map V.int))) L o) p r := fun {o} p r e => by
          have nL : p ≠ L := ne_of e (S10 _ _ hL9) (by intro z; cases z)
          unfold RecAt
          rw [upd_ne nL]
          exact e
        refine hE _ _ ⟨vs ++ [.ref p3], rs ++ [xs], _, _, _, _, _, rfl, by simp [hl], fun y hy => ?_, S11, upd_same, ?_⟩
        · rcases List.mem_append.mp hy with hy | hy
          · exact hlen y hy
          · rw [List.mem_singleton.mp hy]
            exact lx
        · exact Rows.append ((R1.same (S9.trans S10)).imp tup_up) (.cons ⟨p3, rfl, tup_up _ _ upd_same⟩ .nil)
      refine ⟨_, rfl, _, _, rfl, rfl, _, rfl, ?_⟩
      refine ite2 (fun c => ?_) (fun c => ?_)
      · have c' : (0 : Int) < 0 + (i : Int) := of_decide_eq_true c
        refine ⟨_, rfl, tt, _, rfl, by decide, by decide, T4, fun H5 x _ _ b5 T5 => ?_⟩
        have S15 : Same H1 H5 := fun b o e => b5 _ _ (ne_of_none e htt) (S14 _ _ e)
        have h5 := b5 _ _ ntr.symm h4
        refine ⟨rfl, _, rfl, ?_⟩
        refine ite2 (fun c => ?_) (fun c => ?_)
        · refine ⟨_, rfl, _, rfl, _, rfl, tt, _, rfl, by omega, by omega, T5, fun H6 j j0 j1 b6 T6 => ?_⟩
          have S16 : Same H1 H6 := fun b o e => b6 _ _ (ne_of_none e htt) (S15 _ _ e)
          have h6 := b6 _ _ ntr.symm h5
          have hj : j.toNat < rs.length := by omega
          obtain ⟨pe, e1, e2⟩ := R1.get (i := j.toNat) (r := rs[j.toNat]) (by simp [hj])
          refine ⟨L, _, _, .ref pe, rfl, rfl, SqL.of (S16 _ _ h1), at_of (j := j.toNat) (by omega) e1, ?_⟩
          have ha6 : H6 a = some (.lst (ps.map pV)) := S16 _ _ (S1 _ _ ha)
          refine ⟨_, rfl, _, rfl, _, rfl, a, _, rfl, .inl (SqL.of ha6), tt, _, by rw [List.length_map]; rfl, by omega, by omega, T6, fun H7 y y0 y1 b7 T7 => ?_⟩
          obtain ⟨g, rfl⟩ : ∃ g : Nat, y = (g : Int) := ⟨y.toNat, by omega⟩
          have hg : g < ps.length := by omega
          have S17 : Same H1 H7 := fun b o e => b7 _ _ (ne_of_none e htt) (S16 _ _ e)
          have h7 := b7 _ _ ntr.symm h6
          have ha7 : H7 a = some (.lst (ps.map pV)) := S17 _ _ (S1 _ _ ha)
          refine ⟨a, ps, g, rfl, hp2, low, ha7, hg, fun pp hpp => ?_⟩
          have S8 : Same H7 (upd H7 pp (.lst ((FR.path ps g).map nV))) := same_new hpp
          have S18 := S17.trans S8
          have h8 := S8 _ _ h7
          have npr : pp ≠ rh := (ne_of_none h7 hpp).symm
          refine ⟨pp, rfl, ⟨_, SqL.of upd_same⟩, for_list (K := K) (a := pp) (xs := (FR.path ps g).map nV) (fun m σ H' => ∃ (xs : List Int) (v9 : Option V), σ = [some (.ref sa), some (.ref a), some (.int n), some (.int span), some (.ref L), some (.int (0 + (i : Int))), some (.ref tt), some (.ref rh), some (.ref pe), v9] ∧
            xs.length = ps.length ∧ Same H1 H' ∧ H' rh = some (.lst (xs.map V.int)) ∧ H' pp = some (.lst ((FR.path ps g).map nV)) ∧ RecAt H' pe (rs[j.toNat])) ?_ (fun m σ H' _ ⟨_, _, _, _, _, _, e, _⟩ => SqL.of e) ?_ ?_⟩
          · exact ⟨r, _, rfl, lr, S18, h8, upd_same, e2.same S18⟩
          · rintro m x σ H' hm ⟨xs, v9, rfl, lx, S9, h9, hp9, he9⟩
            obtain ⟨z, hz, rfl⟩ := list_at hm
            have hz1 := plow g hg z (List.mem_of_getElem? hz)
            have le : (rs[j.toNat]).length = ps.length := hlen _ (List.getElem_mem hj)
            refine ⟨_, rfl, _, rfl, pe, _, _, .int (FR.at0 (rs[j.toNat]) z), rfl, rfl, SqT.of he9, at_of (j := z) rfl (rec_at (by omega)), ?_⟩
            refine ⟨_, rfl, _, rfl, rh, _, _, z, rfl, rfl, h9, ?_, ?_⟩
            · unfold ixN
              rw [if_pos (by omega), if_pos (by rw [List.length_map]; omega)]
              rfl
            · refine ⟨xs.set z (FR.at0 (rs[j.toNat]) z), _, rfl, by rw [List.length_set]; exact lx, fun b o e => ?_, by rw [upd_same, List.map_set], by rw [upd_ne npr]; exact hp9, ?_⟩
              · rw [upd_ne (ne_of_none e rh1)]
                exact S9 _ _ e
              · have n1 : pe ≠ rh := ne_of he9 h9 (by intro z; cases z)
                unfold RecAt
                rw [upd_ne n1]
                exact he9
          · rintro σ H' ⟨xs, v9, rfl, lx, S9, h9, hp9, he9⟩
            exact rest H' xs _ _ _ S9 h9 lx (fun _ _ h => h)
        · exact rest H5 r _ _ _ S15 h5 lr (fun _ _ h => h)
      · exact rest H4 r _ _ _ S14 h4 lr (fun _ _ h => h)
    · rintro σ H' ⟨vs, rs, v5, v6, v7, v8, v9, rfl, hl, hlen, S1, h1, R1⟩
      exact ⟨_, rfl, q _ L rs (by omega) hlen S1 hL ⟨vs, h1, R1⟩⟩
end
end K42
namespace K42
open PySem L2
section
variable {P : Program} {w : World} {K : PySem.W.Frag} {mg : Str → Option Value} {base : Heap}
open PySem
/-! ## records and rows as data: their == -/
def recD (r : Rc) : PyData := .tuple (r.map PyData.int)
def rowD (rs : List Rc) : PyData := .list (rs.map recD)
theorem dpAll_ints {K : PySem.W.Frag} {H : Hp} : ∀ r : List Int, DpAll K H (r.map V.int) (r.map PyData.int)
  | [] => .nil
  | i :: r => .cons (.int i) (dpAll_ints r)
theorem dp_rec {K : PySem.W.Frag} {H : Hp} {p : Addr} {r : Rc} (h : RecAt H p r) : Dp K H (.ref p) (recD r) := .tup (SqT.of h) (dpAll_ints r)
theorem dpAll_rows {K : PySem.W.Frag} {H : Hp} : ∀ {vs : List V} {rs : List Rc}, Rows H vs rs → DpAll K H vs (rs.map recD)
  | _, _, .nil => .nil
  | _, _, .cons ⟨p, e, h⟩ t => by
    subst e
    exact .cons (dp_rec h) (dpAll_rows t)
theorem dp_row {K : PySem.W.Frag} {H : Hp} {l : Addr} {rs : List Rc} (h : RowAt H l rs) : Dp K H (.ref l) (rowD rs) := by
  obtain ⟨vs, e, R⟩ := h
  exact .lst (SqL.of e) (dpAll_rows R)
theorem lay_ints : ∀ r : List Int, PyData.canLayAll0 (r.map PyData.int) = true
  | [] => by simp [PyData.canLayAll0]
  | i :: r => by simp [PyData.canLayAll0, PyData.canLay0, lay_ints r]
theorem depth_ints : ∀ r : List Int, PyData.depthAll (r.map PyData.int) = 0
  | [] => by simp [PyData.depthAll]
  | i :: r => by simp [PyData.depthAll, PyData.depth, depth_ints r]
theorem lay_rec (r : Rc) : PyData.canLay0 (recD r) = true := by simp [recD, PyData.canLay0, lay_ints r]
theorem depth_rec (r : Rc) : PyData.depth (recD r) = 1 := by simp [recD, PyData.depth, depth_ints r]
theorem shaped_rec (r : Rc) : SeqAt.shaped (recD r) = true := by
  unfold SeqAt.shaped
  rw [lay_rec, depth_rec]
  rfl
theorem lay_rows : ∀ rs : List Rc, PyData.canLayAll0 (rs.map recD) = true
  | [] => by simp [PyData.canLayAll0]
  | r :: rs => by simp [PyData.canLayAll0, lay_rec, lay_rows rs]
theorem depth_rows : ∀ rs : List Rc, PyData.depthAll (rs.map recD) ≤ 1
  | [] => by simp [PyData.depthAll]
  | r :: rs => by
    have := depth_rows rs
    simp only [List.map_cons, PyData.depthAll, depth_rec]
    omega
theorem shaped_row (rs : List Rc) : SeqAt.shaped (rowD rs) = true := by
  unfold SeqAt.shaped
  have h1 : PyData.canLay0 (rowD rs) = true := by simp [rowD, PyData.canLay0, lay_rows rs]
  have h2 : PyData.depth (rowD rs) ≤ 64 := by
    have := depth_rows rs
    simp only [rowD, PyData.depth]
    omega
  rw [h1, decide_eq_true h2]
  rfl
theorem eqv_ints : ∀ a b : List Int, PyData.eqvAll (a.map PyData.int) (b.map PyData.int) = decide (a = b)
  | [], [] => by simp [PyData.eqvAll]
  | [], y :: b => by simp [PyData.eqvAll]
  | x :: a, [] => by simp [PyData.eqvAll]
  | x :: a, y :: b => by
    simp only [List.map_cons, PyData.eqvAll, PyData.eqv, eqv_ints a b]
    by_cases h1 : x = y <;> by_cases h2 : a = b <;> simp [h1, h2]
theorem eqv_rec (a b : Rc) : PyData.eqv (recD a) (recD b) = decide (a = b) := by
  unfold recD
  simp only [PyData.eqv]
  exact eqv_ints a b
theorem eqv_rows : ∀ a b : List Rc, PyData.eqvAll (a.map recD) (b.map recD) = decide (a = b)
  | [], [] => by simp [PyData.eqvAll]
  | [], y :: b => by simp [PyData.eqvAll]
  | x :: a, [] => by simp [PyData.eqvAll]
  | x :: a, y :: b => by
    simp only [List.map_cons, PyData.eqvAll, eqv_rec, eqv_rows a b]
    by_cases h1 : x = y <;> by_cases h2 : a = b <;> simp [h1, h2]
theorem eqv_row (a b : List Rc) : PyData.eqv (rowD a) (rowD b) = decide (a = b) := by
  unfold rowD
  simp only [PyData.eqv]
  exact eqv_rows a b
/-! ## slices -/
theorem cut_to (vs : List V) {i : Nat} (h : i ≤ vs.length) : cutV vs none (some (i : Int)) = vs.take i := by
  unfold cutV
  rw [HT.sIx_nat, HT.sIx_none, Nat.min_eq_left h, List.drop_zero, Nat.sub_zero]
theorem cut_from (vs : List V) {i : Nat} (h : i ≤ vs.length) : cutV vs (some (i : Int)) none = vs.drop i := by
  unfold cutV
  rw [HT.sIx_nat, HT.sIx_none, Nat.min_eq_left h]
  exact List.take_of_length_le (by rw [List.length_drop]; exact Nat.le_refl _)
end
end K42
namespace K42
open PySem L2
section
variable {P : Program} {w : World} {K : PySem.W.Frag} {mg : Str → Option Value} {base : Heap}
abbrev DRecord (P : Program) (w : World) (K : PySem.W.Frag) (mg : Str → Option Value) (base : Heap) : Prop := Df P w K mg base CX0 3 "_law_record" ["_law_tape_here", "_law_n", "_law_span"] spRecord
abbrev sTwice : Stmt := top 42
abbrev sLong : Stmt := top 43
abbrev sSpoilt : Stmt := top 44
abbrev sFirst : Stmt := top 45
/-! ## _law_twice(tape, records) -/
def spTwice : Sp := fun vs H Q _ => ∃ (t l : Addr) (rs : List Rc), vs = [.ref t, .ref l] ∧ TapeAt H t ∧ l ≠ t ∧ RowAt H l rs ∧ rs.length ≤ 1000 ∧
  ∀ (H' : Hp) (rs' : List Rc), rs'.length = rs.length → (∀ r ∈ rs', r ∈ rs) → (∀ b o, b ≠ t → b ≠ l → H b = some o → H' b = some o) → TapeAt H' t → RowAt H' l rs' → Q (.ref l) H'
theorem scTwice : FnScope ["_law_tape_here", "_law_records", "_law_elder"] ["_law_tape_here", "_law_records"] (defScope sTwice) := ⟨rfl, rfl, rfl, by decide +kernel, rfl, by decide +kernel, by decide +kernel⟩
theorem df_twice (T : Tx K mg "_law_twice" sTwice ["_law_tape_here", "_law_records"]) (B : Bl mg) (D_take : DTake P w K mg base) : Df P w K mg base CX0 2 "_law_twice" ["_law_tape_here", "_law_records"] spTwice := T.df fun f fd F => by
  refine F.ok scTwice (fun vs H Q E h => ?_) (fun cdv A outer s H vs Q E hr h => ?_)
  · obtain ⟨t, l, rs, rfl, _⟩ := h
    rfl
  · obtain ⟨t, l, rs, rfl, hT, nlt, ⟨vs, hl, R⟩, hm, q⟩ := h
    refine ⟨_, (pss_cons (ps_if (PW.pt (pw_and (pt_cmpR op_gt (pe_callB call_len_seq (by rfl) B.len PySem.boot_len (pa_cons (pv 1) pa_nil)) pe_int (nomark _)) (pw_and1 (pt_cmpR op_eq (pe_df D_take (hr.mono (by decide)) pass0 (pa_cons (pv 0) (pa_cons pe_int pa_nil))) pe_int (nomark _))))) (pss_cons (ps_set (i := 2) scTwice.nd rfl (Or.inl rfl) (pe_ix ix_list (pv 1) (pe_df D_take (hr.mono (by decide)) pass0 (pa_cons (pv 0) (pa_cons (pe_callB call_len_seq (by rfl) B.len PySem.boot_len (pa_cons (pv 1) pa_nil)) pa_nil))) (fun _ _ => rfl)))
      (pss_one (ps_asg (pv 2) (pg_sub (pv 1) (pe_df D_take (hr.mono (by decide)) pass0 (pa_cons (pv 0) (pa_cons (pe_callB call_len_seq (by rfl) B.len PySem.boot_len (pa_cons (pv 1) pa_nil)) pa_nil))) set_list)))) pss_nil)
      (pss_one (ps_ret (pv 1)))), ?_⟩
    have hlv : vs.length = rs.length := R.length
    refine ⟨_, rfl, l, _, rfl, .inl (SqL.of hl), _, _, rfl, rfl, _, rfl, ?_⟩
    refine ite2 (fun c => ?_) (fun c => ?_)
    · have c' : (1 : Int) < vs.length := of_decide_eq_true c
      refine ⟨_, rfl, t, _, rfl, by decide, by decide, hT, fun H1 x _ _ b1 T1 => ?_⟩
      refine ⟨rfl, _, rfl, ?_⟩
      have h1 := b1 _ _ nlt hl
      refine ite2 (fun c => ?_) (fun c => ?_)
      · refine ⟨_, rfl, _, rfl, _, rfl, l, _, rfl, .inl (SqL.of h1), t, _, rfl, by omega, by omega, T1, fun H2 i i0 i1 b2 T2 => ?_⟩
        have h2 := b2 _ _ nlt h1
        have hi : i.toNat < rs.length := by omega
        obtain ⟨p, e1, e2⟩ := R.get (i := i.toNat) (r := rs[i.toNat]) (by simp [hi])
        refine ⟨l, _, _, .ref p, rfl, rfl, SqL.of h2, at_of (j := i.toNat) (by omega) e1, ?_⟩
        refine ⟨_, rfl, _, rfl, _, rfl, _, rfl, l, _, rfl, .inl (SqL.of h2), t, _, rfl, by omega, by omega, T2, fun H3 j j0 j1 b3 T3 => ?_⟩
        have h3 := b3 _ _ nlt h2
        have b13 := (b1.trans b2).trans b3
        refine ⟨l, _, _, j.toNat, rfl, rfl, h3, ?_, ?_⟩
        · unfold ixN
          rw [if_pos (by omega), if_pos (by omega)]
        · have lup : ∀ {o : HO} (p : Addr) (r : Rc), RecAt H p r → RecAt (upd H3 l o) p r := fun {o} p r e => by
            have n1 : p ≠ l := ne_of e hl (by intro z; cases z)
            unfold RecAt
            rw [upd_ne n1]
            exact e.but hT b13
          refine ⟨_, rfl, q _ (rs.set j.toNat (rs[i.toNat])) (List.length_set ..) (fun r hr => ?_) (fun b o n1 n2 e => by rw [upd_ne n2]; exact b13 _ _ n1 e) (T3.put nlt.symm) ⟨_, upd_same, Rows.set (lup _ _ e2) _ (R.imp lup)⟩⟩
          rcases List.mem_or_eq_of_mem_set hr with h | h
          · exact h
          · rw [h]
            exact List.getElem_mem hi
      · exact ⟨_, rfl, q _ rs rfl (fun _ h => h) (fun b o n1 _ e => b1 _ _ n1 e) T1 ⟨vs, h1, R.but hT b1⟩⟩
    · exact ⟨_, rfl, q _ rs rfl (fun _ h => h) (fun b o _ _ e => e) hT ⟨vs, hl, R⟩⟩
/-! ## _law_long(tape, records, n): some of the records, with repetitions -/
def spLong : Sp := fun vs H Q _ => ∃ (t l : Addr) (rs : List Rc) (n : Int), vs = [.ref t, .ref l, .int n] ∧ TapeAt H t ∧ l ≠ t ∧ RowAt H l rs ∧ rs ≠ [] ∧ rs.length ≤ 1000 ∧ 1 ≤ n ∧ n ≤ 8 ∧
  ∀ (H' : Hp) (p : Addr) (rs' : List Rc), rs'.length ≤ 190 → (∀ r ∈ rs', r ∈ rs) → But t H H' → TapeAt H' t → H p = none → RowAt H' p rs' → Q (.ref p) H'
theorem scLong : FnScope ["_law_tape_here", "_law_records", "_law_n", "_law_many", "_law_k"] ["_law_tape_here", "_law_records", "_law_n"] (defScope sLong) := ⟨rfl, rfl, rfl, by decide +kernel, rfl, by decide +kernel, by decide +kernel⟩
theorem long_n {n : Int} (h1 : 1 ≤ n) (h2 : n ≤ 8) : n * (2 * n + 8) ≠ 0 ∧ (n * (2 * n + 8)).natAbs < 1073741824 ∧ 0 ≤ Int.fdiv 12000 (n * (2 * n + 8)) := by
  have h : n = 1 ∨ n = 2 ∨ n = 3 ∨ n = 4 ∨ n = 5 ∨ n = 6 ∨ n = 7 ∨ n = 8 := by omega
  rcases h with e | e | e | e | e | e | e | e <;> subst e <;> decide
theorem df_long (T : Tx K mg "_law_long" sLong ["_law_tape_here", "_law_records", "_law_n"]) (B : Bl mg) (D_take : DTake P w K mg base) : Df P w K mg base CX0 2 "_law_long" ["_law_tape_here", "_law_records", "_law_n"] spLong := T.df fun f fd F => by
  refine F.ok scLong (fun vs H Q E h => ?_) (fun cdv A outer s H vs Q E hr h => ?_)
  · obtain ⟨t, l, rs, n, rfl, _⟩ := h
    rfl
  · obtain ⟨t, l, rs, n, rfl, hT, nlt, ⟨vs, hl, R⟩, hne, hm, n1, n8, q⟩ := h
    refine ⟨_, (pss_cons (ps_set (i := 3) scLong.nd rfl (Or.inl rfl) (pe_callB (call_min2 rfl) (by rfl) B.min (by decide +kernel) (pa_cons pe_int (pa_cons (pe_op op_fdivN pe_int (pe_op op_mul (pv 2) (pe_op op_add (pe_op op_mul pe_int (pv 2)) pe_int))) pa_nil))))
      (pss_one (ps_ret (pe_lc (own := [("_law_k", 4)]) (g := gName 4) rfl scLong.nd (pi_range1 (by rfl) B.range (pa_cons (pv 3) pa_nil)) (blkOk_by (N := ["_law_tape_here", "_law_records", "_law_n", "_law_many", "_law_k"]) (sc := defScope sLong) (by decide +kernel)) (fun _ _ _ _ _ => pg_name (i := 4) scLong.nd rfl (Or.inl rfl)) (fun _ _ _ _ _ => pts_nil) (fun _ _ _ _ _ => (pe_ix (ix_listK K) (pv 1) (pe_df D_take (hr.mono (by decide)) pass0 (pa_cons (pv 0) (pa_cons (pe_callB (call_lenK K) (by rfl) B.len PySem.boot_len (pa_cons (pv 1) pa_nil)) pa_nil))) (fun _ _ => rfl))))))), ?_⟩
    have hlv : vs.length = rs.length := R.length
    have hpos : 0 < rs.length := List.length_pos_iff.mpr hne
    obtain ⟨z1, z2, z3⟩ := long_n n1 n8
    refine ⟨_, rfl, _, rfl, _, _, rfl, rfl, .inl ⟨by decide, by decide⟩, _, _, rfl, rfl, _, _, rfl, rfl, .inl ⟨by omega, by omega⟩, _, _, rfl, rfl, ⟨z1, z2⟩, _, _, rfl, ?_⟩
    have mm : ∀ x : Int, 0 ≤ x → 0 ≤ (if x < 190 then x else 190) ∧ (if x < 190 then x else 190) ≤ (190 : Int) := fun x hx => by split <;> omega
    obtain ⟨m1, m2⟩ := mm _ z3
    generalize (if Int.fdiv 12000 (n * (2 * n + 8)) < 190 then Int.fdiv 12000 (n * (2 * n + 8)) else 190) = many at m1 m2 ⊢
    refine ⟨_, rfl, _, rfl, by omega, by omega, fun D hD => ?_⟩
    have ntD : t ≠ D := hT.ne hD
    have nlD : l ≠ D := ne_of_none hl hD
    refine lc_range (n := many.toNat) (fun i H' => ∃ (ws : List V) (rs' : List Rc), rs'.length = i ∧ (∀ r ∈ rs', r ∈ rs) ∧ But t H H' ∧ TapeAt H' t ∧ H' D = some (.lst ws) ∧ Rows H' ws rs') ⟨[], [], rfl, fun r h => by simp at h, (But.refl t H).put hD, hT.put ntD, upd_same, .nil⟩ ?_ ?_
    · rintro i H' hi ⟨ws, rs', hl1, hsub, b1, T1, hD1, R1⟩
      have h1 := b1 _ _ nlt hl
      refine ⟨rfl, _, rfl, _, rfl, _, rfl, l, _, rfl, .inl (SqL.of h1), t, _, rfl, by omega, by omega, T1, fun H2 j j0 j1 b2 T2 => ?_⟩
      have h2 := b2 _ _ nlt h1
      have hD2 := b2 _ _ ntD.symm hD1
      have hj : j.toNat < rs.length := by omega
      obtain ⟨p, e1, e2⟩ := R.get (i := j.toNat) (r := rs[j.toNat]) (by simp [hj])
      refine ⟨l, _, _, .ref p, rfl, rfl, SqL.of h2, at_of (j := j.toNat) (by omega) e1, ?_⟩
      have lw : ws.length = rs'.length := R1.length
      have b12 := b1.trans b2
      have lup : ∀ {o : HO} (p : Addr) (r : Rc), RecAt H2 p r → RecAt (upd H2 D o) p r := fun {o} p r e => by
        have n1 : p ≠ D := ne_of e hD2 (by intro z; cases z)
        unfold RecAt
        rw [upd_ne n1]
        exact e
      refine ⟨_, hD2, small1000 (by omega), ws ++ [.ref p], rs' ++ [rs[j.toNat]], by simp [hl1], fun r hr => ?_, b12.put hD, T2.put ntD, upd_same, ?_⟩
      · rcases List.mem_append.mp hr with h | h
        · exact hsub r h
        · rw [List.mem_singleton.mp h]
          exact List.getElem_mem hj
      · exact Rows.append ((R1.but T1 b2).imp lup) (.cons ⟨p, rfl, lup _ _ (e2.but hT b12)⟩ .nil)
    · rintro H' ⟨ws, rs', hl1, hsub, b1, T1, hD1, R1⟩
      exact q _ D rs' (by omega) hsub b1 T1 hD ⟨ws, hD1, R1⟩

end
end K42
namespace K42
open PySem L2
section
variable {P : Program} {w : World} {K : PySem.W.Frag} {mg : Str → Option Value} {base : Heap}
abbrev sDue : Stmt := top 46
/-! ## _law_spoilt(tape, records, n): records of a wrong length put in -/
def spSpoilt : Sp := fun vs H Q _ => ∃ (t l : Addr) (rs : List Rc) (n : Int), vs = [.ref t, .ref l, .int n] ∧ TapeAt H t ∧ l ≠ t ∧ RowAt H l rs ∧ rs.length ≤ 900 ∧ 1 ≤ n ∧ n ≤ 100 ∧
  ∀ (H' : Hp) (p : Addr) (rs' : List Rc), rs'.length ≤ rs.length + 2 → (∃ r ∈ rs', (r.length : Int) ≠ n) → But t H H' → TapeAt H' t → H p = none → RowAt H' p rs' → Q (.ref p) H'
theorem sizes_of {n j : Int} (hn : 1 ≤ n) (h0 : 0 ≤ j) (h1 : j < 4) : ∃ z : Int, ([V.int (n + 1), V.int (n - 1), V.int 0, V.int (n + 2)] : List V)[j.toNat]? = some (V.int z) ∧ 0 ≤ z ∧ z ≤ n + 2 ∧ z ≠ n := by
  have h : j = 0 ∨ j = 1 ∨ j = 2 ∨ j = 3 := by omega
  rcases h with e | e | e | e <;> subst e
  · exact ⟨n + 1, rfl, by omega, by omega, by omega⟩
  · exact ⟨n - 1, rfl, by omega, by omega, by omega⟩
  · exact ⟨0, rfl, by omega, by omega, by omega⟩
  · exact ⟨n + 2, rfl, by omega, by omega, by omega⟩
theorem scSpoilt : FnScope ["_law_tape_here", "_law_records", "_law_n", "_law_spoilt_here", "_law_sizes", "_law_k", "_law_wrong"] ["_law_tape_here", "_law_records", "_law_n"] (defScope sSpoilt) := ⟨rfl, rfl, rfl, by decide +kernel, rfl, by decide +kernel, by decide +kernel⟩
theorem df_spoilt (T : Tx K mg "_law_spoilt" sSpoilt ["_law_tape_here", "_law_records", "_law_n"]) (B : Bl mg) (D_take : DTake P w K mg base) (D_record : DRecord P w K mg base) : Df P w K mg base CX0 4 "_law_spoilt" ["_law_tape_here", "_law_records", "_law_n"] spSpoilt := T.df fun f fd F => by
  refine F.ok scSpoilt (fun vs H Q E h => ?_) (fun cdv A outer s H vs Q E hr h => ?_)
  · obtain ⟨t, l, rs, n, rfl, _⟩ := h
    rfl
  · obtain ⟨t, l, rs, n, rfl, hT, nlt, ⟨vs, hl, R⟩, hm, n1, n8, q⟩ := h
    refine ⟨_, (pss_cons (ps_set (i := 3) scSpoilt.nd rfl (Or.inl rfl) (pe_callTy call_list_of (by rfl) B.list (by decide +kernel) (pa_cons (pv 1) pa_nil)))
      (pss_cons (ps_set (i := 4) scSpoilt.nd rfl (Or.inl rfl) (pe_lst (pa_cons (pe_op op_add (pv 2) pe_int) (pa_cons (pe_op op_sub (pv 2) pe_int) (pa_cons pe_int (pa_cons (pe_op op_add (pv 2) pe_int) pa_nil))))))
      (pss_cons (ps_for PassesOwn.never rfl (pi_range1 (by rfl) B.range (pa_cons (pe_op op_add pe_int (pe_df D_take (hr.mono (by decide)) pass0 (pa_cons (pv 0) (pa_cons pe_int pa_nil)))) pa_nil)) (pg_name (i := 5) scSpoilt.nd rfl (Or.inl rfl)) (pss_cons (ps_set (i := 6) scSpoilt.nd rfl (Or.inl rfl) (pe_df D_record (hr.mono (by decide)) pass0 (pa_cons (pv 0) (pa_cons (pe_ix ix_list (pv 4) (pe_df D_take (hr.mono (by decide)) pass0 (pa_cons (pv 0) (pa_cons pe_int pa_nil))) (fun _ _ => rfl)) (pa_cons pe_int pa_nil)))))
      (pss_one (ps_expr (pe_bm PySem.F.plainAttrs_list PySem.F.slot_list_insert PySem.F.type_list_insert mt_insert (pv 3) (pa_cons (pe_df D_take (hr.mono (by decide)) pass0 (pa_cons (pv 0) (pa_cons (pe_op op_add (pe_callB call_len_seq (by rfl) B.len PySem.boot_len (pa_cons (pv 3) pa_nil)) pe_int) pa_nil))) (pa_cons (pv 6) pa_nil)))))))
      (pss_one (ps_ret (pv 3)))))), ?_⟩
    have hlv : vs.length = rs.length := R.length
    refine ⟨_, rfl, l, _, rfl, .inl (SqL.of hl), fun L hL => ?_⟩
    have ntL : t ≠ L := hT.ne hL
    refine ⟨_, rfl, _, _, rfl, rfl, _, rfl, _, _, rfl, rfl, _, rfl, _, _, rfl, rfl, (by show 4 ≤ sizeLine; decide), fun Z hZ => ?_⟩
    have SL : Same H (upd H L (.lst vs)) := same_new hL
    have nLZ : L ≠ Z := ne_of_none upd_same hZ
    have hZ0 : H Z = none := SL.free hZ
    have TL : TapeAt (upd H L (.lst vs)) t := hT.new hL
    have TZ := TL.new (o := .lst [.int (n + 1), .int (n - 1), .int 0, .int (n + 2)]) hZ
    have ntZ : t ≠ Z := TL.ne hZ
    have bZ : But t H (upd (upd H L (.lst vs)) Z (.lst [.int (n + 1), .int (n - 1), .int 0, .int (n + 2)])) := ((But.refl t H).put hL).put hZ0
    have hLZ : upd (upd H L (.lst vs)) Z (.lst [.int (n + 1), .int (n - 1), .int 0, .int (n + 2)]) L = some (.lst vs) := by rw [upd_ne nLZ]; exact upd_same
    refine ⟨_, rfl, t, _, rfl, by decide, by decide, TZ, fun H1 x x0 x1 b1 T1 => ?_⟩
    have h1L := b1 _ _ ntL.symm hLZ
    have h1Z := b1 _ _ ntZ.symm upd_same
    refine ⟨_, _, rfl, rfl, _, rfl, by omega, by omega, for_range (lo := 0) (n := (1 + x).toNat) (fun i σ H' => ∃ (ws : List V) (rs' : List Rc) (v w : Option V), σ = [some (.ref t), some (.ref l), some (.int n), some (.ref L), some (.ref Z), v, w] ∧
      rs'.length = rs.length + i ∧ (0 < i → ∃ r ∈ rs', (r.length : Int) ≠ n) ∧ But t H H' ∧ TapeAt H' t ∧ H' L = some (.lst ws) ∧ Rows H' ws rs' ∧ H' Z = some (.lst [.int (n + 1), .int (n - 1), .int 0, .int (n + 2)])) ?_ ?_ ?_⟩
    · exact ⟨vs, rs, none, none, rfl, rfl, fun h => by omega, bZ.trans b1, T1, h1L, R.but hT (bZ.trans b1), h1Z⟩
    · rintro i σ H2 hi ⟨ws, rs', v, w, rfl, hl2, hw, b2, T2, hL2, R2, hZ2⟩
      clear hw
      have lw : ws.length = rs'.length := R2.length
      refine ⟨_, rfl, _, rfl, _, rfl, t, _, rfl, by decide, by decide, T2, fun H3 j j0 j1 b3 T3 => ?_⟩
      obtain ⟨z, ez, z0, z1, zn⟩ := sizes_of n1 j0 j1
      have hL3 := b3 _ _ ntL.symm hL2
      have hZ3 := b3 _ _ ntZ.symm hZ2
      refine ⟨Z, _, _, .int z, rfl, rfl, SqL.of hZ3, at_of (j := j.toNat) (by omega) ez, ?_⟩
      refine ⟨t, z, 3, rfl, z0, by omega, by decide, by decide, T3, fun H4 p r lr b4 T4 hp3 hp4 => ?_⟩
      have hL4 := b4 _ _ ntL.symm hL3
      have hZ4 := b4 _ _ ntZ.symm hZ3
      refine ⟨_, rfl, .inl ⟨rfl, _, SqL.of hL4⟩, _, rfl, _, rfl, L, _, rfl, .inl (SqL.of hL4), _, _, rfl, rfl, t, _, rfl, by omega, by omega, T4, fun H5 k k0 k1 b5 T5 => ?_⟩
      have hL5 := b5 _ _ ntL.symm hL4
      have hZ5 := b5 _ _ ntZ.symm hZ4
      have b25 := (b3.trans b4).trans b5
      have lup : ∀ {o : HO} (p : Addr) (r : Rc), RecAt H5 p r → RecAt (upd H5 L o) p r := fun {o} p r e => by
        have n1 : p ≠ L := ne_of e hL5 (by intro z; cases z)
        unfold RecAt
        rw [upd_ne n1]
        exact e
      have R5 := R2.but T2 b25
      refine ⟨_, rfl, L, _, _, _, rfl, rfl, hL5, small1000 (by omega), k0, by omega, ?_⟩
      refine ⟨ws.take k.toNat ++ [.ref p] ++ ws.drop k.toNat, rs'.take k.toNat ++ [r] ++ rs'.drop k.toNat, _, _, rfl, ?_, fun _ => ⟨r, by simp, by omega⟩, (b2.trans b25).put hL, T5.put ntL, upd_same, ?_, by rw [upd_ne nLZ.symm]; exact hZ5⟩
      · rw [List.length_append, List.length_append, List.length_take, List.length_drop, List.length_singleton]
        omega
      · exact Rows.append (Rows.append ((R5.imp lup).take _) (.cons ⟨p, rfl, lup _ _ (hp4.but T4 b5)⟩ .nil)) ((R5.imp lup).drop _)
    · rintro σ H' ⟨ws, rs', v, w, rfl, hl2, hw, b2, T2, hL2, R2, hZ2⟩
      exact ⟨_, rfl, q _ L rs' (by omega) (hw (by omega)) b2 T2 hL ⟨ws, hL2, R2⟩⟩
/-! ## _law_first_wrong(records, n) -/
/-- the first record of a wrong length, or None -/
def FirstW (n : Int) (rs : List Rc) (o : Option Rc) : Prop := (o = none ∧ ∀ r ∈ rs, (r.length : Int) = n) ∨ ∃ i r, o = some r ∧ rs[i]? = some r ∧ (∀ x ∈ rs.take i, (x.length : Int) = n) ∧ (r.length : Int) ≠ n
def spFirst : Sp := fun vs H Q _ => ∃ (l : Addr) (rs : List Rc) (n : Int), vs = [.ref l, .int n] ∧ RowAt H l rs ∧
  ((∀ r ∈ rs, (r.length : Int) = n) → Q .non H) ∧ (∀ i p r, rs[i]? = some r → (∀ x ∈ rs.take i, (x.length : Int) = n) → (r.length : Int) ≠ n → RecAt H p r → Q (.ref p) H)
theorem scFirst : FnScope ["_law_records", "_law_n", "_law_record_here"] ["_law_records", "_law_n"] (defScope sFirst) := ⟨rfl, rfl, rfl, by decide +kernel, rfl, by decide +kernel, by decide +kernel⟩
theorem take_all {n : Int} {rs : List Rc} {i : Nat} {r : Rc} (h : ∀ x ∈ rs.take i, (x.length : Int) = n) (e : rs[i]? = some r) (hr : (r.length : Int) = n) : ∀ x ∈ rs.take (i + 1), (x.length : Int) = n := by
  intro x hx
  rw [List.take_succ, e] at hx
  rcases List.mem_append.mp hx with hx | hx
  · exact h x hx
  · have : x = r := by simpa using hx
    rw [this]
    exact hr
theorem df_first_wrong (T : Tx K mg "_law_first_wrong" sFirst ["_law_records", "_law_n"]) (B : Bl mg) : Df P w K mg base CX0 1 "_law_first_wrong" ["_law_records", "_law_n"] spFirst := T.df fun f fd F => by
  refine F.ok scFirst (fun vs H Q E h => ?_) (fun cdv A outer s H vs Q E hr h => ?_)
  · obtain ⟨l, rs, n, rfl, _⟩ := h
    rfl
  · obtain ⟨l, rs, n, rfl, ⟨vs, hl, R⟩, q1, q2⟩ := h
    refine ⟨_, (pss_cons (ps_for PassesOwn.never rfl (pi_list (pv 0)) (pg_name (i := 2) scFirst.nd rfl (Or.inl rfl)) (pss_one (ps_if (pt_cmpR op_ne (pe_callB call_len_seq (by rfl) B.len PySem.boot_len (pa_cons (pv 2) pa_nil)) (pv 1) (nomark _)) (pss_one (ps_ret (pv 2))) pss_nil)))
      (pss_one (ps_ret pe_non))), ?_⟩
    have lv : vs.length = rs.length := R.length
    refine ⟨_, rfl, l, rfl, ⟨_, SqL.of hl⟩, for_list (K := K) (a := l) (xs := vs) (fun i σ H' => ∃ v, σ = [some (.ref l), some (.int n), v] ∧ H' = H ∧ ∀ x ∈ rs.take i, (x.length : Int) = n) ⟨none, rfl, rfl, fun x hx => by simp at hx⟩ (fun i σ H' _ ⟨_, _, e, _⟩ => by rw [e]; exact SqL.of hl) ?_ ?_⟩
    · rintro i x σ H' hi ⟨v, rfl, rfl, hall⟩
      obtain ⟨p, r, rfl, hr, hp⟩ := R.get' hi
      refine ⟨_, rfl, p, _, rfl, .inr (SqT.of hp), _, rfl, rfl, _, rfl, ?_⟩
      rw [List.length_map]
      refine ite2 (fun c => ?_) (fun c => ?_)
      · refine ⟨_, rfl, q2 i p r hr hall ?_ hp⟩
        intro e
        rw [e] at c
        simp at c
      · refine ⟨_, rfl, rfl, take_all hall hr ?_⟩
        have : V.int (r.length : Int) = V.int n := by simpa using c
        exact V.int.inj this
    · rintro σ H' ⟨v, rfl, rfl, hall⟩
      refine q1 ?_
      rw [lv, List.take_length] at hall
      exact hall
/-! ## _law_due(parents, kinds, records, index) -/
def less (rs : List Rc) (i : Nat) : List Rc := rs.take i ++ rs.drop (i + 1)
def due (ps : List (Option Nat)) (ks : List FR.Kd) (rs : List Rc) (i : Nat) : Bool :=
  !decide (less rs i = []) && decide (FR.fold (FR.kindAt ks) (FR.path ps) ps.length (less rs i) = FR.fold (FR.kindAt ks) (FR.path ps) ps.length rs)
theorem less_sub {rs : List Rc} {i : Nat} : ∀ r ∈ less rs i, r ∈ rs := fun r hr => (List.mem_append.mp hr).elim List.mem_of_mem_take List.mem_of_mem_drop
theorem less_len (rs : List Rc) (i : Nat) : (less rs i).length ≤ rs.length := by
  unfold less
  rw [List.length_append, List.length_take, List.length_drop]
  omega
def spDue : Sp := fun vs H Q _ => ∃ (a k : Addr) (ps : List (Option Nat)) (ks : List FR.Kd) (l : Addr) (rs : List Rc) (i : Nat), vs = [.ref a, .ref k, .ref l, .int i] ∧ FR.Forest ps ks ∧ H a = some (.lst (ps.map pV)) ∧ H k = some (.lst (ks.map kV)) ∧
  RowAt H l rs ∧ i < rs.length ∧ (∀ r ∈ rs, r.length = ps.length) ∧ rs.length ≤ 1000 ∧ ∀ H', Same H H' → Q (.bl (due ps ks rs i)) H'
theorem scDue : FnScope ["_law_parents_here", "_law_kinds_here", "_law_records", "_law_index", "_law_rest"] ["_law_parents_here", "_law_kinds_here", "_law_records", "_law_index"] (defScope sDue) := ⟨rfl, rfl, rfl, by decide +kernel, rfl, by decide +kernel, by decide +kernel⟩
theorem df_due (T : Tx K mg "_law_due" sDue ["_law_parents_here", "_law_kinds_here", "_law_records", "_law_index"]) (B : Bl mg) (D_fold : Df P w K mg base CX0 4 "_law_fold" ["_law_parents_here", "_law_kinds_here", "_law_records"] spFold) : Df P w K mg base CX0 5 "_law_due" ["_law_parents_here", "_law_kinds_here", "_law_records", "_law_index"] spDue := T.df fun f fd F => by
  refine F.ok scDue (fun vs H Q E h => ?_) (fun cdv A outer s H vs Q E hr h => ?_)
  · obtain ⟨a, k, ps, ks, l, rs, i, rfl, _⟩ := h
    rfl
  · obtain ⟨a, k, ps, ks, l, rs, i, rfl, O, ha, hk, ⟨vs, hl, R⟩, hi, hlen, hm, q⟩ := h
    refine ⟨_, (pss_cons (ps_set (i := 4) scDue.nd rfl (Or.inl rfl) (pe_op op_cat (pe_slice sl_list (pv 2) po_none (po_some (pv 3))) (pe_slice sl_list (pv 2) (po_some (pe_op op_add (pv 3) pe_int)) po_none)))
      (pss_cons (ps_if (pt_cmpR (op_eqD hr.units) (pv 4) (pe_lst pa_nil) (nomark _)) (pss_one (ps_ret pe_bl)) pss_nil)
      (pss_one (ps_ret (pe_cmpR (op_eqD hr.units) (pe_df D_fold (hr.mono (by decide)) pass0 (pa_cons (pv 0) (pa_cons (pv 1) (pa_cons (pv 4) pa_nil)))) (pe_df D_fold (hr.mono (by decide)) pass0 (pa_cons (pv 0) (pa_cons (pv 1) (pa_cons (pv 2) pa_nil)))) (nomark _)))))), ?_⟩
    have lv : vs.length = rs.length := R.length
    refine ⟨_, rfl, _, rfl, _, rfl, l, _, rfl, SqL.of hl, fun c hc => ?_⟩
    rw [cut_to vs (i := i) (by omega)]
    have S1 : Same H (upd H c (.lst (vs.take i))) := same_new hc
    refine ⟨_, rfl, _, rfl, _, _, rfl, rfl, _, rfl, l, _, rfl, SqL.of (S1 _ _ hl), fun d hd => ?_⟩
    rw [show ((i : Int) + 1) = ((i + 1 : Nat) : Int) from rfl, cut_from vs (i := i + 1) (by omega)]
    have S2 : Same (upd H c (.lst (vs.take i))) (upd (upd H c (.lst (vs.take i))) d (.lst (vs.drop (i + 1)))) := same_new hd
    refine ⟨c, d, _, _, rfl, rfl, S2 _ _ upd_same, upd_same, ?_, fun e he => ?_⟩
    · have h1000 : (vs.take i).length + (vs.drop (i + 1)).length ≤ 1000 := by
        rw [List.length_take, List.length_drop]
        omega
      exact Nat.le_of_lt (small1000 h1000)
    generalize upd (upd H c (.lst (vs.take i))) d (.lst (vs.drop (i + 1))) = H2 at S2 he ⊢
    have S3 : Same H (upd H2 e (.lst (vs.take i ++ vs.drop (i + 1)))) := (S1.trans S2).trans (same_new he)
    have RL : RowAt (upd H2 e (.lst (vs.take i ++ vs.drop (i + 1)))) e (less rs i) := ⟨_, upd_same, Rows.append ((R.same S3).take i) ((R.same S3).drop (i + 1))⟩
    generalize upd H2 e (.lst (vs.take i ++ vs.drop (i + 1))) = H3 at S3 RL ⊢
    refine ⟨_, rfl, Nat.zero_le _, fun z hz => ?_⟩
    have S4 : Same H3 (upd H3 z (.lst [])) := same_new hz
    refine ⟨rowD (less rs i), rowD [], dp_row (RL.same S4), dp_row ⟨[], upd_same, .nil⟩, shaped_row _, shaped_row _, _, rfl, ?_⟩
    rw [eqv_row]
    have S04 := S3.trans S4
    generalize upd H3 z (.lst []) = H4 at S4 S04 ⊢
    refine ite2 (fun cc => ?_) (fun cc => ?_)
    · have e1 : less rs i = [] := of_decide_eq_true cc
      have q1 := q _ S04
      unfold due at q1
      rw [e1] at q1
      exact q1
    · have e1 : ¬ less rs i = [] := fun z => cc (decide_eq_true z)
      refine ⟨_, rfl, _, rfl, _, rfl, a, k, ps, ks, e, _, rfl, O, S04 _ _ ha, S04 _ _ hk, RL.same S4, e1, fun r hr => hlen r (less_sub r hr), Nat.le_trans (less_len rs i) hm, fun H5 p S5 hp => ?_⟩
      have S05 := S04.trans S5
      refine ⟨_, rfl, _, rfl, _, rfl, a, k, ps, ks, l, rs, rfl, O, S05 _ _ ha, S05 _ _ hk, ⟨vs, S05 _ _ hl, R.same S05⟩, (fun z => by rw [z] at hi; simp at hi), hlen, hm, fun H6 p2 S6 hp2 => ?_⟩
      refine ⟨_, _, dp_rec (hp.same S6), dp_rec hp2, shaped_rec _, shaped_rec _, ?_⟩
      rw [eqv_rec]
      have q1 := q _ (S05.trans S6)
      unfold due at q1
      rw [decide_eq_false e1] at q1
      exact q1
end
end K42
namespace K42
open PySem L2
section
variable {P : Program} {w : World} {K : PySem.W.Frag} {mg : Str → Option Value} {base : Heap}
abbrev sBetter : Stmt := top 9
abbrev sPathOf : Stmt := top 10
abbrev sBestOf : Stmt := top 13
abbrev sEndRow : Stmt := top 14
/-! ## better -/
def spBetter : Sp := fun vs H Q _ => ∃ (k : FR.Kd) (x y : Int), vs = [kV k, .int x, .int y] ∧ Q (.bl (FR.better k x y)) H
theorem scBetter : FnScope ["kind", "value", "other"] ["kind", "value", "other"] (defScope sBetter) := ⟨rfl, rfl, rfl, by decide +kernel, rfl, by decide +kernel, by decide +kernel⟩
theorem df_better (T : Tx K mg "better" sBetter ["kind", "value", "other"]) : Df P w K mg base CX0 1 "better" ["kind", "value", "other"] spBetter := T.df fun f fd F => by
  refine F.ok scBetter (fun vs H Q E h => ?_) (fun cdv A outer s H vs Q E hr h => ?_)
  · obtain ⟨k, x, y, rfl, _⟩ := h
    rfl
  · obtain ⟨k, x, y, rfl, q⟩ := h
    refine ⟨_, (pss_cons (ps_if (pt_cmpR op_eq (pv 0) pe_str (nomark _)) (pss_one (ps_ret (pe_cmpR op_gt (pv 1) (pv 2) (nomark _)))) pss_nil)
      (pss_cons (ps_if (pt_cmpR op_eq (pv 0) pe_str (nomark _)) (pss_one (ps_ret (pe_cmpR op_lt (pv 1) (pv 2) (nomark _)))) pss_nil)
      (pss_one (ps_ret pe_bl)))), ?_⟩
    refine ⟨_, rfl, rfl, _, rfl, ?_⟩
    rw [kV_up]
    refine ite2 (fun c => ?_) (fun c => ?_)
    · rw [of_decide_eq_true c] at q
      exact ⟨_, rfl, _, rfl, _, _, rfl, rfl, q⟩
    · refine ⟨_, rfl, rfl, _, rfl, ?_⟩
      rw [kV_dn]
      refine ite2 (fun c2 => ?_) (fun c2 => ?_)
      · rw [of_decide_eq_true c2] at q
        exact ⟨_, rfl, _, rfl, _, _, rfl, rfl, q⟩
      · have e : FR.better k x y = false := by
          cases k with
          | up => exact absurd (decide_eq_true rfl) c
          | dn => exact absurd (decide_eq_true rfl) c2
          | fi => rfl
          | la => rfl
        rw [e] at q
        exact q
/-! ## path_of -/
def spPathOf : Sp := fun vs H Q _ => ∃ (a : Addr) (ps : List (Option Nat)) (ks : List FR.Kd) (f : Nat), vs = [.ref a, .int f] ∧ FR.Forest ps ks ∧ H a = some (.tup (ps.map pV)) ∧ f < ps.length ∧
  ∀ (H' : Hp) (p : Addr), Same H H' → H p = none → H' p = some (.tup ((FR.path ps f).map nV)) → Q (.ref p) H'
theorem path_len (ps : List (Option Nat)) : ∀ k f, (FR.chain ps k f).length ≤ k + 1
  | 0, f => Nat.le_refl _
  | k + 1, f => by
    unfold FR.chain
    split
    · simp
    · rw [List.length_append, List.length_singleton]
      have := path_len ps k ‹Nat›
      omega
theorem scPathOf : FnScope ["parents", "field", "path"] ["parents", "field"] (defScope sPathOf) := ⟨rfl, rfl, rfl, by decide +kernel, rfl, by decide +kernel, by decide +kernel⟩
theorem df_path_of (T : Tx K mg "path_of" sPathOf ["parents", "field"]) (B : Bl mg) : Df P w K mg base CX0 1 "path_of" ["parents", "field"] spPathOf := T.df fun f fd F => by
  refine F.ok scPathOf (fun vs H Q E h => ?_) (fun cdv A outer s H vs Q E hr h => ?_)
  · obtain ⟨a, ps, ks, f, rfl, _⟩ := h
    rfl
  · obtain ⟨a, ps, ks, f, rfl, O, ha, hf, q⟩ := h
    refine ⟨_, (pss_cons (ps_set (i := 2) scPathOf.nd rfl (Or.inl rfl) (pe_lst (pa_cons (pv 1) pa_nil)))
      (pss_cons (ps_while PassesOwn.never (pt_cmpR op_notN (pe_ix ix_tup (pv 0) (pe_ix ix_list (pv 2) (pe_un un_neg pe_int) (fun _ _ => rfl)) (fun _ _ => rfl)) pe_non (nomark _)) (pss_one (ps_expr (pe_bm PySem.F.plainAttrs_list PySem.F.slot_list_append PySem.F.type_list_append mt_append (pv 2) (pa_cons (pe_ix ix_tup (pv 0) (pe_ix ix_list (pv 2) (pe_un un_neg pe_int) (fun _ _ => rfl)) (fun _ _ => rfl)) pa_nil)))))
      (pss_one (ps_ret (pe_callTy call_tuple_of (by rfl) B.tuple (by decide +kernel) (pa_cons (pe_revL (pv 2)) pa_nil)))))), ?_⟩
    obtain ⟨d, d1, d2⟩ := O.deep
    have m8 := O.most
    refine ⟨_, rfl, (by show 1 ≤ sizeLine; decide), fun p hp => ?_⟩
    have hap : ∀ {o}, upd H p o a = some (.tup (ps.map pV)) := fun {o} => by rw [upd_ne (ne_of_none ha hp)]; exact ha
    have pl : (FR.path ps f).length ≤ 9 := by
      have := path_len ps ps.length f
      unfold FR.path
      omega
    refine ⟨fun m σ H' => ∃ (g : Nat) (l : List Nat), m = d g ∧ σ = [some (.ref a), some (.int f), some (.ref p)] ∧ g < ps.length ∧ FR.path ps f = FR.path ps g ++ l ∧ H' = upd H p (.lst (l.reverse.map nV ++ [nV g])), ⟨d f, f, [], rfl, rfl, hf, (List.append_nil _).symm, rfl⟩, ?_⟩
    rintro m σ H' ⟨g, l, rfl, rfl, hg, el, rfl⟩
    refine ⟨_, rfl, _, rfl, _, rfl, p, _, _, nV g, rfl, rfl, SqL.of upd_same, atI_last _ _, a, _, _, _, rfl, rfl, SqT.of hap, at_of (j := g) rfl (par_at hg), rfl, _, rfl, ?_⟩
    cases ep : FR.par ps g with
    | some h =>
      have hh := O.low g h hg ep
      have e2 : FR.path ps f = FR.path ps h ++ (g :: l) := by rw [el, FR.path_step O hg ep, List.append_assoc]; rfl
      refine ⟨fun σ H' => σ = [some (.ref a), some (.int f), some (.ref p)] ∧ H' = upd H p (.lst ((g :: l).reverse.map nV ++ [nV h])), fun σ' H' ⟨e1, e3⟩ => ⟨d h, d1 g h hg ep, h, g :: l, rfl, e1, hh, e2, e3⟩, ?_⟩
      refine ⟨_, rfl, .inl ⟨rfl, _, SqL.of upd_same⟩, ?_⟩
      refine ⟨_, rfl, _, rfl, _, rfl, p, _, _, nV g, rfl, rfl, SqL.of upd_same, atI_last _ _, a, _, _, _, rfl, rfl, SqT.of hap, at_of (j := g) rfl (par_at hg), ?_⟩
      rw [ep]
      refine ⟨p, _, _, rfl, rfl, upd_same, small1000 ?_, rfl, ?_⟩
      · rw [e2] at pl
        simp at pl ⊢
        omega
      · rw [upd_upd]
        simp [pV]
    | none =>
      have e2 : FR.path ps f = g :: l := by rw [el, FR.path_root ep]; rfl
      refine ⟨_, rfl, p, _, rfl, SqL.of upd_same, fun c hc => ?_⟩
      have S1 : Same H (upd H p (.lst (l.reverse.map nV ++ [nV g]))) := same_new hp
      refine ⟨c, _, rfl, .inl ⟨SqL.of upd_same, fun r hr => ?_⟩⟩
      have S2 := S1.trans (same_new (o := .lst (l.reverse.map nV ++ [nV g]).reverse) hc)
      refine q _ r (S2.trans (same_new hr)) (S2.free hr) ?_
      rw [upd_same, e2]
      simp
/-! ## best_of -/
def spBestOf : Sp := fun vs H Q _ => ∃ (k : FR.Kd) (g : Nat) (l : Addr) (rs : List Rc), vs = [kV k, .int g, .ref l] ∧ RowAt H l rs ∧ rs ≠ [] ∧ (∀ r ∈ rs, g < r.length) ∧ rs.length ≤ 1000 ∧
  ∀ (H' : Hp) (p : Addr), Same H H' → H p = none → RowAt H' p (FR.bestR k g rs) → Q (.ref p) H'
def stepB (k : FR.Kd) (g : Nat) (b : Int) (x : Rc) : Int := if FR.better k (FR.at0 x g) b then FR.at0 x g else b
theorem bestV_all (k : FR.Kd) (g : Nat) (r : Rc) (rs : List Rc) : (r :: rs).foldl (stepB k g) (FR.at0 r g) = FR.bestV k g (r :: rs) := by
  rw [List.foldl_cons]
  have e : stepB k g (FR.at0 r g) r = FR.at0 r g := by
    unfold stepB
    rw [FR.better_self]
    rfl
  rw [e]
  rfl
theorem fold_step {k : FR.Kd} {g : Nat} {b : Int} {rs : List Rc} {i : Nat} {r : Rc} (h : rs[i]? = some r) : (rs.take (i + 1)).foldl (stepB k g) b = stepB k g ((rs.take i).foldl (stepB k g) b) r := by
  rw [List.take_succ, h, List.foldl_append]
  rfl
theorem scBestOf : FnScope ["kind", "field", "records", "best", "record"] ["kind", "field", "records"] (defScope sBestOf) := ⟨rfl, rfl, rfl, by decide +kernel, rfl, by decide +kernel, by decide +kernel⟩
theorem df_best_of (T : Tx K mg "best_of" sBestOf ["kind", "field", "records"]) (B : Bl mg) (D_better : Df P w K mg base CX0 1 "better" ["kind", "value", "other"] spBetter) : Df P w K mg base CX0 2 "best_of" ["kind", "field", "records"] spBestOf := T.df fun f fd F => by
  refine F.ok scBestOf (fun vs H Q E h => ?_) (fun cdv A outer s H vs Q E hr h => ?_)
  · obtain ⟨k, g, l, rs, rfl, _⟩ := h
    rfl
  · obtain ⟨k, g, l, rs, rfl, ⟨vs, hl, R⟩, hne, hlen, hm, q⟩ := h
    refine ⟨_, (pss_cons (ps_if (pt_cmpR op_eq (pv 0) pe_str (nomark _)) (pss_one (ps_ret (pe_lst (pa_cons (pe_ix ix_list (pv 2) pe_int (fun _ _ => rfl)) pa_nil)))) pss_nil)
      (pss_cons (ps_if (pt_cmpR op_eq (pv 0) pe_str (nomark _)) (pss_one (ps_ret (pe_lst (pa_cons (pe_ix ix_list (pv 2) (pe_un un_neg pe_int) (fun _ _ => rfl)) pa_nil)))) pss_nil)
      (pss_cons (ps_set (i := 3) scBestOf.nd rfl (Or.inr rfl) (pe_ix ix_tup (pe_ix ix_list (pv 2) pe_int (fun _ _ => rfl)) (pv 1) (fun _ _ => rfl)))
      (pss_cons (ps_for PassesOwn.never rfl (pi_list (pv 2)) (pg_name (i := 4) scBestOf.nd rfl (Or.inl rfl)) (pss_one (ps_if (pt_val (pe_df D_better (hr.mono (by decide)) pass0 (pa_cons (pv 0) (pa_cons (pe_ix ix_tup (pv 4) (pv 1) (fun _ _ => rfl)) (pa_cons (pv 3) pa_nil))))) (pss_one (ps_set (i := 3) scBestOf.nd rfl (Or.inr rfl) (pe_ix ix_tup (pv 4) (pv 1) (fun _ _ => rfl)))) pss_nil)))
      (pss_one (ps_ret (pe_lc (own := [("record", 4)]) (g := gName 4) rfl scBestOf.nd (pi_list (pv 2)) (blkOk_by (N := ["kind", "field", "records", "best", "record"]) (sc := defScope sBestOf) (by decide +kernel)) (fun _ _ _ _ _ => pg_name (i := 4) scBestOf.nd rfl (Or.inl rfl)) (fun _ _ _ _ _ => (pts_one (pt_cmpR op_eq (pe_ix (ix_tupK K) (pv 4) (pv 1) (fun _ _ => rfl)) (pv 3) (nomark _)))) (fun _ _ _ _ _ => (pv 4))))))))), ?_⟩
    have lv : vs.length = rs.length := R.length
    refine ⟨_, rfl, rfl, _, rfl, ?_⟩
    rw [kV_fi]
    match rs, vs, R, hne with
    | r :: rs, v0 :: vs, .cons ⟨p0, e0, h0⟩ R, hne =>
    subst e0
    refine ite2 (fun c => ?_) (fun c => ?_)
    · refine ⟨_, rfl, l, _, _, .ref p0, rfl, rfl, SqL.of hl, at_of (j := 0) rfl rfl, (by show 1 ≤ sizeLine; decide), fun p hp => ?_⟩
      refine q _ p (same_new hp) hp ?_
      rw [of_decide_eq_true c]
      exact ⟨_, upd_same, .cons ⟨p0, rfl, h0.same (same_new hp)⟩ .nil⟩
    · have nfi : k ≠ .fi := fun z => c (decide_eq_true z)
      refine ⟨_, rfl, rfl, _, rfl, ?_⟩
      rw [kV_la]
      refine ite2 (fun c => ?_) (fun c => ?_)
      · have eL : ∃ us pl, V.ref p0 :: vs = us ++ [V.ref pl] ∧ ∃ ls y, r :: rs = ls ++ [y] ∧ RecAt H pl y := by
          have R' : Rows H (.ref p0 :: vs) (r :: rs) := .cons ⟨p0, rfl, h0⟩ R
          have n1 : (r :: rs) ≠ [] := by simp
          have n2 : (V.ref p0 :: vs) ≠ [] := by simp
          obtain ⟨pl, e1, e2⟩ := R'.get (i := rs.length) (r := (r :: rs).getLast n1) (by rw [List.getLast_eq_getElem]; simp)
          refine ⟨(V.ref p0 :: vs).dropLast, pl, ?_, (r :: rs).dropLast, (r :: rs).getLast n1, (List.dropLast_concat_getLast n1).symm, e2⟩
          have e3 : (V.ref p0 :: vs).getLast n2 = V.ref pl := by
            rw [List.getLast_eq_getElem]
            obtain ⟨z1, z2⟩ := List.getElem?_eq_some_iff.mp e1
            rw [← z2]
            congr 1
            simp at lv ⊢
            omega
          rw [← e3]
          exact (List.dropLast_concat_getLast n2).symm
        obtain ⟨us, pl, e1, ls, y, e2, e3⟩ := eL
        rw [e1] at hl
        refine ⟨_, rfl, _, rfl, l, _, _, .ref pl, rfl, rfl, SqL.of hl, atI_last _ _, (by show 1 ≤ sizeLine; decide), fun p hp => ?_⟩
        refine q _ p (same_new hp) hp ?_
        rw [of_decide_eq_true c, e2]
        refine ⟨_, upd_same, ?_⟩
        show Rows _ _ ((ls ++ [y]).drop ((ls ++ [y]).length - 1))
        have e4 : (ls ++ [y]).drop ((ls ++ [y]).length - 1) = [y] := by simp
        rw [e4]
        exact .cons ⟨pl, rfl, e3.same (same_new hp)⟩ .nil
      · have nla : k ≠ .la := fun z => c (decide_eq_true z)
        have R' : Rows H (.ref p0 :: vs) (r :: rs) := .cons ⟨p0, rfl, h0⟩ R
        have hg0 := hlen r (by simp)
        refine ⟨_, rfl, l, _, _, .ref p0, rfl, rfl, SqL.of hl, at_of (j := 0) rfl rfl, _, rfl, p0, _, _, .int (FR.at0 r g), rfl, rfl, SqT.of h0, at_of (j := g) rfl (rec_at hg0), ?_⟩
        refine ⟨_, rfl, l, rfl, ⟨_, SqL.of hl⟩, for_list (K := K) (a := l) (xs := .ref p0 :: vs) (fun i σ H' => ∃ v, σ = [some (kV k), some (.int g), some (.ref l), some (.int (((r :: rs).take i).foldl (stepB k g) (FR.at0 r g))), v] ∧ H' = H) ⟨none, rfl, rfl⟩ (fun i σ H' _ ⟨_, _, e⟩ => by rw [e]; exact SqL.of hl) ?_ ?_⟩
        · rintro i x σ H' hi ⟨v, rfl, rfl⟩
          obtain ⟨p, y, rfl, hy, hp⟩ := R'.get' hi
          have hgy := hlen y (List.mem_of_getElem? hy)
          refine ⟨_, rfl, _, rfl, _, rfl, p, _, _, .int (FR.at0 y g), rfl, rfl, SqT.of hp, at_of (j := g) rfl (rec_at hgy), _, rfl, k, _, _, rfl, _, rfl, ?_⟩
          have es := fold_step (k := k) (g := g) (b := FR.at0 r g) hy
          refine ite2 (fun c => ?_) (fun c => ?_)
          · refine ⟨_, rfl, _, rfl, p, _, _, .int (FR.at0 y g), rfl, rfl, SqT.of hp, at_of (j := g) rfl (rec_at hgy), ?_⟩
            refine ⟨some (.ref p), ?_, rfl⟩
            have e3 : stepB k g (((r :: rs).take i).foldl (stepB k g) (FR.at0 r g)) y = FR.at0 y g := by
              show (if _ then _ else _) = _
              exact if_pos c
            rw [es, e3]
            rfl
          · refine ⟨some (.ref p), ?_, rfl⟩
            have e3 : stepB k g (((r :: rs).take i).foldl (stepB k g) (FR.at0 r g)) y = ((r :: rs).take i).foldl (stepB k g) (FR.at0 r g) := by
              show (if _ then _ else _) = _
              exact if_neg c
            rw [es, e3]
            rfl
        · rintro σ H' ⟨v, rfl, rfl⟩
          rw [show (r :: rs).take (V.ref p0 :: vs).length = r :: rs from List.take_of_length_le (by omega), bestV_all]
          have eB : FR.bestR k g (r :: rs) = (r :: rs).filter fun x => decide (FR.at0 x g = FR.bestV k g (r :: rs)) := by
            cases k with
            | up => rfl
            | dn => rfl
            | fi => exact absurd rfl nfi
            | la => exact absurd rfl nla
          refine ⟨_, rfl, l, rfl, ⟨_, SqL.of hl⟩, fun D hD => ?_⟩
          have SD : Same H' (upd H' D (.lst [])) := same_new hD
          refine lc_list (K := K) (a := l) (xs := .ref p0 :: vs) (fun i H2 => ∃ ws, Same H' H2 ∧ H2 D = some (.lst ws) ∧ Rows H2 ws (((r :: rs).take i).filter fun x => decide (FR.at0 x g = FR.bestV k g (r :: rs)))) ⟨[], SD, upd_same, .nil⟩ (fun i H2 _ ⟨_, S2, _⟩ => SqL.of (S2 _ _ hl)) ?_ ?_
          · rintro i x H2 hi ⟨ws, S2, h2, RW⟩
            obtain ⟨p, y, rfl, hy, hp⟩ := R'.get' hi
            have hgy := hlen y (List.mem_of_getElem? hy)
            have lw : ws.length ≤ 1000 := by
              rw [RW.length]
              exact Nat.le_trans (List.length_filter_le ..) (by rw [List.length_take]; omega)
            refine ⟨rfl, _, rfl, _, rfl, p, _, _, .int (FR.at0 y g), rfl, rfl, SqT.of (hp.same S2), at_of (j := g) rfl (rec_at hgy), _, rfl, rfl, _, rfl, ?_⟩
            have et : ((r :: rs).take (i + 1)).filter (fun x => decide (FR.at0 x g = FR.bestV k g (r :: rs))) = ((r :: rs).take i).filter (fun x => decide (FR.at0 x g = FR.bestV k g (r :: rs))) ++ (if FR.at0 y g = FR.bestV k g (r :: rs) then [y] else []) := by
              rw [List.take_succ, hy, List.filter_append]
              congr 1
              by_cases z : FR.at0 y g = FR.bestV k g (r :: rs) <;> simp [z]
            refine ite2 (fun c => ?_) (fun c => ?_)
            · have c' : FR.at0 y g = FR.bestV k g (r :: rs) := V.int.inj (of_decide_eq_true c)
              refine ⟨_, rfl, _, h2, small1000 lw, ws ++ [.ref p], fun b o e => by rw [upd_ne (ne_of_none e hD)]; exact S2 _ _ e, upd_same, ?_⟩
              rw [et, if_pos c']
              have lup : ∀ {o : HO} (p : Addr) (r : Rc), RecAt H2 p r → RecAt (upd H2 D o) p r := fun {o} p r e => by
                have n1 : p ≠ D := ne_of e h2 (by intro z; cases z)
                unfold RecAt
                rw [upd_ne n1]
                exact e
              exact Rows.append (RW.imp lup) (.cons ⟨p, rfl, lup _ _ (hp.same S2)⟩ .nil)
            · have c' : ¬ FR.at0 y g = FR.bestV k g (r :: rs) := fun z => c (decide_eq_true (congrArg V.int z))
              refine ⟨ws, S2, h2, ?_⟩
              rw [et, if_neg c', List.append_nil]
              exact RW
          · rintro H2 ⟨ws, S2, h2, RW⟩
            rw [show (r :: rs).take (V.ref p0 :: vs).length = r :: rs from List.take_of_length_le (by omega)] at RW
            refine q _ D S2 hD ?_
            rw [eB]
            exact ⟨ws, h2, RW⟩

end
end K42
namespace K42
open PySem L2
section
variable {P : Program} {w : World} {K : PySem.W.Frag} {mg : Str → Option Value} {base : Heap}
/-! ## end_of_row -/
def spEndRow : Sp := fun vs H Q _ => ∃ (a k : Addr) (ps : List (Option Nat)) (ks : List FR.Kd) (l : Addr) (rs : List Rc), vs = [.ref a, .ref k, .ref l] ∧ FR.Forest ps ks ∧ H a = some (.tup (ps.map pV)) ∧ H k = some (.tup (ks.map kV)) ∧
  RowAt H l rs ∧ rs ≠ [] ∧ (∀ r ∈ rs, r.length = ps.length) ∧ rs.length ≤ 1000 ∧
  ∀ (H' : Hp) (p : Addr), Same H H' → H p = none → RecAt H' p (FR.sieveEnd (FR.kindAt ks) (FR.path ps) ps.length rs) → Q (.ref p) H'
theorem sieve_len (kd : Nat → FR.Kd) : ∀ (L : List Nat) (rs : List Rc), (FR.sieve kd L rs).length ≤ rs.length
  | [], rs => Nat.le_refl _
  | g :: L, rs => by
    have h1 := sieve_len kd L (FR.bestR (kd g) g rs)
    have h2 : (FR.bestR (kd g) g rs).length ≤ rs.length := by
      unfold FR.bestR
      split
      · rw [List.length_take]; omega
      · rw [List.length_drop]; omega
      · exact List.length_filter_le ..
    exact Nat.le_trans h1 h2
theorem sieve_ne (kd : Nat → FR.Kd) : ∀ (L : List Nat) (rs : List Rc), rs ≠ [] → FR.sieve kd L rs ≠ []
  | [], rs, h => h
  | g :: L, rs, h => sieve_ne kd L _ (FR.bestR_ne _ _ h)
theorem sieve_snoc {kd : Nat → FR.Kd} {L : List Nat} {j g : Nat} {rs : List Rc} (h : L[j]? = some g) : FR.sieve kd (L.take (j + 1)) rs = FR.bestR (kd g) g (FR.sieve kd (L.take j) rs) := by
  unfold FR.sieve
  rw [List.take_succ, h, List.foldl_append]
  rfl
theorem scEndRow : FnScope ["parents", "kinds", "records", "result", "field", "left", "place"] ["parents", "kinds", "records"] (defScope sEndRow) := ⟨rfl, rfl, rfl, by decide +kernel, rfl, by decide +kernel, by decide +kernel⟩
theorem df_end_of_row (T : Tx K mg "end_of_row" sEndRow ["parents", "kinds", "records"]) (B : Bl mg) (D_path_of : Df P w K mg base CX0 1 "path_of" ["parents", "field"] spPathOf) (D_best_of : Df P w K mg base CX0 2 "best_of" ["kind", "field", "records"] spBestOf) : Df P w K mg base CX0 3 "end_of_row" ["parents", "kinds", "records"] spEndRow := T.df fun f fd F => by
  refine F.ok scEndRow (fun vs H Q E h => ?_) (fun cdv A outer s H vs Q E hr h => ?_)
  · obtain ⟨a, k, ps, ks, l, rs, rfl, _⟩ := h
    rfl
  · obtain ⟨a, k, ps, ks, l, rs, rfl, O, ha, hk, RL, hne, hlen, hm, q⟩ := h
    refine ⟨_, (pss_cons (ps_set (i := 3) scEndRow.nd rfl (Or.inl rfl) (pe_lst pa_nil))
      (pss_cons (ps_for PassesOwn.never rfl (pi_range1 (by rfl) B.range (pa_cons (pe_callB call_len_seq (by rfl) B.len PySem.boot_len (pa_cons (pv 0) pa_nil)) pa_nil)) (pg_name (i := 4) scEndRow.nd rfl (Or.inl rfl)) (pss_cons (ps_set (i := 5) scEndRow.nd rfl (Or.inl rfl) (pe_callTy call_list_of (by rfl) B.list (by decide +kernel) (pa_cons (pv 2) pa_nil)))
      (pss_cons (ps_for PassesOwn.never rfl (pi_tup (pe_df D_path_of (hr.mono (by decide)) pass0 (pa_cons (pv 0) (pa_cons (pv 4) pa_nil)))) (pg_name (i := 6) scEndRow.nd rfl (Or.inl rfl)) (pss_one (ps_set (i := 5) scEndRow.nd rfl (Or.inl rfl) (pe_df D_best_of (hr.mono (by decide)) pass0 (pa_cons (pe_ix ix_tup (pv 1) (pv 6) (fun _ _ => rfl)) (pa_cons (pv 6) (pa_cons (pv 5) pa_nil)))))))
      (pss_one (ps_expr (pe_bm PySem.F.plainAttrs_list PySem.F.slot_list_append PySem.F.type_list_append mt_append (pv 3) (pa_cons (pe_ix ix_tup (pe_ix ix_list (pv 5) pe_int (fun _ _ => rfl)) (pv 4) (fun _ _ => rfl)) pa_nil)))))))
      (pss_one (ps_ret (pe_callTy call_tuple_of (by rfl) B.tuple (by decide +kernel) (pa_cons (pv 3) pa_nil)))))), ?_⟩
    have m8 := O.most
    refine ⟨Nat.zero_le _, fun L hL => ?_⟩
    have SL : Same H (upd H L (.lst [])) := same_new hL
    refine ⟨_, rfl, a, _, rfl, .inr (SqT.of (SL _ _ ha)), ?_⟩
    rw [List.length_map]
    have M : (FR.sieveEnd (FR.kindAt ks) (FR.path ps) ps.length rs).length = ps.length := by simp [FR.sieveEnd]
    refine ⟨_, rfl, by omega, by omega, for_range (lo := 0) (n := (ps.length : Int).toNat) (fun i σ H' => ∃ (v5 v6 v7 : Option V), σ = [some (.ref a), some (.ref k), some (.ref l), some (.ref L), v5, v6, v7] ∧ Same H H' ∧
      H' L = some (.lst (((FR.sieveEnd (FR.kindAt ks) (FR.path ps) ps.length rs).take i).map V.int))) ⟨none, none, none, rfl, SL, upd_same⟩ ?_ ?_⟩
    · rintro i σ H1 hi ⟨v5, v6, v7, rfl, S1, h1⟩
      have hin : i < ps.length := by omega
      obtain ⟨vs, hl, R⟩ := RL.same S1
      refine ⟨_, rfl, l, _, rfl, .inl (SqL.of hl), fun c hc => ?_⟩
      have S2 : Same H1 (upd H1 c (.lst vs)) := same_new hc
      have R2 : RowAt (upd H1 c (.lst vs)) c rs := ⟨_, upd_same, R.same S2⟩
      generalize upd H1 c (.lst vs) = H2 at S2 R2 ⊢
      have S02 := S1.trans S2
      refine ⟨_, rfl, _, rfl, a, ps, ks, i, by rw [Int.zero_add]; rfl, O, S02 _ _ ha, hin, fun H3 pp S3 hpp hp3 => ?_⟩
      refine ⟨pp, rfl, ⟨_, SqT.of hp3⟩, for_tup (K := K) (a := pp) (xs := (FR.path ps i).map nV) (fun j σ H' => ∃ (q : Addr) (v7 : Option V), σ = [some (.ref a), some (.ref k), some (.ref l), some (.ref L), some (.int (0 + (i : Int))), some (.ref q), v7] ∧ Same H3 H' ∧
        RowAt H' q (FR.sieve (FR.kindAt ks) ((FR.path ps i).take j) rs)) ⟨c, _, rfl, Same.refl _, R2.same S3⟩ (fun j σ H' _ ⟨_, _, _, S4, _⟩ => SqT.of (S4 _ _ hp3)) ?_ ?_⟩
      · rintro j x σ H4 hj ⟨c2, v7, rfl, S4, RW⟩
        obtain ⟨g, hg, rfl⟩ := list_at hj
        have hgl := FR.path_low O hin (List.mem_of_getElem? hg)
        have S04 := (S02.trans S3).trans S4
        refine ⟨_, rfl, _, rfl, k, _, _, kV (FR.kindAt ks g), rfl, rfl, SqT.of (S04 _ _ hk), at_of (j := g) rfl (kind_at (by rw [O.len]; exact hgl)), _, rfl, _, rfl, FR.kindAt ks g, g, c2, _, rfl, RW, sieve_ne _ _ _ hne, fun r hr => ?_, Nat.le_trans (sieve_len _ _ _) hm, fun H5 c3 S5 _ R5 => ?_⟩
        · rw [hlen r (FR.sieve_sub _ _ _ r hr)]
          exact hgl
        · exact ⟨c3, _, rfl, S4.trans S5, by rw [sieve_snoc hg]; exact R5⟩
      · rintro σ H4 ⟨c2, v7, rfl, S4, RW⟩
        rw [List.length_map, List.take_length] at RW
        obtain ⟨ws, hw, RW⟩ := RW
        have S14 := (S2.trans S3).trans S4
        have hL4 := S14 _ _ h1
        have hd : (FR.sieve (FR.kindAt ks) (FR.path ps i) rs)[0]? = some ((FR.sieve (FR.kindAt ks) (FR.path ps i) rs).headD []) := by
          have := sieve_ne (FR.kindAt ks) (FR.path ps i) rs hne
          cases e : FR.sieve (FR.kindAt ks) (FR.path ps i) rs with
          | nil => exact absurd e this
          | cons x xs => rfl
        obtain ⟨p, e1, e2⟩ := RW.get hd
        have lr : ((FR.sieve (FR.kindAt ks) (FR.path ps i) rs).headD []).length = ps.length := hlen _ (FR.sieve_sub _ _ _ _ (List.mem_of_getElem? hd))
        refine ⟨_, rfl, .inl ⟨rfl, _, SqL.of hL4⟩, ?_⟩
        refine ⟨_, rfl, c2, _, _, .ref p, rfl, rfl, SqL.of hw, at_of (j := 0) rfl e1, _, rfl, p, _, _, .int _, rfl, rfl, SqT.of e2, at_of (j := i) (by omega) (rec_at (by omega)), ?_⟩
        refine ⟨L, _, _, rfl, rfl, hL4, by rw [List.length_map, List.length_take]; exact small1000 (by omega), ?_⟩
        refine ⟨_, _, _, rfl, fun b o e => ?_, ?_⟩
        · rw [upd_ne (ne_of_none e hL)]
          exact S14 _ _ (S1 _ _ e)
        · have ei : (FR.sieveEnd (FR.kindAt ks) (FR.path ps) ps.length rs)[i]? = some (FR.at0 ((FR.sieve (FR.kindAt ks) (FR.path ps i) rs).headD []) i) := by
            simp [FR.sieveEnd, hin]
          rw [upd_same, List.take_succ, ei, List.map_append]
          rfl
    · rintro σ H' ⟨v5, v6, v7, rfl, S1, h1⟩
      have et : (FR.sieveEnd (FR.kindAt ks) (FR.path ps) ps.length rs).take (ps.length : Int).toNat = FR.sieveEnd (FR.kindAt ks) (FR.path ps) ps.length rs := List.take_of_length_le (by omega)
      rw [et] at h1
      refine ⟨_, rfl, L, _, rfl, .inl ⟨SqL.of h1, fun p hp => ?_⟩⟩
      exact q _ p (S1.trans (same_new hp)) (S1.free hp) upd_same
end
end K42
namespace K42
open PySem L2
section
variable {P : Program} {w : World} {K : PySem.W.Frag} {mg : Str → Option Value} {base : Heap}
abbrev sChkRec : Stmt := top 15
abbrev sChkRecs : Stmt := top 16
abbrev sChkPl : Stmt := top 17
abbrev sRowEnd : Stmt := top 19
abbrev sStrike : Stmt := top 20
/-! ## what the top has written of the own errors -/
structure Er (P : Program) (K : PySem.W.Frag) (mg : Str → Option Value) (CR fR CP fP CN : Addr) : Prop where
  r : K42X.SupTxt P K mg "BadRecord" CR fR true
  p : K42X.SupTxt P K mg "BadPlace" CP fP false
  n : mg "NoRecord" = some (.ref CN)
  nq : PySem.W.excIn K CN [.type "ValueError", .type "Exception", .type "BaseException", .type "object"] "ValueError.__new__" = true
  nk : PySem.W.keepIn K (.ref CN) = true
  ne : PySem.W.subIn K (.ref CN) (.type "BaseException") = some true
  nt : PySem.W.typeIn K (.ref CN) = some (.type "type")
theorem passN0 {X : Cx} : Passes (L2N.CX X.prog X.w) X E0 := fun _ _ _ _ _ _ _ h => by
  obtain ⟨_, _, _, _, _, _, _, _, _, _, _, _, z⟩ := h
  exact z.elim
theorem takesN0 {X : Cx} : L2N.Takes X (fun _ _ _ _ => False) := fun _ _ x => by
  obtain ⟨_, _, _, _, _, _, _, _, _, _, _, _, _, _, _, _, z⟩ := x
  exact z.elim
/-- a def that raises where nothing is handled -/
theorem okN {x qual : Str} {st : Stmt} {f : Addr} {fd : FuncData} {N ps : List Str} {k : Nat} {sp : Sp} (F : Fun K x qual st f fd) (S : FnScope N ps (defScope st)) (len : ∀ vs H Q E, sp vs H Q E → vs.length = ps.length)
    (hbody : ∀ (cdv : Value) (A : Around) (outer : List Env) (s : Shared) (H : Hp) (vs : List V) (Q : VK) (E : XK), Room k (A.deeper (PyProof.Rows.envOfC qual (defScope st) s.heap.objs.size f cdv)) → sp vs H Q E →
      ∃ t, PSs (cxOf (L2N.CX P w) P w K mg base N qual (defScope st) f cdv A outer s H E) (defBody st) t ∧ t { nx := fun _ H' => Q .non H', rt := Q } (start N vs) H) : FnOk P w K mg base (L2N.CX P w) (k + 1) f fd ps sp := by
  obtain ⟨oc, od, kV, doc, pm, an, cdv, ct, osl, rfl, lk, hcd⟩ := F.ex
  exact fn_of lk hcd S len fun A outer s H vs Q E hr hsp => hbody cdv A outer s H vs Q E hr hsp
section
variable {CR fR CP fP CN : Addr}
/-! ## check_record -/
def spChkRec (CR : Addr) : Sp := fun vs H Q E => ∃ (n : Int) (p : Addr) (r : Rc), vs = [.int n, .ref p] ∧ RecAt H p r ∧ ((r.length : Int) = n → Q .non H) ∧
  ((r.length : Int) ≠ n → ∀ (H' : Hp) (d : Addr), Same H H' → H' d = some (.xd [("record", .ref p)]) → E (.ref CR) (some d) H')
theorem scChkRec : FnScope ["fields", "record"] ["fields", "record"] (defScope sChkRec) := ⟨rfl, rfl, rfl, by decide +kernel, rfl, by decide +kernel, by decide +kernel⟩
theorem df_check_record (T : Tx K mg "check_record" sChkRec ["fields", "record"]) (B : Bl mg) (R : Er P K mg CR fR CP fP CN) : Df P w K mg base (L2N.CX P w) 1 "check_record" ["fields", "record"] (spChkRec CR) := T.df fun f fd F => by
  refine okN F scChkRec (fun vs H Q E h => ?_) (fun cdv A outer s H vs Q E hr h => ?_)
  · obtain ⟨n, p, r, rfl, _⟩ := h
    rfl
  · obtain ⟨n, p, r, rfl, hp, q1, q2⟩ := h
    refine ⟨_, (pss_one (ps_if (pt_cmpR op_ne (pe_callB call_len_seq (by rfl) B.len PySem.boot_len (pa_cons (pv 1) pa_nil)) (pv 0) (nomark _)) (pss_one (ps_raiseSup rfl R.r hr (L2N.takes_of rfl rfl rfl rfl) (pa_cons (pv 1) pa_nil))) pss_nil)), ?_⟩
    refine ⟨_, rfl, p, _, rfl, .inr (SqT.of hp), _, rfl, rfl, _, rfl, ?_⟩
    rw [List.length_map]
    refine ite2 (fun c => ?_) (fun c => ?_)
    · refine ⟨_, rfl, _, rfl, fun d hd => ?_⟩
      refine q2 (fun e => ?_) _ d (same_new hd) upd_same
      rw [e] at c
      simp at c
    · refine q1 ?_
      have : V.int (r.length : Int) = V.int n := by simpa using c
      exact V.int.inj this
/-! ## check_records -/
def spChkRecs (CN CR : Addr) : Sp := fun vs H Q E => ∃ (n : Int) (l : Addr) (rs : List Rc), vs = [.int n, .ref l] ∧ RowAt H l rs ∧ (rs = [] → E (.ref CN) none H) ∧
  (∀ i p r, rs[i]? = some r → (∀ x ∈ rs.take i, (x.length : Int) = n) → (r.length : Int) ≠ n → RecAt H p r → ∀ (H' : Hp) (d : Addr), Same H H' → H' d = some (.xd [("record", .ref p)]) → E (.ref CR) (some d) H') ∧
  (rs ≠ [] → (∀ r ∈ rs, (r.length : Int) = n) → Q .non H)
theorem scChkRecs : FnScope ["fields", "records", "record"] ["fields", "records"] (defScope sChkRecs) := ⟨rfl, rfl, rfl, by decide +kernel, rfl, by decide +kernel, by decide +kernel⟩
theorem df_check_records (T : Tx K mg "check_records" sChkRecs ["fields", "records"]) (B : Bl mg) (R : Er P K mg CR fR CP fP CN) (D_check_record : Df P w K mg base (L2N.CX P w) 1 "check_record" ["fields", "record"] (spChkRec CR)) : Df P w K mg base (L2N.CX P w) 2 "check_records" ["fields", "records"] (spChkRecs CN CR) := T.df fun f fd F => by
  refine okN F scChkRecs (fun vs H Q E h => ?_) (fun cdv A outer s H vs Q E hr h => ?_)
  · obtain ⟨n, l, rs, rfl, _⟩ := h
    rfl
  · obtain ⟨n, l, rs, rfl, ⟨vs, hl, RW⟩, q1, q2, q3⟩ := h
    refine ⟨_, (pss_cons (ps_if (pt_cmpR op_eq (pe_callB call_len_seq (by rfl) B.len PySem.boot_len (pa_cons (pv 1) pa_nil)) pe_int (nomark _)) (pss_one (L2N.ps_raise rfl (L2N.takes_of rfl rfl rfl rfl) (L2N.pmk_own PySem.F.excBase_ValueError R.nq R.n R.nk (raises_own R.ne R.nt) rfl))) pss_nil)
      (pss_one (ps_for PassesOwn.leaving rfl (pi_list (pv 1)) (pg_name (i := 2) scChkRecs.nd rfl (Or.inl rfl)) (pss_one (ps_expr (pe_df D_check_record (hr.mono (by decide)) (L2N.passes_call (W := fun cls d _ H => E cls d H) (E := E) (L2N.takes_of rfl rfl rfl rfl) (fun _ _ _ _ h => h)) (pa_cons (pv 0) (pa_cons (pv 2) pa_nil)))))))), ?_⟩
    have lv : vs.length = rs.length := RW.length
    refine ⟨_, rfl, l, _, rfl, .inl (SqL.of hl), rfl, _, rfl, ?_⟩
    refine ite2 (fun c => ?_) (fun c => ?_)
    · refine q1 (List.length_eq_zero_iff.mp ?_)
      have : V.int (vs.length : Int) = V.int 0 := of_decide_eq_true c
      have := V.int.inj this
      omega
    · have hne : rs ≠ [] := fun z => by
        subst z
        have : vs = [] := List.length_eq_zero_iff.mp lv
        subst this
        exact c rfl
      refine ⟨_, rfl, l, rfl, ⟨_, SqL.of hl⟩, for_list (K := K) (a := l) (xs := vs) (fun i σ H' => ∃ v, σ = [some (.int n), some (.ref l), v] ∧ H' = H ∧ ∀ x ∈ rs.take i, (x.length : Int) = n) ⟨none, rfl, rfl, fun x hx => by simp at hx⟩ (fun i σ H' _ ⟨_, _, e, _⟩ => by rw [e]; exact SqL.of hl) ?_ ?_⟩
      · rintro i x σ H' hi ⟨v, rfl, rfl, hall⟩
        obtain ⟨p, r, rfl, hr', hp⟩ := RW.get' hi
        refine ⟨_, rfl, _, rfl, n, p, r, rfl, hp, fun e => ?_, fun e H2 d S2 h2 => ?_⟩
        · exact ⟨_, rfl, rfl, take_all hall hr' e⟩
        · exact q2 i p r hr' hall e hp H2 d S2 h2
      · rintro σ H' ⟨v, rfl, rfl, hall⟩
        refine q3 hne ?_
        rw [lv, List.take_length] at hall
        exact hall
/-! ## check_place -/
def spChkPl (CP : Addr) : Sp := fun vs H Q E => ∃ (n i : Int), vs = [.int n, .int i] ∧ (0 ≤ i ∧ i < n → Q .non H) ∧
  (¬ (0 ≤ i ∧ i < n) → ∀ (H' : Hp) (d : Addr), Same H H' → H' d = some (.xd [("place", .int i)]) → E (.ref CP) (some d) H')
theorem scChkPl : FnScope ["fields", "place"] ["fields", "place"] (defScope sChkPl) := ⟨rfl, rfl, rfl, by decide +kernel, rfl, by decide +kernel, by decide +kernel⟩
theorem df_check_place (T : Tx K mg "check_place" sChkPl ["fields", "place"]) (B : Bl mg) (R : Er P K mg CR fR CP fP CN) : Df P w K mg base (L2N.CX P w) 1 "check_place" ["fields", "place"] (spChkPl CP) := T.df fun f fd F => by
  refine okN F scChkPl (fun vs H Q E h => ?_) (fun cdv A outer s H vs Q E hr h => ?_)
  · obtain ⟨n, i, rfl, _⟩ := h
    rfl
  · obtain ⟨n, i, rfl, q1, q2⟩ := h
    refine ⟨_, (pss_one (ps_if (pt_not (pt_chain op_le op_lt pe_int (pv 1) (pv 0))) (pss_one (ps_raiseSup rfl R.p hr (L2N.takes_of rfl rfl rfl rfl) (pa_cons (pv 1) pa_nil))) pss_nil)), ?_⟩
    refine ⟨_, rfl, _, _, rfl, rfl, _, rfl, ?_⟩
    have go : ∀ b : Bool, b = decide (0 ≤ i ∧ i < n) → tIfS (tNot (fun _ H Q => Q b H)) (fun _ σ H => tSup CP (K42X.fN false) (tCons (tVar 1) tNil) σ H fun cls d H' => E cls d H') tNext { nx := fun _ H' => Q .non H', rt := Q } (start ["fields", "place"] [.int n, .int i]) H := by
      intro b e
      subst e
      show if (!decide (0 ≤ i ∧ i < n)) = true then _ else _
      refine ite2 (fun c => ?_) (fun c => ?_)
      · have c' : ¬ (0 ≤ i ∧ i < n) := fun z => by
          rw [decide_eq_true z] at c
          exact absurd c (by decide)
        exact ⟨_, rfl, _, rfl, fun d hd => q2 c' _ d (same_new hd) upd_same⟩
      · have c' : 0 ≤ i ∧ i < n := Decidable.byContradiction fun z => c (by rw [decide_eq_false z]; rfl)
        exact q1 c'
    refine ite2 (fun c => ?_) (fun c => ?_)
    · have c' : 0 ≤ i := of_decide_eq_true c
      refine ⟨_, rfl, _, _, rfl, rfl, _, rfl, ?_⟩
      refine go (decide (i < n)) ?_
      by_cases h : i < n <;> simp [c', h]
    · have c' : ¬ 0 ≤ i := fun z => c (decide_eq_true z)
      refine ⟨_, rfl, ?_⟩
      exact go false (by simp [c'])
/-! ## a forest stands at p -/
def ff (n : Int) (a k : Addr) : List (Str × V) := putF "kinds" (.ref k) (putF "parents" (.ref a) (putF "fields" (.int n) []))
theorem n_kp : ¬ (("parents" : Str) = "kinds") := by decide +kernel
theorem n_kf : ¬ (("fields" : Str) = "kinds") := by decide +kernel
theorem n_pf : ¬ (("fields" : Str) = "parents") := by decide +kernel
theorem ff_fields (n : Int) (a k : Addr) : (ff n a k).lookup ("fields" : Str) = some (.int n) := by
  unfold ff
  rw [lookup_putF, if_neg n_kf, lookup_putF, if_neg n_pf, lookup_putF, if_pos rfl]
theorem ff_parents (n : Int) (a k : Addr) : (ff n a k).lookup ("parents" : Str) = some (.ref a) := by
  unfold ff
  rw [lookup_putF, if_neg n_kp, lookup_putF, if_pos rfl]
theorem ff_kinds (n : Int) (a k : Addr) : (ff n a k).lookup ("kinds" : Str) = some (.ref k) := by
  unfold ff
  rw [lookup_putF, if_pos rfl]
def ForestAt (C : Addr) (H : Hp) (p : Addr) (ps : List (Option Nat)) (ks : List FR.Kd) : Prop :=
  ∃ (dx a k : Addr), H p = some (.ins C dx (ff ps.length a k)) ∧ H a = some (.tup (ps.map pV)) ∧ H k = some (.tup (ks.map kV))
theorem ForestAt.same {C : Addr} {H H' : Hp} {p : Addr} {ps : List (Option Nat)} {ks : List FR.Kd} (h : ForestAt C H p ps ks) (s : Same H H') : ForestAt C H' p ps ks := by
  obtain ⟨dx, a, k, h1, h2, h3⟩ := h
  exact ⟨dx, a, k, s _ _ h1, s _ _ h2, s _ _ h3⟩
structure Fc (K : PySem.W.Frag) (C : Addr) : Prop where
  cl : Cls K C
  nF : NoAttr K C "fields"
  nP : NoAttr K C "parents"
  nK : NoAttr K C "kinds"
/-! ## row_end -/
def spRowEnd (C : Addr) : Sp := fun vs H Q _ => ∃ (fo l : Addr) (ps : List (Option Nat)) (ks : List FR.Kd) (rs : List Rc), vs = [.ref fo, .ref l] ∧ FR.Forest ps ks ∧ ForestAt C H fo ps ks ∧ RowAt H l rs ∧ rs ≠ [] ∧ (∀ r ∈ rs, r.length = ps.length) ∧ rs.length ≤ 1000 ∧
  ∀ (H' : Hp) (p : Addr), Same H H' → H p = none → RecAt H' p (FR.fold (FR.kindAt ks) (FR.path ps) ps.length rs) → Q (.ref p) H'
theorem scRowEnd : FnScope ["forest", "records"] ["forest", "records"] (defScope sRowEnd) := ⟨rfl, rfl, rfl, by decide +kernel, rfl, by decide +kernel, by decide +kernel⟩
theorem df_row_end {C : Addr} (T : Tx K mg "row_end" sRowEnd ["forest", "records"]) (Z : Fc K C) (D_check_records : Df P w K mg base (L2N.CX P w) 2 "check_records" ["fields", "records"] (spChkRecs CN CR)) (D_end_of_row : Df P w K mg base CX0 3 "end_of_row" ["parents", "kinds", "records"] spEndRow) :
    Df P w K mg base CX0 4 "row_end" ["forest", "records"] (spRowEnd C) := T.df fun f fd F => by
  refine F.ok scRowEnd (fun vs H Q E h => ?_) (fun cdv A outer s H vs Q E hr h => ?_)
  · obtain ⟨fo, l, ps, ks, rs, rfl, _⟩ := h
    rfl
  · obtain ⟨fo, l, ps, ks, rs, rfl, O, ⟨dx, a, k, hf, ha, hk⟩, RL, hne, hlen, hm, q⟩ := h
    refine ⟨_, (pss_cons (ps_expr (pe_df D_check_records (hr.mono (by decide)) passN0 (pa_cons (pe_fld (pv 0) rfl) (pa_cons (pv 1) pa_nil))))
      (pss_one (ps_ret (pe_df D_end_of_row (hr.mono (by decide)) pass0 (pa_cons (pe_fld (pv 0) rfl) (pa_cons (pe_fld (pv 0) rfl) (pa_cons (pv 1) pa_nil))))))), ?_⟩
    refine ⟨_, rfl, fo, C, dx, _, _, rfl, hf, Z.cl, Z.nF, ff_fields _ _ _, _, rfl, _, l, rs, rfl, RL, fun z => absurd z hne, fun i p r hi _ hw => ?_, fun _ _ => ?_⟩
    · exact absurd (congrArg Nat.cast (hlen r (List.mem_of_getElem? hi))) hw
    · refine ⟨_, rfl, fo, C, dx, _, _, rfl, hf, Z.cl, Z.nP, ff_parents _ _ _, _, rfl, fo, C, dx, _, _, rfl, hf, Z.cl, Z.nK, ff_kinds _ _ _, _, rfl, a, k, ps, ks, l, rs, rfl, O, ha, hk, RL, hne, hlen, hm, fun H' p S hp h => ?_⟩
      refine q H' p S hp ?_
      rw [FR.sieve_fold (FR.pathsOk O) hne hlen] at h
      exact h
/-! ## can_strike -/
def cutA {α : Type} (xs : List α) (m : Nat) : List α := xs.take m ++ xs.drop (m + 1)
theorem cut_step {α : Type} {xs : List α} {i m : Nat} {x : α} (h : xs[i]? = some x) : cutA (xs.take (i + 1)) m = if i = m then cutA (xs.take i) m else cutA (xs.take i) m ++ [x] := by
  have hi : i < xs.length := (List.getElem?_eq_some_iff.mp h).1
  have hl : (xs.take i).length = i := by rw [List.length_take]; omega
  have e : xs.take (i + 1) = xs.take i ++ [x] := by rw [List.take_succ, h]; rfl
  rw [e]
  generalize xs.take i = l at hl
  unfold cutA
  rw [List.take_append, List.drop_append, hl]
  by_cases c : i = m
  · rw [if_pos c]
    subst c
    simp [hl]
  · rw [if_neg c]
    by_cases c2 : i < m
    · have d1 : l.drop (m + 1) = [] := List.drop_eq_nil_of_le (by omega)
      have d2 : ([x] : List α).drop (m + 1 - i) = [] := List.drop_eq_nil_of_le (by simp; omega)
      have d3 : ([x] : List α).take (m - i) = [x] := List.take_of_length_le (by simp; omega)
      rw [d1, d2, d3]
      simp
    · have e1 : m - i = 0 := by omega
      have e2 : m + 1 - i = 0 := by omega
      rw [e1, e2]
      simp
def spStrike (C CN CR CP : Addr) : Sp := fun vs H Q E => ∃ (fo l : Addr) (i : Int) (ps : List (Option Nat)) (ks : List FR.Kd) (rs : List Rc), vs = [.ref fo, .ref l, .int i] ∧ FR.Forest ps ks ∧ ForestAt C H fo ps ks ∧ RowAt H l rs ∧ rs.length ≤ 1000 ∧
  (rs = [] → E (.ref CN) none H) ∧
  (∀ i p r, rs[i]? = some r → (∀ x ∈ rs.take i, (x.length : Int) = (ps.length : Int)) → (r.length : Int) ≠ (ps.length : Int) → RecAt H p r → ∀ (H' : Hp) (d : Addr), Same H H' → H' d = some (.xd [("record", .ref p)]) → E (.ref CR) (some d) H') ∧
  (rs ≠ [] → (∀ r ∈ rs, (r.length : Int) = (ps.length : Int)) → ¬ (0 ≤ i ∧ i < (rs.length : Int)) → ∀ (H' : Hp) (d : Addr), Same H H' → H' d = some (.xd [("place", .int i)]) → E (.ref CP) (some d) H') ∧
  (∀ m : Nat, i = (m : Int) → m < rs.length → (∀ r ∈ rs, (r.length : Int) = (ps.length : Int)) → ∀ H', Same H H' → Q (.bl (due ps ks rs m)) H')
theorem scStrike : FnScope ["forest", "records", "index", "rest", "place"] ["forest", "records", "index"] (defScope sStrike) := ⟨rfl, rfl, rfl, by decide +kernel, rfl, by decide +kernel, by decide +kernel⟩
theorem df_can_strike {C : Addr} (T : Tx K mg "can_strike" sStrike ["forest", "records", "index"]) (B : Bl mg) (Z : Fc K C) (D_check_records : Df P w K mg base (L2N.CX P w) 2 "check_records" ["fields", "records"] (spChkRecs CN CR)) (D_check_place : Df P w K mg base (L2N.CX P w) 1 "check_place" ["fields", "place"] (spChkPl CP))
    (D_row_end : Df P w K mg base CX0 4 "row_end" ["forest", "records"] (spRowEnd C)) : Df P w K mg base (L2N.CX P w) 5 "can_strike" ["forest", "records", "index"] (spStrike C CN CR CP) := T.df fun f fd F => by
  refine okN F scStrike (fun vs H Q E h => ?_) (fun cdv A outer s H vs Q E hr h => ?_)
  · obtain ⟨fo, l, i, ps, ks, rs, rfl, _⟩ := h
    rfl
  · obtain ⟨fo, l, i, ps, ks, rs, rfl, O, FA, ⟨vs, hl, R⟩, hm, q1, q2, q3, q4⟩ := h
    refine ⟨_, (pss_cons (ps_expr (pe_df D_check_records (hr.mono (by decide)) (L2N.passes_call (W := fun cls d _ H => E cls d H) (E := E) (L2N.takes_of rfl rfl rfl rfl) (fun _ _ _ _ h => h)) (pa_cons (pe_fld (pv 0) rfl) (pa_cons (pv 1) pa_nil))))
      (pss_cons (ps_expr (pe_df D_check_place (hr.mono (by decide)) (L2N.passes_call (W := fun cls d _ H => E cls d H) (E := E) (L2N.takes_of rfl rfl rfl rfl) (fun _ _ _ _ h => h)) (pa_cons (pe_callB call_len_seq (by rfl) B.len PySem.boot_len (pa_cons (pv 1) pa_nil)) (pa_cons (pv 2) pa_nil))))
      (pss_cons (ps_setLc (i := 3) (own := [("place", 4)]) (g := gName 4) rfl scStrike.nd rfl rfl (sw_true rfl rfl rfl (by decide +kernel)) (pi_range1 (by rfl) B.range (pa_cons (pe_callB call_len_seq (by rfl) B.len PySem.boot_len (pa_cons (pv 1) pa_nil)) pa_nil)) (blkOk_by (N := ["forest", "records", "index", "rest", "place"]) (sc := defScope sStrike) (by decide +kernel)) (fun _ _ _ _ _ => pg_name (i := 4) scStrike.nd rfl (Or.inl rfl)) (fun _ _ _ _ _ => (pts_one (pt_cmpR op_ne (pv 4) (pv 2) (nomark _)))) (fun _ _ _ _ _ => (pe_ix (ix_listK K) (pv 1) (pv 4) (fun _ _ => rfl))))
      (pss_one (ps_ret (pe_and (pe_cmpR op_gt (pe_callB call_len_seq (by rfl) B.len PySem.boot_len (pa_cons (pv 3) pa_nil)) pe_int (nomark _)) (pe_one (pe_cmpR (op_eqD hr.units) (pe_df D_row_end (hr.mono (by decide)) pass0 (pa_cons (pv 0) (pa_cons (pv 3) pa_nil))) (pe_df D_row_end (hr.mono (by decide)) pass0 (pa_cons (pv 0) (pa_cons (pv 1) pa_nil))) (nomark _))))))))), ?_⟩
    have lv : vs.length = rs.length := R.length
    obtain ⟨dx, a, k, hf, ha, hk⟩ := id FA
    refine ⟨_, rfl, fo, C, dx, _, _, rfl, hf, Z.cl, Z.nF, ff_fields _ _ _, _, rfl, _, l, rs, rfl, ⟨vs, hl, R⟩, q1, q2, fun hne hall => ?_⟩
    refine ⟨_, rfl, l, _, rfl, .inl (SqL.of hl), _, rfl, _, i, rfl, fun hin => ?_, fun ho => ?_⟩
    · obtain ⟨m, rfl⟩ : ∃ m : Nat, i = (m : Int) := ⟨i.toNat, by omega⟩
      have hmr : m < rs.length := by omega
      have q5 := q4 m rfl hmr hall
      clear q1 q2 q3 q4
      refine ⟨_, rfl, l, _, rfl, .inl (SqL.of hl), _, rfl, by omega, by omega, fun D hD => ?_⟩
      have SD : ∀ o, Same H (upd H D o) := fun o => same_new hD
      refine lc_range (lo := 0) (n := ((vs.length : Nat) : Int).toNat) (fun i H2 => H2 = upd H D (.lst (cutA (vs.take i) m))) ?_ ?_ ?_
      · simp [cutA]
      · rintro i H2 hi rfl
        have hiv : i < vs.length := by omega
        have ei : vs[i]? = some vs[i] := by simp [hiv]
        have es := cut_step (m := m) ei
        refine ⟨rfl, _, rfl, _, rfl, rfl, _, rfl, ?_⟩
        refine ite2 (fun c => ?_) (fun c => ?_)
        · have c' : ¬ i = m := by
            intro z
            subst z
            simp at c
          rw [if_neg c'] at es
          refine ⟨_, rfl, _, rfl, l, _, _, vs[i], rfl, rfl, SqL.of (SD _ _ _ hl), at_of (j := i) (by omega) ei, _, upd_same, small1000 ?_, ?_⟩
          · simp only [cutA, List.length_append, List.length_take, List.length_drop]
            omega
          · rw [upd_upd, es]
        · have c' : i = m := by
            have : V.int (0 + (i : Int)) = V.int (m : Int) := by simpa using c
            have := V.int.inj this
            omega
          rw [if_pos c'] at es
          show _ = _
          rw [es]
      · rintro H2 rfl
        rw [show (vs.take ((vs.length : Nat) : Int).toNat) = vs from List.take_of_length_le (by omega)]
        have S2 := SD (.lst (cutA vs m))
        have RD : RowAt (upd H D (.lst (cutA vs m))) D (less rs m) := ⟨_, upd_same, Rows.append ((R.same S2).take m) ((R.same S2).drop (m + 1))⟩
        have lc : (cutA vs m).length = (less rs m).length := by simp [cutA, less, lv]
        have hD2 : upd H D (.lst (cutA vs m)) D = some (.lst (cutA vs m)) := upd_same
        generalize upd H D (.lst (cutA vs m)) = H2 at S2 RD hD2 ⊢
        refine ⟨_, rfl, D, _, rfl, .inl (SqL.of hD2), _, _, rfl, rfl, _, rfl, ?_⟩
        refine ite2 (fun c => ?_) (fun c => ?_)
        · have hne2 : less rs m ≠ [] := fun z => by
            have l0 : (cutA vs m).length = 0 := by
              rw [lc, z]
              rfl
            have : (0 : Int) < ((cutA vs m).length : Int) := of_decide_eq_true c
            omega
          have hlen : ∀ r ∈ rs, r.length = ps.length := fun r hr => by
            have := hall r hr
            omega
          refine ⟨_, rfl, _, rfl, fo, D, ps, ks, _, rfl, O, FA.same S2, RD, hne2, fun r hr => hlen r (less_sub r hr), Nat.le_trans (less_len rs m) hm, fun H3 p S3 _ hp => ?_⟩
          have S23 := S2.trans S3
          refine ⟨_, rfl, _, rfl, fo, l, ps, ks, rs, rfl, O, FA.same S23, ⟨vs, S23 _ _ hl, R.same S23⟩, hne, hlen, hm, fun H4 p2 S4 _ hp2 => ?_⟩
          refine ⟨_, _, dp_rec (hp.same S4), dp_rec hp2, shaped_rec _, shaped_rec _, ?_⟩
          rw [eqv_rec]
          have q6 := q5 _ (S23.trans S4)
          unfold due at q6
          rw [decide_eq_false hne2] at q6
          exact q6
        · have hne2 : less rs m = [] := by
            apply List.length_eq_zero_iff.mp
            rw [← lc]
            have : ¬ (0 : Int) < ((cutA vs m).length : Int) := fun z => c (decide_eq_true z)
            omega
          have q6 := q5 _ S2
          unfold due at q6
          rw [decide_eq_true hne2] at q6
          exact q6
    · exact q3 hne hall (fun z => ho ⟨z.1, by rw [lv]; exact z.2⟩)
end

end
end K42
namespace K42
open PySem L2
section
variable {P : Program} {w : World} {K : PySem.W.Frag} {mg : Str → Option Value} {base : Heap}
abbrev sNever : Stmt := top 23
abbrev sShape : Stmt := top 24
abbrev sFInit : Stmt := inClass (top 25) 0
/-! ## never_ends -/
def spNever : Sp := fun vs H Q _ => ∃ (a : Addr) (ps : List (Option Nat)) (ks : List FR.Kd) (f : Nat), vs = [.ref a, .int f] ∧ FR.Forest ps ks ∧ H a = some (.lst (ps.map pV)) ∧ f < ps.length ∧ Q (.bl false) H
theorem scNever : FnScope ["parents", "field", "place", "_"] ["parents", "field"] (defScope sNever) := ⟨rfl, rfl, rfl, by decide +kernel, rfl, by decide +kernel, by decide +kernel⟩
theorem df_never_ends (T : Tx K mg "never_ends" sNever ["parents", "field"]) (B : Bl mg) : Df P w K mg base CX0 1 "never_ends" ["parents", "field"] spNever := T.df fun f fd F => by
  refine F.ok scNever (fun vs H Q E h => ?_) (fun cdv A outer s H vs Q E hr h => ?_)
  · obtain ⟨a, ps, ks, f, rfl, _⟩ := h
    rfl
  · obtain ⟨a, ps, ks, f, rfl, O, ha, hf, q⟩ := h
    refine ⟨_, (pss_cons (ps_set (i := 2) scNever.nd rfl (Or.inl rfl) (pv 1))
      (pss_cons (ps_for PassesOwn.never rfl (pi_range1 (by rfl) B.range (pa_cons (pe_callB call_len_seq (by rfl) B.len PySem.boot_len (pa_cons (pv 0) pa_nil)) pa_nil)) (pg_name (i := 3) scNever.nd rfl (Or.inl rfl)) (pss_cons (ps_if (pt_cmpR op_isN (pv 2) pe_non (nomark _)) (pss_one (ps_ret pe_bl)) pss_nil)
      (pss_one (ps_set (i := 2) scNever.nd rfl (Or.inl rfl) (pe_ix ix_list (pv 0) (pv 2) (fun _ _ => rfl))))))
      (pss_one (ps_ret (pe_cmpR op_notN (pv 2) pe_non (nomark _)))))), ?_⟩
    obtain ⟨d, d1, d2⟩ := O.deep
    have m8 := O.most
    refine ⟨_, rfl, _, rfl, a, _, rfl, .inl (SqL.of ha), ?_⟩
    rw [List.length_map]
    refine ⟨_, rfl, by omega, by omega, for_range (lo := 0) (n := (ps.length : Int).toNat) (fun i σ H' => ∃ (o : Option Nat) (v : Option V), σ = [some (.ref a), some (.int f), some (pV o), v] ∧ H' = H ∧ ∀ g, o = some g → g < ps.length ∧ d g + i ≤ d f)
      ⟨some f, none, rfl, rfl, fun g e => by cases e; exact ⟨hf, Nat.le_refl _⟩⟩ ?_ ?_⟩
    · rintro i σ H' hi ⟨o, v, rfl, rfl, ho⟩
      refine ⟨_, rfl, rfl, _, rfl, ?_⟩
      cases o with
      | none => exact q
      | some g =>
        obtain ⟨hg, hd⟩ := ho g rfl
        refine ⟨_, rfl, _, rfl, a, _, _, _, rfl, rfl, SqL.of ha, at_of (j := g) rfl (par_at hg), ?_⟩
        refine ⟨FR.par ps g, _, rfl, rfl, fun h e => ⟨O.low g h hg e, ?_⟩⟩
        have := d1 g h hg e
        omega
    · rintro σ H' ⟨o, v, rfl, rfl, ho⟩
      refine ⟨_, rfl, rfl, ?_⟩
      cases o with
      | none => exact q
      | some g =>
        obtain ⟨hg, hd⟩ := ho g rfl
        have := d2 f hf
        omega
/-! ## check_shape -/
def spShape : Sp := fun vs H Q _ => ∃ (a k : Addr) (ps : List (Option Nat)) (ks : List FR.Kd), vs = [.ref a, .ref k] ∧ FR.Forest ps ks ∧ H a = some (.lst (ps.map pV)) ∧ H k = some (.lst (ks.map kV)) ∧ ∀ H', Same H H' → Q .non H'
theorem inV_fl {k : FR.Kd} (h : inV (kV k) [.str "first", .str "last"] = true) : k.cmp = false := by
  cases k with
  | up => exact absurd h (by decide +kernel)
  | dn => exact absurd h (by decide +kernel)
  | fi => rfl
  | la => rfl
theorem inV_par {ps : List (Option Nat)} {j : Nat} (h : inV (.int j) (ps.map pV) = true) : ∃ f, f < ps.length ∧ FR.par ps f = some j := by
  unfold inV at h
  rw [List.any_eq_true] at h
  obtain ⟨y, hy, e⟩ := h
  obtain ⟨f, hf⟩ := List.mem_iff_getElem?.mp hy
  have hfl : f < ps.length := by
    have := (List.getElem?_eq_some_iff.mp hf).1
    rw [List.length_map] at this
    exact this
  rw [par_at hfl] at hf
  have hf := Option.some.inj hf
  subst hf
  refine ⟨f, hfl, ?_⟩
  cases ep : FR.par ps f with
  | none => rw [ep] at e; exact absurd e (by intro z; cases z)
  | some g =>
    rw [ep] at e
    have e2 : ((g : Int) == (j : Int)) = true := e
    have e3 : (g : Int) = (j : Int) := by simpa using e2
    have e4 : g = j := by omega
    rw [e4]
theorem ifT_of {c : Bool} {A B : Prop} (hc : c = true) (h : A) : if c = true then A else B := by
  rw [if_pos hc]
  exact h
theorem ifF_of {c : Bool} {A B : Prop} (hc : c = false) (h : B) : if c = true then A else B := by
  rw [hc, if_neg Bool.false_ne_true]
  exact h
theorem flat_kV (k : FR.Kd) : flatV (kV k) = true := by cases k <;> rfl
theorem scShape : FnScope ["parents", "kinds", "fields", "field"] ["parents", "kinds"] (defScope sShape) := ⟨rfl, rfl, rfl, by decide +kernel, rfl, by decide +kernel, by decide +kernel⟩
theorem df_check_shape (T : Tx K mg "check_shape" sShape ["parents", "kinds"]) (B : Bl mg) (hMF : ∃ t, mg "MOST_FIELDS" = some (.int 16 t)) (D_never_ends : Df P w K mg base CX0 1 "never_ends" ["parents", "field"] spNever) : Df P w K mg base CX0 2 "check_shape" ["parents", "kinds"] spShape := T.df fun f fd F => by
  obtain ⟨tmf, hmf⟩ := hMF
  refine F.ok scShape (fun vs H Q E h => ?_) (fun cdv A outer s H vs Q E hr h => ?_)
  · obtain ⟨a, k, ps, ks, rfl, _⟩ := h
    rfl
  · obtain ⟨a, k, ps, ks, rfl, O, ha, hk, q⟩ := h
    refine ⟨_, (pss_cons (ps_set (i := 2) scShape.nd rfl (Or.inl rfl) (pe_callB call_len_seq (by rfl) B.len PySem.boot_len (pa_cons (pv 0) pa_nil)))
      (pss_cons (ps_if (PW.pt (pw_or (pt_cmpR op_ne (pv 2) (pe_callB call_len_seq (by rfl) B.len PySem.boot_len (pa_cons (pv 1) pa_nil)) (nomark _)) (pw_or1 (pt_not (pt_chain op_le op_le pe_int (pv 2) (pe_glob (v := .int 16) (by rfl) hmf ⟨_, rfl⟩)))))) (pss_one ps_never) pss_nil)
      (pss_cons (ps_for PassesOwn.never rfl (pi_range1 (by rfl) B.range (pa_cons (pv 2) pa_nil)) (pg_name (i := 3) scShape.nd rfl (Or.inl rfl)) (pss_one (ps_if (PW.pt (pw_and (pt_cmpR op_notN (pe_ix ix_list (pv 0) (pv 3) (fun _ _ => rfl)) pe_non (nomark _)) (pw_and1 (pt_not (pt_chain op_le op_lt pe_int (pe_ix ix_list (pv 0) (pv 3) (fun _ _ => rfl)) (pv 2)))))) (pss_one ps_never) pss_nil)))
      (pss_cons (ps_for PassesOwn.never rfl (pi_range1 (by rfl) B.range (pa_cons (pv 2) pa_nil)) (pg_name (i := 3) scShape.nd rfl (Or.inl rfl)) (pss_one (ps_if (pt_val (pe_df D_never_ends (hr.mono (by decide)) pass0 (pa_cons (pv 0) (pa_cons (pv 3) pa_nil)))) (pss_one ps_never) pss_nil)))
      (pss_one (ps_for PassesOwn.never rfl (pi_range1 (by rfl) B.range (pa_cons (pv 2) pa_nil)) (pg_name (i := 3) scShape.nd rfl (Or.inl rfl)) (pss_one (ps_if (PW.pt (pw_and (pt_cmpR op_in_seq (pe_ix ix_list (pv 1) (pv 3) (fun _ _ => rfl)) (pe_tup (pa_cons pe_str (pa_cons pe_str pa_nil))) (by rfl)) (pw_and1 (pt_cmpR op_in_seq (pv 3) (pv 0) (by rfl))))) (pss_one ps_never) pss_nil)))))))), ?_⟩
    have m8 := O.most
    have m1 := O.pos
    have ml := O.len
    refine ⟨_, rfl, a, _, rfl, .inl (SqL.of ha), ?_⟩
    rw [List.length_map]
    refine ⟨_, rfl, _, rfl, k, _, rfl, .inl (SqL.of hk), rfl, _, rfl, ?_⟩
    rw [List.length_map]
    have e1 : (!decide (V.int (ps.length : Int) = V.int (ks.length : Int))) = false := by rw [ml]; simp
    rw [e1]
    refine iteF ?_
    refine ⟨_, rfl, _, _, rfl, rfl, _, rfl, ?_⟩
    refine ifT_of (decide_eq_true (by omega)) ?_
    refine ⟨_, _, rfl, rfl, _, rfl, ?_⟩
    refine ifF_of (by rw [decide_eq_true (show (ps.length : Int) ≤ 16 by omega)]; rfl) ?_
    refine ⟨_, rfl, _, rfl, by omega, by omega, for_range (lo := 0) (n := (ps.length : Int).toNat) (fun i σ H' => ∃ v, σ = [some (.ref a), some (.ref k), some (.int ps.length), v] ∧ H' = H) ⟨none, rfl, rfl⟩ ?_ ?_⟩
    · rintro i σ H' hi ⟨v, rfl, rfl⟩
      have hip : i < ps.length := by omega
      refine ⟨_, rfl, _, rfl, a, _, _, _, rfl, rfl, SqL.of ha, at_of (j := i) (by omega) (par_at hip), rfl, _, rfl, ?_⟩
      cases ep : FR.par ps i with
      | none => exact ifF_of (by rfl) (ifF_of rfl ⟨_, rfl, rfl⟩)
      | some h =>
        have hh := O.low i h hip ep
        refine ifT_of (by rfl) ?_
        refine ⟨_, rfl, _, rfl, a, _, _, .int (h : Int), rfl, rfl, SqL.of ha, at_of (j := i) (by omega) (by rw [par_at hip, ep]; rfl), _, _, rfl, rfl, _, rfl, ?_⟩
        refine ifT_of (decide_eq_true (by omega)) ?_
        refine ⟨_, rfl, _, _, rfl, rfl, _, rfl, ?_⟩
        exact ifF_of (by rw [decide_eq_true (show (h : Int) < (ps.length : Int) by omega)]; rfl) ⟨_, rfl, rfl⟩
    · rintro σ H' ⟨v, rfl, rfl⟩
      refine ⟨_, rfl, _, rfl, by omega, by omega, for_range (lo := 0) (n := (ps.length : Int).toNat) (fun i σ H2 => ∃ v, σ = [some (.ref a), some (.ref k), some (.int ps.length), v] ∧ H2 = H') ⟨v, rfl, rfl⟩ ?_ ?_⟩
      · rintro i σ H' hi ⟨v, rfl, rfl⟩
        have hip : i < ps.length := by omega
        exact ⟨_, rfl, _, rfl, a, ps, ks, i, by rw [Int.zero_add]; rfl, O, ha, hip, false, rfl, iteF ⟨_, rfl, rfl⟩⟩
      · rintro σ H' ⟨v, rfl, rfl⟩
        refine ⟨_, rfl, _, rfl, by omega, by omega, for_range (lo := 0) (n := (ps.length : Int).toNat) (fun i σ H2 => ∃ v, σ = [some (.ref a), some (.ref k), some (.int ps.length), v] ∧ Same H' H2) ⟨v, rfl, Same.refl _⟩ ?_ ?_⟩
        · rintro i σ H2 hi ⟨v, rfl, S2⟩
          have hip : i < ps.length := by omega
          refine ⟨_, rfl, _, rfl, k, _, _, _, rfl, rfl, SqL.of (S2 _ _ hk), at_of (j := i) (by omega) (kind_at (by omega)), (by show 2 ≤ sizeLine; decide), fun p hp => ?_⟩
          have S3 : Same H2 (upd H2 p (.tup [.str "first", .str "last"])) := same_new hp
          refine ⟨p, _, rfl, .inr (SqT.of upd_same), flat_kV _, rfl, _, rfl, ?_⟩
          have S23 := S2.trans S3
          refine ite2 (fun c => ?_) (fun c => ?_)
          · have c1 := inV_fl c
            refine ⟨_, rfl, _, rfl, a, _, rfl, .inl (SqL.of (S23 _ _ ha)), rfl, flat_pV ps, _, rfl, ?_⟩
            refine ite2 (fun c => ?_) (fun c => ?_)
            · exfalso
              rw [Int.zero_add] at c
              obtain ⟨f, hf, e⟩ := inV_par c
              rw [O.kind f i hf e] at c1
              cases c1
            · exact ⟨_, rfl, S23⟩
          · exact ifF_of rfl ⟨_, rfl, S23⟩
        · rintro σ H2 ⟨v, rfl, S2⟩
          exact q H2 S2
/-! ## Forest.__init__ -/
def spFInit (C : Addr) : Sp := fun vs H Q _ => ∃ (p dx a k : Addr) (ps : List (Option Nat)) (ks : List FR.Kd), vs = [.ref p, .ref a, .ref k] ∧ FR.Forest ps ks ∧ H p = some (.ins C dx []) ∧ H a = some (.lst (ps.map pV)) ∧ H k = some (.lst (ks.map kV)) ∧
  ∀ H', But p H H' → ForestAt C H' p ps ks → Q .non H'
theorem scFInit : FnScope ["self", "parents", "kinds"] ["self", "parents", "kinds"] (defScope sFInit) := ⟨rfl, rfl, rfl, by decide +kernel, rfl, by decide +kernel, by decide +kernel⟩
theorem ok_finit {C f : Addr} {fd : FuncData} (F : Fun K "__init__" "Forest.__init__" sFInit f fd) (B : Bl mg) (Z : Fc K C) (D_check_shape : Df P w K mg base CX0 2 "check_shape" ["parents", "kinds"] spShape) : FnOk P w K mg base CX0 3 f fd ["self", "parents", "kinds"] (spFInit C) := by
  refine F.ok scFInit (fun vs H Q E h => ?_) (fun cdv A outer s H vs Q E hr h => ?_)
  · obtain ⟨p, dx, a, k, ps, ks, rfl, _⟩ := h
    rfl
  · obtain ⟨p, dx, a, k, ps, ks, rfl, O, hp, ha, hk, q⟩ := h
    refine ⟨_, (pss_cons (ps_expr (pe_df D_check_shape (hr.mono (by decide)) pass0 (pa_cons (pv 1) (pa_cons (pv 2) pa_nil))))
      (pss_cons (ps_fld (pv 0) (pe_callB call_len_seq (by rfl) B.len PySem.boot_len (pa_cons (pv 1) pa_nil)) rfl)
      (pss_cons (ps_fld (pv 0) (pe_callTy call_tuple_of (by rfl) B.tuple (by decide +kernel) (pa_cons (pv 1) pa_nil)) rfl)
      (pss_one (ps_fld (pv 0) (pe_callTy call_tuple_of (by rfl) B.tuple (by decide +kernel) (pa_cons (pv 2) pa_nil)) rfl))))), ?_⟩
    have nap : a ≠ p := ne_of ha hp (by intro z; cases z)
    have nkp : k ≠ p := ne_of hk hp (by intro z; cases z)
    refine ⟨_, rfl, _, rfl, a, k, ps, ks, rfl, O, ha, hk, fun H1 S1 => ?_⟩
    have hp1 := S1 _ _ hp
    have ha1 := S1 _ _ ha
    have hk1 := S1 _ _ hk
    refine ⟨_, rfl, a, _, rfl, .inl (SqL.of ha1), ?_⟩
    rw [List.length_map]
    refine ⟨_, rfl, p, C, dx, _, rfl, hp1, Z.cl, Z.nF, (by show 0 < 1000; decide), ?_⟩
    have ha2 : ∀ {o}, upd H1 p o a = some (.lst (ps.map pV)) := fun {o} => by rw [upd_ne nap]; exact ha1
    have hk2 : ∀ {o}, upd H1 p o k = some (.lst (ks.map kV)) := fun {o} => by rw [upd_ne nkp]; exact hk1
    refine ⟨_, rfl, a, _, rfl, .inl ⟨SqL.of ha2, fun c hc => ?_⟩⟩
    have npc : p ≠ c := ne_of_none upd_same hc
    refine ⟨_, rfl, p, C, dx, _, rfl, (by rw [upd_ne npc]; exact upd_same), Z.cl, Z.nP, (by show 1 < 1000; decide), ?_⟩
    have hk3 : ∀ {o o'}, upd (upd (upd H1 p o) c (.tup (ps.map pV))) p o' k = some (.lst (ks.map kV)) := fun {o o'} => by
      have nkc : k ≠ c := ne_of_none (hk2 (o := .ins C dx (putF "fields" (.int ps.length) []))) hc
      rw [upd_ne nkp, upd_ne nkc]
      exact hk2
    refine ⟨_, rfl, k, _, rfl, .inl ⟨SqL.of hk3, fun e he => ?_⟩⟩
    have npe : p ≠ e := ne_of_none upd_same he
    have nce : c ≠ e := by
      intro z
      subst z
      rw [upd_ne npc.symm, upd_same] at he
      cases he
    refine ⟨_, rfl, p, C, dx, _, rfl, (by rw [upd_ne npe]; exact upd_same), Z.cl, Z.nK, Nat.lt_of_le_of_lt (Nat.le_trans (length_putF _ _ _) (Nat.succ_le_succ (length_putF _ _ _))) (by decide), ?_⟩
    refine q _ (fun b o nb eb => ?_) ⟨dx, c, e, upd_same, ?_, ?_⟩
    · have nbc : b ≠ c := by
        have e1 := S1 _ _ eb
        exact ne_of_none (show upd H1 p _ b = some o by rw [upd_ne nb]; exact e1) hc
      have nbe : b ≠ e := by
        have e1 := S1 _ _ eb
        refine ne_of_none (o := o) ?_ he
        rw [upd_ne nb, upd_ne nbc, upd_ne nb]
        exact e1
      rw [upd_ne nb, upd_ne nbe, upd_ne nb, upd_ne nbc, upd_ne nb]
      exact S1 _ _ eb
    · rw [upd_ne npc.symm, upd_ne nce, upd_ne npc.symm, upd_same]
    · rw [upd_ne npe.symm, upd_same]

end
end K42
namespace K42
open PySem L2
section
variable {P : Program} {w : World} {K : PySem.W.Frag} {mg : Str → Option Value} {base : Heap}
abbrev sTells : Stmt := top 47
abbrev sAround : Stmt := top 48
section
variable {C CR CP CN : Addr}
theorem kit_bool_bool {K : PySem.W.Frag} : PySem.W.kitOne K (.type "bool") (.type "bool") = some true := kit_ty (by decide +kernel)
/-! ## _law_tells -/
def spTells (C : Addr) : Sp := fun vs H Q _ => ∃ (fo a k l : Addr) (m : Nat) (ps : List (Option Nat)) (ks : List FR.Kd) (rs : List Rc), vs = [.ref fo, .ref a, .ref k, .ref l, .int m] ∧ FR.Forest ps ks ∧ ForestAt C H fo ps ks ∧ H a = some (.lst (ps.map pV)) ∧ H k = some (.lst (ks.map kV)) ∧
  RowAt H l rs ∧ m < rs.length ∧ (∀ r ∈ rs, r.length = ps.length) ∧ rs.length ≤ 1000 ∧ ∀ H', Same H H' → Q (.bl true) H'
theorem scTells : FnScope ["_law_forest", "_law_parents_here", "_law_kinds_here", "_law_records", "_law_index", "_law_rows", "_law_actual"] ["_law_forest", "_law_parents_here", "_law_kinds_here", "_law_records", "_law_index"] (defScope sTells) := ⟨rfl, rfl, rfl, by decide +kernel, rfl, by decide +kernel, by decide +kernel⟩
theorem df_tells (T : Tx K mg "_law_tells" sTells ["_law_forest", "_law_parents_here", "_law_kinds_here", "_law_records", "_law_index"]) (B : Bl mg) (D_can_strike : Df P w K mg base (L2N.CX P w) 5 "can_strike" ["forest", "records", "index"] (spStrike C CN CR CP)) (D_due : Df P w K mg base CX0 5 "_law_due" ["_law_parents_here", "_law_kinds_here", "_law_records", "_law_index"] spDue) :
    Df P w K mg base CX0 6 "_law_tells" ["_law_forest", "_law_parents_here", "_law_kinds_here", "_law_records", "_law_index"] (spTells C) := T.df fun f fd F => by
  refine F.ok scTells (fun vs H Q E h => ?_) (fun cdv A outer s H vs Q E hr h => ?_)
  · obtain ⟨fo, a, k, l, m, ps, ks, rs, rfl, _⟩ := h
    rfl
  · obtain ⟨fo, a, k, l, m, ps, ks, rs, rfl, O, FA, ha, hk, ⟨vs, hl, R⟩, hmr, hlen, hm, q⟩ := h
    refine ⟨_, (pss_cons (ps_set (i := 5) scTells.nd rfl (Or.inl rfl) (pe_callTy call_list_of (by rfl) B.list (by decide +kernel) (pa_cons (pv 3) pa_nil)))
      (pss_cons (ps_set (i := 6) scTells.nd rfl (Or.inl rfl) (pe_df D_can_strike (hr.mono (by decide)) passN0 (pa_cons (pv 0) (pa_cons (pv 5) (pa_cons (pv 4) pa_nil)))))
      (pss_cons (ps_if (PW.pt (pw_or (pt_not (pt_val (pe_callB call_isi (by rfl) B.isinstance (by decide +kernel) (pa_cons (pv 6) (pa_cons (pe_bltn (v := .ty "bool") (u := .type "bool") (by rfl) B.bool (by decide +kernel) rfl) pa_nil))))) (pw_or1 (pt_cmpR (op_neD hr.units) (pv 5) (pv 3) (nomark _))))) (pss_one (ps_ret pe_bl)) pss_nil)
      (pss_one (ps_ret (pe_cmpR op_eq (pv 6) (pe_df D_due (hr.mono (by decide)) pass0 (pa_cons (pv 1) (pa_cons (pv 2) (pa_cons (pv 3) (pa_cons (pv 4) pa_nil))))) (nomark _))))))), ?_⟩
    have lv : vs.length = rs.length := R.length
    have hne : rs ≠ [] := fun z => by
      rw [z] at hmr
      simp at hmr
    refine ⟨_, rfl, l, _, rfl, .inl (SqL.of hl), fun L hL => ?_⟩
    have S1 : Same H (upd H L (.lst vs)) := same_new hL
    have RL : RowAt (upd H L (.lst vs)) L rs := ⟨_, upd_same, R.same S1⟩
    generalize upd H L (.lst vs) = H1 at S1 RL ⊢
    refine ⟨_, rfl, _, rfl, _, rfl, fo, L, m, ps, ks, rs, rfl, O, FA.same S1, RL, hm, fun z => absurd z hne, fun i p r hi _ hw => absurd (congrArg Nat.cast (hlen r (List.mem_of_getElem? hi))) hw, fun _ _ ho => absurd ⟨by omega, by omega⟩ ho, fun m2 e hlt _ H2 S2 => ?_⟩
    have e2 : m2 = m := by omega
    subst e2
    have S02 := S1.trans S2
    refine ⟨_, rfl, _, _, _, _, _, rfl, .ty _, .base (.bl _), kit_bool_bool, _, rfl, iteF ?_⟩
    refine ⟨_, rfl, _, rfl, rowD rs, rowD rs, dp_row (RL.same S2), dp_row ⟨vs, S02 _ _ hl, R.same S02⟩, shaped_row _, shaped_row _, _, rfl, ?_⟩
    refine ifF_of (by rw [eqv_row, decide_eq_true rfl]; rfl) ?_
    refine ⟨_, rfl, _, rfl, _, rfl, _, rfl, _, rfl, a, k, ps, ks, l, rs, m2, rfl, O, S02 _ _ ha, S02 _ _ hk, ⟨vs, S02 _ _ hl, R.same S02⟩, hmr, hlen, hm, fun H3 S3 => ?_⟩
    refine ⟨rfl, ?_⟩
    rw [decide_eq_true rfl]
    exact q H3 (S02.trans S3)
/-! ## _law_same_around -/
def spAround (C : Addr) : Sp := fun vs H Q _ => ∃ (fo a k b l c : Addr) (m : Nat) (ps : List (Option Nat)) (ks : List FR.Kd) (bs rs cs : List Rc), vs = [.ref fo, .ref a, .ref k, .ref b, .ref l, .int m, .ref c] ∧ FR.Forest ps ks ∧ ForestAt C H fo ps ks ∧ H a = some (.lst (ps.map pV)) ∧ H k = some (.lst (ks.map kV)) ∧
  RowAt H b bs ∧ RowAt H l rs ∧ RowAt H c cs ∧ m < rs.length ∧ (∀ r ∈ rs, r.length = ps.length) ∧ (∀ r ∈ bs, r.length = ps.length) ∧ (∀ r ∈ cs, r.length = ps.length) ∧ rs.length ≤ 900 ∧ bs.length ≤ 10 ∧ cs.length ≤ 10 ∧ due ps ks rs m = true ∧ ∀ H', Same H H' → Q (.bl true) H'
theorem scAround : FnScope ["_law_forest", "_law_parents_here", "_law_kinds_here", "_law_before", "_law_row_here", "_law_index", "_law_after", "_law_whole", "_law_less", "_law_end", "_law_actual"] ["_law_forest", "_law_parents_here", "_law_kinds_here", "_law_before", "_law_row_here", "_law_index", "_law_after"] (defScope sAround) := ⟨rfl, rfl, rfl, by decide +kernel, rfl, by decide +kernel, by decide +kernel⟩
theorem df_same_around (T : Tx K mg "_law_same_around" sAround ["_law_forest", "_law_parents_here", "_law_kinds_here", "_law_before", "_law_row_here", "_law_index", "_law_after"]) (B : Bl mg) (D_fold : Df P w K mg base CX0 4 "_law_fold" ["_law_parents_here", "_law_kinds_here", "_law_records"] spFold) (D_row_end : Df P w K mg base CX0 4 "row_end" ["forest", "records"] (spRowEnd C))
    (D_is_record : Df P w K mg base CX0 2 "_law_is_record" ["_law_actual", "_law_n"] (spIsRec K)) : Df P w K mg base CX0 5 "_law_same_around" ["_law_forest", "_law_parents_here", "_law_kinds_here", "_law_before", "_law_row_here", "_law_index", "_law_after"] (spAround C) := T.df fun f fd F => by
  refine F.ok scAround (fun vs H Q E h => ?_) (fun cdv A outer s H vs Q E hr h => ?_)
  · obtain ⟨fo, a, k, b, l, c, m, ps, ks, bs, rs, cs, rfl, _⟩ := h
    rfl
  · obtain ⟨fo, a, k, b, l, c, m, ps, ks, bs, rs, cs, rfl, O, FA, ha, hk, ⟨bv, hb, RB⟩, ⟨vs, hl, R⟩, ⟨cv, hc, RC⟩, hmr, hlen, blen, clen, hm, bm, cm, hdue, q⟩ := h
    refine ⟨_, (pss_cons (ps_set (i := 7) scAround.nd rfl (Or.inl rfl) (pe_op op_cat (pe_op op_cat (pv 3) (pv 4)) (pv 6)))
      (pss_cons (ps_set (i := 8) scAround.nd rfl (Or.inl rfl) (pe_op op_cat (pe_op op_cat (pe_op op_cat (pv 3) (pe_slice sl_list (pv 4) po_none (po_some (pv 5)))) (pe_slice sl_list (pv 4) (po_some (pe_op op_add (pv 5) pe_int)) po_none)) (pv 6)))
      (pss_cons (ps_set (i := 9) scAround.nd rfl (Or.inl rfl) (pe_df D_fold (hr.mono (by decide)) pass0 (pa_cons (pv 1) (pa_cons (pv 2) (pa_cons (pv 7) pa_nil)))))
      (pss_cons (ps_set (i := 10) scAround.nd rfl (Or.inl rfl) (pe_df D_row_end (hr.mono (by decide)) pass0 (pa_cons (pv 0) (pa_cons (pe_callTy call_list_of (by rfl) B.list (by decide +kernel) (pa_cons (pv 8) pa_nil)) pa_nil))))
      (pss_cons (ps_if (PW.pt (pw_or (pt_not (pt_val (pe_df D_is_record (hr.mono (by decide)) pass0 (pa_cons (pv 10) (pa_cons (pe_callB call_len_seq (by rfl) B.len PySem.boot_len (pa_cons (pv 1) pa_nil)) pa_nil))))) (pw_or1 (pt_cmpR (op_neD hr.units) (pv 10) (pv 9) (nomark _))))) (pss_one (ps_ret pe_bl)) pss_nil)
      (pss_one (ps_ret (pe_and (pe_cmpR (op_eqD hr.units) (pe_df D_fold (hr.mono (by decide)) pass0 (pa_cons (pv 1) (pa_cons (pv 2) (pa_cons (pv 8) pa_nil)))) (pv 9) (nomark _)) (pe_one (pe_cmpR (op_eqD hr.units) (pe_df D_row_end (hr.mono (by decide)) pass0 (pa_cons (pv 0) (pa_cons (pe_callTy call_list_of (by rfl) B.list (by decide +kernel) (pa_cons (pv 7) pa_nil)) pa_nil))) (pv 9) (nomark _))))))))))), ?_⟩
    have lv : vs.length = rs.length := R.length
    have lb : bv.length = bs.length := RB.length
    have lc : cv.length = cs.length := RC.length
    have hne : rs ≠ [] := fun z => by
      rw [z] at hmr
      simp at hmr
    -- whole
    refine ⟨_, rfl, _, rfl, b, l, _, _, rfl, rfl, hb, hl, Nat.le_of_lt (small1000 (by omega)), fun e1 he1 => ?_⟩
    have S1 : Same H (upd H e1 (.lst (bv ++ vs))) := same_new he1
    have he1' : upd H e1 (.lst (bv ++ vs)) e1 = some (.lst (bv ++ vs)) := upd_same
    generalize upd H e1 (.lst (bv ++ vs)) = H1 at S1 he1' ⊢
    refine ⟨_, rfl, e1, c, _, _, rfl, rfl, he1', S1 _ _ hc, Nat.le_of_lt (small1000 (by rw [List.length_append]; omega)), fun W hW => ?_⟩
    have S2 := S1.trans (same_new (o := .lst (bv ++ vs ++ cv)) hW)
    have RW : RowAt (upd H1 W (.lst (bv ++ vs ++ cv))) W (bs ++ rs ++ cs) := ⟨_, upd_same, ((RB.same S2).append (R.same S2)).append (RC.same S2)⟩
    generalize upd H1 W (.lst (bv ++ vs ++ cv)) = H2 at S2 RW ⊢
    -- less
    refine ⟨_, rfl, _, rfl, _, rfl, _, rfl, l, _, rfl, SqL.of (S2 _ _ hl), fun x1 hx1 => ?_⟩
    rw [cut_to vs (i := m) (by omega)]
    have S3 := same_new (o := .lst (vs.take m)) hx1
    have hx1' : upd H2 x1 (.lst (vs.take m)) x1 = some (.lst (vs.take m)) := upd_same
    generalize upd H2 x1 (.lst (vs.take m)) = H3 at S3 hx1' ⊢
    have S03 := S2.trans S3
    have lt1 : (vs.take m).length = m := by rw [List.length_take]; omega
    refine ⟨b, x1, _, _, rfl, rfl, S03 _ _ hb, hx1', Nat.le_of_lt (small1000 (by omega)), fun x2 hx2 => ?_⟩
    have S4 := same_new (o := .lst (bv ++ vs.take m)) hx2
    have hx2' : upd H3 x2 (.lst (bv ++ vs.take m)) x2 = some (.lst (bv ++ vs.take m)) := upd_same
    generalize upd H3 x2 (.lst (bv ++ vs.take m)) = H4 at S4 hx2' ⊢
    have S04 := S03.trans S4
    refine ⟨_, rfl, _, rfl, _, _, rfl, rfl, _, rfl, l, _, rfl, SqL.of (S04 _ _ hl), fun x3 hx3 => ?_⟩
    rw [show ((m : Int) + 1) = ((m + 1 : Nat) : Int) from rfl, cut_from vs (i := m + 1) (by omega)]
    have S5 := same_new (o := .lst (vs.drop (m + 1))) hx3
    have hx3' : upd H4 x3 (.lst (vs.drop (m + 1))) x3 = some (.lst (vs.drop (m + 1))) := upd_same
    generalize upd H4 x3 (.lst (vs.drop (m + 1))) = H5 at S5 hx3' ⊢
    have S05 := S04.trans S5
    have ld : (vs.drop (m + 1)).length = vs.length - (m + 1) := List.length_drop
    refine ⟨x2, x3, _, _, rfl, rfl, S5 _ _ hx2', hx3', Nat.le_of_lt (small1000 (by rw [List.length_append]; omega)), fun x4 hx4 => ?_⟩
    have S6 := same_new (o := .lst (bv ++ vs.take m ++ vs.drop (m + 1))) hx4
    have hx4' : upd H5 x4 (.lst (bv ++ vs.take m ++ vs.drop (m + 1))) x4 = some (.lst (bv ++ vs.take m ++ vs.drop (m + 1))) := upd_same
    generalize upd H5 x4 (.lst (bv ++ vs.take m ++ vs.drop (m + 1))) = H6 at S6 hx4' ⊢
    have S06 := S05.trans S6
    refine ⟨_, rfl, x4, c, _, _, rfl, rfl, hx4', S06 _ _ hc, Nat.le_of_lt (small1000 (by rw [List.length_append, List.length_append]; omega)), fun L hL => ?_⟩
    have S7 := S06.trans (same_new (o := .lst (bv ++ vs.take m ++ vs.drop (m + 1) ++ cv)) hL)
    have S27 := ((S3.trans S4).trans (S5.trans S6)).trans (same_new (o := .lst (bv ++ vs.take m ++ vs.drop (m + 1) ++ cv)) hL)
    have RL : RowAt (upd H6 L (.lst (bv ++ vs.take m ++ vs.drop (m + 1) ++ cv))) L (bs ++ less rs m ++ cs) := by
      refine ⟨_, upd_same, ?_⟩
      have e : bs ++ less rs m ++ cs = bs ++ rs.take m ++ rs.drop (m + 1) ++ cs := by unfold less; simp
      rw [e]
      exact (((RB.same S7).append ((R.same S7).take m)).append ((R.same S7).drop (m + 1))).append (RC.same S7)
    generalize upd H6 L (.lst (bv ++ vs.take m ++ vs.drop (m + 1) ++ cv)) = H7 at S7 S27 RL ⊢
    have RW7 := RW.same S27
    -- what is known of them
    have wl : ∀ r ∈ bs ++ rs ++ cs, r.length = ps.length := fun r hr => by
      rcases List.mem_append.mp hr with h | h
      · rcases List.mem_append.mp h with h | h
        · exact blen r h
        · exact hlen r h
      · exact clen r h
    have ll : ∀ r ∈ bs ++ less rs m ++ cs, r.length = ps.length := fun r hr => by
      rcases List.mem_append.mp hr with h | h
      · rcases List.mem_append.mp h with h | h
        · exact blen r h
        · exact hlen r (less_sub r h)
      · exact clen r h
    have hd1 : less rs m ≠ [] := fun z => by
      unfold due at hdue
      rw [decide_eq_true z] at hdue
      cases hdue
    have hd2 : FR.fold (FR.kindAt ks) (FR.path ps) ps.length (less rs m) = FR.fold (FR.kindAt ks) (FR.path ps) ps.length rs := by
      unfold due at hdue
      rw [decide_eq_false hd1] at hdue
      exact of_decide_eq_true hdue
    have key := FR.fold_around (FR.pathsOk O) hne hd1 hd2 bs cs
    have wne : bs ++ rs ++ cs ≠ [] := fun z => hne (by simp at z; exact z.2.1)
    have lne : bs ++ less rs m ++ cs ≠ [] := fun z => hd1 (by simp at z; exact z.2.1)
    have wm : (bs ++ rs ++ cs).length ≤ 1000 := by
      rw [List.length_append, List.length_append]
      omega
    have lm : (bs ++ less rs m ++ cs).length ≤ 1000 := by
      have := less_len rs m
      rw [List.length_append, List.length_append]
      omega
    generalize bs ++ rs ++ cs = wh at RW RW7 wl wne wm key
    generalize bs ++ less rs m ++ cs = le at RL ll lne lm key
    refine ⟨_, rfl, _, rfl, _, rfl, a, k, ps, ks, W, wh, rfl, O, S7 _ _ ha, S7 _ _ hk, RW7, wne, wl, wm, fun H8 E S8 hE => ?_⟩
    have S08 := S7.trans S8
    obtain ⟨lev, hle, RLe⟩ := RL.same S8
    refine ⟨_, rfl, _, rfl, L, _, rfl, .inl (SqL.of hle), fun y1 hy1 => ?_⟩
    have S9 := same_new (o := .lst lev) hy1
    have Ry1 : RowAt (upd H8 y1 (.lst lev)) y1 le := ⟨_, upd_same, RLe.same S9⟩
    generalize upd H8 y1 (.lst lev) = H9 at S9 Ry1 ⊢
    refine ⟨fo, y1, ps, ks, le, rfl, O, FA.same (S08.trans S9), Ry1, lne, ll, lm, fun H10 p S10 _ hp => ?_⟩
    have S010 := (S08.trans S9).trans S10
    have E10 := hE.same (S9.trans S10)
    refine ⟨_, rfl, _, rfl, a, _, rfl, .inl (SqL.of (S010 _ _ ha)), ?_⟩
    rw [List.length_map]
    refine ⟨p, _, _, rfl, SqT.of hp, hp, _, rfl, ?_⟩
    rw [FR.fold_length lne ll, decide_eq_true rfl]
    refine iteF ?_
    refine ⟨_, rfl, _, rfl, _, _, dp_rec hp, dp_rec E10, shaped_rec _, shaped_rec _, _, rfl, ?_⟩
    refine ifF_of (by rw [eqv_rec, decide_eq_true key]; rfl) ?_
    have RL10 := RL.same ((S8.trans S9).trans S10)
    have RW10 := RW7.same ((S8.trans S9).trans S10)
    refine ⟨_, rfl, _, rfl, _, rfl, a, k, ps, ks, L, le, rfl, O, S010 _ _ ha, S010 _ _ hk, RL10, lne, ll, lm, fun H11 p2 S11 hp2 => ?_⟩
    have E11 := E10.same S11
    refine ⟨_, rfl, _, _, dp_rec hp2, dp_rec E11, shaped_rec _, shaped_rec _, _, rfl, ?_⟩
    refine ifT_of (by rw [eqv_rec, decide_eq_true key]) ?_
    have S011 := S010.trans S11
    obtain ⟨wv, hwv, RWv⟩ := RW10.same S11
    refine ⟨_, rfl, _, rfl, W, _, rfl, .inl (SqL.of hwv), fun y2 hy2 => ?_⟩
    have S12 := same_new (o := .lst wv) hy2
    have Ry2 : RowAt (upd H11 y2 (.lst wv)) y2 wh := ⟨_, upd_same, RWv.same S12⟩
    generalize upd H11 y2 (.lst wv) = H12 at S12 Ry2 ⊢
    refine ⟨fo, y2, ps, ks, wh, rfl, O, FA.same (S011.trans S12), Ry2, wne, wl, wm, fun H13 p3 S13 _ hp3 => ?_⟩
    refine ⟨_, rfl, _, _, dp_rec hp3, dp_rec (E11.same (S12.trans S13)), shaped_rec _, shaped_rec _, ?_⟩
    rw [eqv_rec, decide_eq_true rfl]
    exact q _ ((S011.trans S12).trans S13)
end

end
end K42
namespace K42
open PySem L2
section
variable {P : Program} {w : World} {K : PySem.W.Frag} {mg : Str → Option Value} {base : Heap}
open L2H
abbrev sRefused : Stmt := top 49
/-! ## what isinstance and except need of the own errors -/
structure EC (K : PySem.W.Frag) (D CF : Addr) : Prop where
  ga : PySem.W.findIn K (.ref D) "__getattribute__" = some (some (.builtin "BaseException.__getattribute__"))
  gg : PySem.W.findIn K (.ref D) "__getattr__" = some none
  ex : PySem.W.subIn K (.ref D) (.type "BaseException") = some true
  hd : PySem.W.hasDictIn K D = true
  ty : PySem.W.typeIn K (.ref D) = some (.type "type")
  ca : PySem.W.findIn K (.ref D) "__class__" = some (some (.builtin "object.__class__"))
  mo : PySem.W.mroIn K D (.type "object") = some true
  ve : PySem.W.subIn K (.ref D) (.type "ValueError") = some true
  fe : PySem.W.subIn K (.ref D) (.ref CF) = some true
  slf : PySem.W.subIn K (.ref D) (.ref D) = some true
  hn : PySem.W.specialIn K (.builtin "object.__class__") "__get__" = some (some (.builtin "getset_descriptor.__get__"))
  ht : PySem.W.takesIn K (.builtin "object.__class__") = some true
theorem cls_some {K : PySem.W.Frag} {D : Addr} (h : PySem.W.hasDictIn K D = true) : (PySem.W.clsIn K D).isSome = true := by
  obtain ⟨cd, hc, _⟩ := PySem.W.any_some h
  rw [hc]
  rfl
theorem EC.isE {K : PySem.W.Frag} {D CF : Addr} (e : EC K D CF) : IsE K D := ⟨cls_some e.hd, e.ga, e.gg, e.ex, e.ca, e.hn, e.ht, e.mo⟩
theorem kit_self {K : PySem.W.Frag} {D : Addr} : PySem.W.kitOne K (.ref D) (.ref D) = some true := by
  unfold PySem.W.kitOne
  rw [if_pos (beq_self_eq_true _)]
theorem kit_ve {K : PySem.W.Frag} {D CF : Addr} (e : EC K D CF) : PySem.W.kitOne K (.ref D) (.type "ValueError") = some true := by
  unfold PySem.W.kitOne
  rw [if_neg (show ¬ ((Value.ref D == Value.type "ValueError") = true) from Bool.false_ne_true)]
  show (if PySem.W.kitMeta "ValueError" = true then PySem.W.subIn K (.ref D) (.type "ValueError") else none) = some true
  rw [if_pos (by decide +kernel)]
  exact e.ve
theorem kit_no {K : PySem.W.Frag} {C D : Addr} (hd : PySem.W.hasDictIn K D = true) (ty : PySem.W.typeIn K (.ref D) = some (.type "type")) (slf : PySem.W.subIn K (.ref C) (.ref C) = some true) (no : PySem.W.subIn K (.ref C) (.ref D) = some false) :
    PySem.W.kitOne K (.ref C) (.ref D) = some false := by
  have ne : ¬ ((Value.ref C == Value.ref D) = true) := fun z => by
    have e : C = D := Value.ref.inj (beq_iff_eq.mp z)
    rw [← e, slf] at no
    cases no
  unfold PySem.W.kitOne
  rw [if_neg ne]
  show (if ((PySem.W.clsIn K D).isSome && PySem.W.typeIn K (.ref D) == some (.type "type")) = true then PySem.W.subIn K (.ref C) (.ref D) else none) = some false
  rw [if_pos (by rw [cls_some hd, ty] <;> rfl)]
  exact no
theorem kitAny_no {K : PySem.W.Frag} {t c : Value} {r : List Value} (h : PySem.W.kitOne K t c = some false) (hr : PySem.W.kitAny K t r = some false) : PySem.W.kitAny K t (c :: r) = some false := by
  unfold PySem.W.kitAny
  rw [h]
  exact hr
/-- isinstance(e, c), (e, (c1, ..)): the class of e told by the reading -/
theorem call_isE1x {X : Cx} (K : PySem.W.Frag) {a : Addr} {cls : Value} {d : Option Addr} {oe : Obj} {pn : List (Addr × Obj)} (hz : Zc cls d oe) (hf : ∃ vs, oe.data = .fields vs) (hK : X.K = K := by rfl) :
    CallR (X.suite a ((a, oe) :: pn)) (.builtin "isinstance") (fun xs H Q => ∃ D, cls = .ref D ∧ IsE K D ∧ rIsE1 K D a d xs H Q) := by
  subst hK
  intro pins s σ H xs us Q I r h
  obtain ⟨D, e, C, h⟩ := h
  subst e
  exact call_isE1 C hz hf pins s σ H xs us Q I r h
theorem call_isETx {X : Cx} (K : PySem.W.Frag) {a : Addr} {cls : Value} {d : Option Addr} {oe : Obj} {pn : List (Addr × Obj)} (hz : Zc cls d oe) (hf : ∃ vs, oe.data = .fields vs) (hK : X.K = K := by rfl) :
    CallR (X.suite a ((a, oe) :: pn)) (.builtin "isinstance") (fun xs H Q => ∃ D, cls = .ref D ∧ IsE K D ∧ rIsET K D a d xs H Q) := by
  subst hK
  intro pins s σ H xs us Q I r h
  obtain ⟨D, e, C, h⟩ := h
  subst e
  exact call_isET C hz hf pins s σ H xs us Q I r h
theorem op_eqDK {X : Cx} (K : PySem.W.Frag) (hu : X.A.units + 64 < cLine) (h : X.K = K := by rfl) : OpR X (compareOp .Eq) (rEqD K) := by
  subst h
  exact op_eqD hu
theorem op_neDK {X : Cx} (K : PySem.W.Frag) (hu : X.A.units + 64 < cLine) (h : X.K = K := by rfl) : OpR X (compareOp .NotEq) (rNeD K) := by
  subst h
  exact op_neD hu
theorem roomS {k : Nat} {A : Around} (r : Room k A) (h : Option Value) : RoomH k (A.mark h) := ⟨r.dp, r.un⟩
theorem hotS {X : Cx} {a : Addr} {cls : Value} {d : Option Addr} {oe : Obj} {pn : List (Addr × Obj)} (hz : L2N.Zn cls d oe) (hf : ∃ vs, oe.data = .fields vs) : HotC (X.suite a ((a, oe) :: pn)) := by
  obtain ⟨vs, hd⟩ := hf
  exact ⟨(a, oe), ⟨rfl, vs, hd, hz.2.2 vs hd⟩, List.mem_cons_self⟩
theorem pe_dfS {X : Cx} {CX : CXT} {k : Nat} {x : Str} {ps : List Str} {sp : Sp} {E : L2.St → XK} {p pos : Pos} {e : Expr} {es : List Expr} {t : TA} (D : Df X.prog X.w X.K X.mg X.base CX k x ps sp) (hr : Room k X.A) (hx : ∀ σ, PassesAt CX X σ (E σ)) (ha : PA X (e :: es) t)
    (hg : Gl X x := by rfl) (hdb : (x == ("__debug__" : Str)) = false := by decide) (he : starEach (e :: es) X.env = (false, eval e X.env) :: starEach es X.env := by rfl) (hpl : (backTo pos (starEach es X.env)).any (·.1) = false := by rfl) :
    PE X (.Call (.Name x p) (e :: es) [] pos) (tCallS sp E t) := by
  obtain ⟨f, fd, m, kp, b, F⟩ := D.ex
  exact pe_callS F hr hg m kp b hx ha hdb he hpl
structure Ex (P : Program) (K : PySem.W.Frag) (mg : Str → Option Value) (CR CP CN CF CM : Addr) : Prop where
  gF : mg "FieldridesError" = some (.ref CF)
  gM : mg "Marked" = some (.ref CM)
  r : EC K CR CF
  p : EC K CP CF
  n : EC K CN CF
  fex : PySem.W.subIn K (.ref CF) (.type "BaseException") = some true
  fhd : PySem.W.hasDictIn K CF = true
  fty : PySem.W.typeIn K (.ref CF) = some (.type "type")
  mhd : PySem.W.hasDictIn K CM = true
  mty : PySem.W.typeIn K (.ref CM) = some (.type "type")
  nr_ : PySem.W.subIn K (.ref CN) (.ref CR) = some false
  np_ : PySem.W.subIn K (.ref CN) (.ref CP) = some false
  rn_ : PySem.W.subIn K (.ref CR) (.ref CN) = some false
  rp_ : PySem.W.subIn K (.ref CR) (.ref CP) = some false
  pn_ : PySem.W.subIn K (.ref CP) (.ref CN) = some false
  pr_ : PySem.W.subIn K (.ref CP) (.ref CR) = some false
  pm_ : PySem.W.subIn K (.ref CP) (.ref CM) = some false
  nr : PySem.W.findIn K (.ref CR) "record" = some none
  np : PySem.W.findIn K (.ref CP) "place" = some none
section
variable {CR fR CP fP CN CF CM C : Addr}
theorem Ex.xr (Y : Ex P K mg CR CP CN CF CM) : XfC K CR := ⟨Y.r.ga, Y.r.gg, Y.r.ex, Y.r.hd⟩
theorem Ex.xp (Y : Ex P K mg CR CP CN CF CM) : XfC K CP := ⟨Y.p.ga, Y.p.gg, Y.p.ex, Y.p.hd⟩
theorem Ex.exm (Y : Ex P K mg CR CP CN CF CM) {D : Addr} (e : EC K D CF) : PySem.W.exmOne K (.ref D) (.ref CF) = some true := PySem.W.exm_ref Y.fex Y.fhd Y.fty e.fe
/-! ## _law_refused -/
theorem lk1 (f : Str) (v : V) : List.lookup f [(f, v)] = some v := by simp [List.lookup]
theorem first_same {rs : List Rc} {n : Int} {i j : Nat} {r s : Rc} (h1 : rs[i]? = some r) (a1 : ∀ x ∈ rs.take i, (x.length : Int) = n) (w1 : (r.length : Int) ≠ n) (h2 : rs[j]? = some s) (a2 : ∀ x ∈ rs.take j, (x.length : Int) = n) (w2 : (s.length : Int) ≠ n) : s = r := by
  have mem : ∀ {i j : Nat} {r : Rc}, rs[i]? = some r → i < j → r ∈ rs.take j := fun {i j r} h l => List.mem_of_getElem? (i := i) (by rw [List.getElem?_take, if_pos l]; exact h)
  by_cases c : i < j
  · exact absurd (a2 r (mem h1 c)) w1
  · by_cases c2 : j < i
    · exact absurd (a1 s (mem h2 c2)) w2
    · have e : i = j := by omega
      subst e
      rw [h1] at h2
      exact (Option.some.inj h2).symm
def spRefused (C : Addr) : Sp := fun vs H Q _ => ∃ (fo l : Addr) (i : Int) (ps : List (Option Nat)) (ks : List FR.Kd) (rs : List Rc), vs = [.ref fo, .int ps.length, .ref l, .int i] ∧ FR.Forest ps ks ∧ ForestAt C H fo ps ks ∧ RowAt H l rs ∧ rs.length ≤ 1000 ∧
  (rs = [] ∨ (∃ r ∈ rs, (r.length : Int) ≠ (ps.length : Int)) ∨ ¬ (0 ≤ i ∧ i < (rs.length : Int))) ∧ ∀ H', Same H H' → Q (.bl true) H'
theorem scRefused : FnScope ["_law_forest", "_law_n", "_law_records", "_law_index", "_law_rows", "_law_wrong", "e"] ["_law_forest", "_law_n", "_law_records", "_law_index"] (defScope sRefused) := ⟨rfl, rfl, rfl, by decide +kernel, rfl, by decide +kernel, by decide +kernel⟩
theorem df_refused (T : Tx K mg "_law_refused" sRefused ["_law_forest", "_law_n", "_law_records", "_law_index"]) (B : Bl mg) (R : Er P K mg CR fR CP fP CN) (Y : Ex P K mg CR CP CN CF CM) (D_can_strike : Df P w K mg base (L2N.CX P w) 5 "can_strike" ["forest", "records", "index"] (spStrike C CN CR CP))
    (D_first_wrong : Df P w K mg base CX0 1 "_law_first_wrong" ["_law_records", "_law_n"] spFirst) (D_is_record : DfH P w K mg base CX0 2 "_law_is_record" ["_law_actual", "_law_n"] (spIsRec K)) (D_is_integer : DfH P w K mg base CX0 1 "_law_is_integer" ["_law_actual"] spIsInt) :
    Df P w K mg base CX0 6 "_law_refused" ["_law_forest", "_law_n", "_law_records", "_law_index"] (spRefused C) := T.df fun f fd F => by
  refine F.ok scRefused (fun vs H Q E h => ?_) (fun cdv A outer s H vs Q E hr h => ?_)
  · obtain ⟨fo, l, i, ps, ks, rs, rfl, _⟩ := h
    rfl
  · obtain ⟨fo, l, i, ps, ks, rs, rfl, O, FA, ⟨vs, hl, RW⟩, hm, hbad, q⟩ := h
    refine ⟨_, (pss_cons (ps_set (i := 4) scRefused.nd rfl (Or.inl rfl) (pe_callTy call_list_of (by rfl) B.list (by decide +kernel) (pa_cons (pv 2) pa_nil)))
      (pss_cons (ps_set (i := 5) scRefused.nd rfl (Or.inl rfl) (pe_df D_first_wrong (hr.mono (by decide)) pass0 (pa_cons (pv 2) (pa_cons (pv 1) pa_nil))))
      (pss_cons (L2N.ps_try_as (i := 6) (Wout := fun _ _ _ _ => False) rfl rfl scRefused.nd rfl rfl ⟨rfl, by decide, Or.inl Y.gF⟩ takesN0
        (fun W pn xe tk _ => pss_one (ps_expr (pe_dfS D_can_strike (hr.mono (by decide)) (fun σ => L2N.passAt tk σ) (pa_cons (pv 0) (pa_cons (pv 4) (pa_cons (pv 3) pa_nil))))))
        (fun a oe cls d pn hz hf => (pss_cons (ps_if (PW.pt (pw_or (pt_not (pt_val (pe_callB (call_isE1x K hz.zc hf) (by rfl) B.isinstance (by decide +kernel) (pa_cons (pv 6) (pa_cons (pe_bltn (v := .ty "ValueError") (u := .type "ValueError") (by rfl) B.valueError (by decide +kernel) rfl) pa_nil))))) (pw_or1 (pt_cmpR (op_neDK K hr.units) (pv 4) (pv 2) (nomark _))))) (pss_one (ps_ret pe_bl)) pss_nil)
 (pss_cons (ps_if (pt_cmpR (op_eqDK K hr.units) (pv 2) (pe_lst pa_nil) (nomark _)) (pss_one (ps_ret (pe_and (pe_callB (call_isE1x K hz.zc hf) (by rfl) B.isinstance (by decide +kernel) (pa_cons (pv 6) (pa_cons (pe_glob (v := .ref CN) (by rfl) R.n rfl) pa_nil))) (pe_one (pe_not (pe_callB (call_isETx K hz.zc hf) (by rfl) B.isinstance (by decide +kernel) (pa_cons (pv 6) (pa_cons (pe_tup (pa_cons (pe_glob (v := .ref CR) (by rfl) R.r.gC rfl) (pa_cons (pe_glob (v := .ref CP) (by rfl) R.p.gC rfl) pa_nil))) pa_nil)))))))) pss_nil)
 (pss_cons (ps_if (pt_cmpR op_notN (pv 5) pe_non (nomark _)) (pss_cons (ps_if (PW.pt (pw_or (pt_val (pe_callB (call_isETx K hz.zc hf) (by rfl) B.isinstance (by decide +kernel) (pa_cons (pv 6) (pa_cons (pe_tup (pa_cons (pe_glob (v := .ref CN) (by rfl) R.n rfl) (pa_cons (pe_glob (v := .ref CP) (by rfl) R.p.gC rfl) pa_nil))) pa_nil)))) (pw_or1 (pt_not (pt_val (pe_callB (call_isE1x K hz.zc hf) (by rfl) B.isinstance (by decide +kernel) (pa_cons (pv 6) (pa_cons (pe_glob (v := .ref CR) (by rfl) R.r.gC rfl) pa_nil)))))))) (pss_one (ps_ret pe_bl)) pss_nil) (pss_one (ps_ret (pe_and (pe_dfH D_is_record ((roomS hr _).mono (by decide)) (hotS hz hf) pass0H (pa_cons (pe_xf Y.xr Y.nr hz.zc hf (pv 6)) (pa_cons (pe_callB (call_lenK K) (by rfl) B.len PySem.boot_len (pa_cons (pv 5) pa_nil)) pa_nil))) (pe_one (pe_cmpR (op_eqDK K hr.units) (pe_xf Y.xr Y.nr hz.zc hf (pv 6)) (pv 5) (nomark _))))))) pss_nil)
 (pss_cons (ps_if (PW.pt (pw_or (pt_val (pe_callB (call_isETx K hz.zc hf) (by rfl) B.isinstance (by decide +kernel) (pa_cons (pv 6) (pa_cons (pe_tup (pa_cons (pe_glob (v := .ref CN) (by rfl) R.n rfl) (pa_cons (pe_glob (v := .ref CR) (by rfl) R.r.gC rfl) (pa_cons (pe_glob (v := .ref CM) (by rfl) Y.gM rfl) pa_nil)))) pa_nil)))) (pw_or1 (pt_not (pt_val (pe_callB (call_isE1x K hz.zc hf) (by rfl) B.isinstance (by decide +kernel) (pa_cons (pv 6) (pa_cons (pe_glob (v := .ref CP) (by rfl) R.p.gC rfl) pa_nil)))))))) (pss_one (ps_ret pe_bl)) pss_nil)
 (pss_one (ps_ret (pe_and (pe_dfH D_is_integer ((roomS hr _).mono (by decide)) (hotS hz hf) pass0H (pa_cons (pe_xf Y.xp Y.np hz.zc hf (pv 6)) pa_nil)) (pe_one (pe_cmpR op_eq (pe_xf Y.xp Y.np hz.zc hf (pv 6)) (pv 3) (nomark _))))))))))))
      (pss_one (ps_ret pe_bl))))), ?_⟩
    refine ⟨_, rfl, l, _, rfl, .inl (SqL.of hl), fun L hL => ?_⟩
    have S1 : Same H (upd H L (.lst vs)) := same_new hL
    have RL : RowAt (upd H L (.lst vs)) L rs := ⟨_, upd_same, RW.same S1⟩
    have Rl : RowAt (upd H L (.lst vs)) l rs := ⟨_, S1 _ _ hl, RW.same S1⟩
    generalize upd H L (.lst vs) = H1 at S1 RL Rl ⊢
    refine ⟨_, rfl, _, rfl, l, rs, _, rfl, Rl, fun hall => ?_, fun j p r hj hpre hw hp => ?_⟩
    · refine ⟨_, rfl, _, rfl, _, rfl, fo, L, i, ps, ks, rs, rfl, O, FA.same S1, RL, hm, fun hemp => ?_, fun j p r hj _ hw => absurd (hall r (List.mem_of_getElem? hj)) hw, fun hne _ ho H2 d S2 h2 => ?_, fun m e hlt _ => ?_⟩
      · refine ⟨true, Y.exm Y.n, fun _ a0 _ => ?_, fun z => Bool.noConfusion z⟩
        refine ⟨_, rfl, CN, rfl, Y.n.isE, _, _, true, rfl, .ty _, (fun dd z => nomatch z), kit_ve Y.n, _, rfl, iteF ?_⟩
        refine ⟨_, rfl, _, rfl, rowD rs, rowD rs, dp_row RL, dp_row Rl, shaped_row _, shaped_row _, _, rfl, ifF_of (by rw [eqv_row, decide_eq_true rfl]; rfl) ?_⟩
        refine ⟨_, rfl, Nat.zero_le _, fun z hz => ?_⟩
        have S3 : Same H1 (upd H1 z (.lst [])) := same_new hz
        refine ⟨rowD rs, rowD [], dp_row (Rl.same S3), dp_row ⟨[], upd_same, .nil⟩, shaped_row _, shaped_row _, _, rfl, ?_⟩
        rw [eqv_row]
        refine ifT_of (decide_eq_true hemp) ?_
        refine ⟨_, rfl, CN, rfl, Y.n.isE, _, _, true, rfl, .own CN, (fun dd z => nomatch z), kit_self, _, rfl, iteT ?_⟩
        refine ⟨_, rfl, (by show 2 ≤ sizeLine; decide), fun tp htp => ?_⟩
        refine ⟨CN, rfl, Y.n.isE, tp, [.ref CR, .ref CP], [.ref CR, .ref CP], false, rfl, upd_same, .cons (.own _) (.cons (.own _) .nil), (fun dd z => nomatch z), kitAny_no (kit_no Y.r.hd Y.r.ty Y.n.slf Y.nr_) (kitAny_no (kit_no Y.p.hd Y.p.ty Y.n.slf Y.np_) rfl), _, rfl, ?_⟩
        exact q _ ((S1.trans S3).trans (same_new htp))
      · refine ⟨true, Y.exm Y.p, fun _ a0 _ => ?_, fun z => Bool.noConfusion z⟩
        refine ⟨_, rfl, CP, rfl, Y.p.isE, _, _, true, rfl, .ty _, (fun dd z => by cases z; exact ⟨_, h2⟩), kit_ve Y.p, _, rfl, iteF ?_⟩
        refine ⟨_, rfl, _, rfl, rowD rs, rowD rs, dp_row (RL.same S2), dp_row (Rl.same S2), shaped_row _, shaped_row _, _, rfl, ifF_of (by rw [eqv_row, decide_eq_true rfl]; rfl) ?_⟩
        refine ⟨_, rfl, Nat.zero_le _, fun z hz => ?_⟩
        have S3 : Same H2 (upd H2 z (.lst [])) := same_new hz
        refine ⟨rowD rs, rowD [], dp_row ((Rl.same S2).same S3), dp_row ⟨[], upd_same, .nil⟩, shaped_row _, shaped_row _, _, rfl, ?_⟩
        rw [eqv_row]
        refine ifF_of (decide_eq_false hne) ?_
        refine ⟨_, rfl, rfl, _, rfl, ifF_of (by rfl) ?_⟩
        refine ⟨_, rfl, (by show 3 ≤ sizeLine; decide), fun tp htp => ?_⟩
        have S4 := S3.trans (same_new (o := .tup [.ref CN, .ref CR, .ref CM]) htp)
        refine ⟨CP, rfl, Y.p.isE, tp, [.ref CN, .ref CR, .ref CM], [.ref CN, .ref CR, .ref CM], false, rfl, upd_same, .cons (.own _) (.cons (.own _) (.cons (.own _) .nil)), (fun dd z => by cases z; exact ⟨_, S4 _ _ h2⟩), kitAny_no (kit_no Y.n.hd Y.n.ty Y.p.slf Y.pn_) (kitAny_no (kit_no Y.r.hd Y.r.ty Y.p.slf Y.pr_) (kitAny_no (kit_no Y.mhd Y.mty Y.p.slf Y.pm_) rfl)), _, rfl, iteF ?_⟩
        refine ⟨_, rfl, CP, rfl, Y.p.isE, _, _, true, rfl, .own CP, (fun dd z => by cases z; exact ⟨_, S4 _ _ h2⟩), kit_self, _, rfl, iteF ?_⟩
        refine ⟨_, rfl, rfl, rfl, d, _, _, rfl, S4 _ _ h2, lk1 _ _, i, rfl, _, rfl, iteT ?_⟩
        refine ⟨_, rfl, rfl, rfl, d, _, _, rfl, S4 _ _ h2, lk1 _ _, _, rfl, rfl, ?_⟩
        rw [decide_eq_true rfl]
        exact q _ ((S1.trans S2).trans S4)
      · exfalso
        rcases hbad with h | ⟨r, hr1, hr2⟩ | h
        · rw [h] at hlt
          simp at hlt
        · exact hr2 (hall r hr1)
        · exact h ⟨by omega, by omega⟩
    · have hmem := List.mem_of_getElem? hj
      refine ⟨_, rfl, _, rfl, _, rfl, fo, L, i, ps, ks, rs, rfl, O, FA.same S1, RL, hm, fun z => ?_, fun j2 p2 r2 hj2 hpre2 hw2 hp2 H2 d S2 h2 => ?_, fun _ hall => absurd (hall r hmem) hw, fun _ _ _ hall => absurd (hall r hmem) hw⟩
      · exfalso
        rw [z] at hj
        simp at hj
      · have e : r2 = r := first_same hj hpre hw hj2 hpre2 hw2
        subst e
        refine ⟨true, Y.exm Y.r, fun _ a0 _ => ?_, fun z => Bool.noConfusion z⟩
        have hne : rs ≠ [] := fun z => by
          rw [z] at hj
          simp at hj
        refine ⟨_, rfl, CR, rfl, Y.r.isE, _, _, true, rfl, .ty _, (fun dd z => by cases z; exact ⟨_, h2⟩), kit_ve Y.r, _, rfl, iteF ?_⟩
        refine ⟨_, rfl, _, rfl, rowD rs, rowD rs, dp_row (RL.same S2), dp_row (Rl.same S2), shaped_row _, shaped_row _, _, rfl, ifF_of (by rw [eqv_row, decide_eq_true rfl]; rfl) ?_⟩
        refine ⟨_, rfl, Nat.zero_le _, fun z hz => ?_⟩
        have S3 : Same H2 (upd H2 z (.lst [])) := same_new hz
        refine ⟨rowD rs, rowD [], dp_row ((Rl.same S2).same S3), dp_row ⟨[], upd_same, .nil⟩, shaped_row _, shaped_row _, _, rfl, ?_⟩
        rw [eqv_row]
        refine ifF_of (decide_eq_false hne) ?_
        refine ⟨_, rfl, rfl, _, rfl, ifT_of (by rfl) ?_⟩
        refine ⟨_, rfl, (by show 2 ≤ sizeLine; decide), fun tp htp => ?_⟩
        have S4 := S3.trans (same_new (o := .tup [.ref CN, .ref CP]) htp)
        refine ⟨CR, rfl, Y.r.isE, tp, [.ref CN, .ref CP], [.ref CN, .ref CP], false, rfl, upd_same, .cons (.own _) (.cons (.own _) .nil), (fun dd z => by cases z; exact ⟨_, S4 _ _ h2⟩), kitAny_no (kit_no Y.n.hd Y.n.ty Y.r.slf Y.rn_) (kitAny_no (kit_no Y.p.hd Y.p.ty Y.r.slf Y.rp_) rfl), _, rfl, iteF ?_⟩
        refine ⟨_, rfl, CR, rfl, Y.r.isE, _, _, true, rfl, .own CR, (fun dd z => by cases z; exact ⟨_, S4 _ _ h2⟩), kit_self, _, rfl, iteF ?_⟩
        have P1 := (hp.same S2).same S4
        have P2 := (hp2.same S2).same S4
        refine ⟨_, rfl, rfl, rfl, d, _, _, rfl, S4 _ _ h2, lk1 _ _, _, rfl, p, _, rfl, .inr (SqT.of P1), ?_⟩
        rw [List.length_map]
        refine ⟨p2, _, _, rfl, SqT.of P2, P2, _, rfl, ifT_of (decide_eq_true rfl) ?_⟩
        refine ⟨_, rfl, rfl, rfl, d, _, _, rfl, S4 _ _ h2, lk1 _ _, _, rfl, _, _, dp_rec P2, dp_rec P1, shaped_rec _, shaped_rec _, ?_⟩
        rw [eqv_rec, decide_eq_true rfl]
        exact q _ ((S1.trans S2).trans S4)
end

end
end K42
namespace K42
open PySem L2
section
variable {P : Program} {w : World} {K : PySem.W.Frag} {mg : Str → Option Value} {base : Heap}
abbrev sLaw : Stmt := top 50
/-! ## the tapes and what stands beside them -/
theorem same_but {H H1 H2 : Hp} {t : Addr} (S : Same H H1) (h : H t = none) (b : But t H1 H2) : Same H H2 := fun c o e => b c o (ne_of_none e h) (S _ _ e)
/-- the two tapes, the parents, the kinds, the forest -/
structure Wa (C : Addr) (H : Hp) (t o a k fo : Addr) (ps : List (Option Nat)) (ks : List FR.Kd) : Prop where
  T : TapeAt H t
  U : TapeAt H o
  to : t ≠ o
  fr : FR.Forest ps ks
  ha : H a = some (.lst (ps.map pV))
  hk : H k = some (.lst (ks.map kV))
  hf : ForestAt C H fo ps ks
  at_ : a ≠ t
  ao : a ≠ o
  kt : k ≠ t
  ko : k ≠ o
section
variable {C : Addr} {H H' : Hp} {t o a k fo : Addr} {ps : List (Option Nat)} {ks : List FR.Kd}
/-- all but the tapes is as it was -/
def Kp (t o : Addr) (H H' : Hp) : Prop := ∀ b u, b ≠ t → b ≠ o → H b = some u → H' b = some u
theorem TapeAt.neS {p : Addr} {u : HO} (T : TapeAt H t) (h : H p = some u) (n : ∀ xs, u ≠ .lst xs) : p ≠ t := by
  obtain ⟨c, j, e⟩ := T
  exact ne_of h e (n _)
theorem Wa.kp (W : Wa C H t o a k fo ps ks) (K : Kp t o H H') (T : TapeAt H' t) (U : TapeAt H' o) : Wa C H' t o a k fo ps ks := by
  obtain ⟨dx, p, j, h1, h2, h3⟩ := W.hf
  have ne : ∀ {x : Addr} {u : HO}, H x = some u → (∀ xs, u ≠ .lst xs) → H' x = some u := fun {x u} h n => K _ _ (W.T.neS h n) (W.U.neS h n) h
  exact ⟨T, U, W.to, W.fr, K _ _ W.at_ W.ao W.ha, K _ _ W.kt W.ko W.hk, ⟨dx, p, j, ne h1 (fun _ z => nomatch z), ne h2 (fun _ z => nomatch z), ne h3 (fun _ z => nomatch z)⟩, W.at_, W.ao, W.kt, W.ko⟩
theorem Wa.bt (W : Wa C H t o a k fo ps ks) (b : But t H H') (T : TapeAt H' t) : Wa C H' t o a k fo ps ks := by
  obtain ⟨c, j, e⟩ := W.U
  exact W.kp (fun x u nt _ h => b x u nt h) T ⟨c, j, b _ _ W.to.symm e⟩
theorem Wa.bo (W : Wa C H t o a k fo ps ks) (b : But o H H') (U : TapeAt H' o) : Wa C H' t o a k fo ps ks := by
  obtain ⟨c, j, e⟩ := W.T
  exact W.kp (fun x u _ no h => b x u no h) ⟨c, j, b _ _ W.to e⟩ U
theorem Wa.same (W : Wa C H t o a k fo ps ks) (s : Same H H') : Wa C H' t o a k fo ps ks := W.kp (fun x u _ _ h => s x u h) (W.T.same s) (W.U.same s)
/-- a row that is no tape -/
structure Rw (H : Hp) (t o l : Addr) (rs : List Rc) : Prop where
  row : RowAt H l rs
  lt : l ≠ t
  lo : l ≠ o
theorem Rw.kp {l : Addr} {rs : List Rc} (R : Rw H t o l rs) (T : TapeAt H t) (U : TapeAt H o) (K : Kp t o H H') : Rw H' t o l rs := by
  obtain ⟨⟨vs, h, r⟩, lt, lo⟩ := R
  exact ⟨⟨vs, K _ _ lt lo h, r.imp fun p x e => K _ _ (e.ne T) (e.ne U) e⟩, lt, lo⟩
theorem Rw.bt {l : Addr} {rs : List Rc} (R : Rw H t o l rs) (T : TapeAt H t) (b : But t H H') : Rw H' t o l rs := ⟨R.row.but R.lt T b, R.lt, R.lo⟩
theorem Rw.bo {l : Addr} {rs : List Rc} (R : Rw H t o l rs) (U : TapeAt H o) (b : But o H H') : Rw H' t o l rs := ⟨R.row.but R.lo U b, R.lt, R.lo⟩
theorem Rw.same {l : Addr} {rs : List Rc} (R : Rw H t o l rs) (s : Same H H') : Rw H' t o l rs := ⟨R.row.same s, R.lt, R.lo⟩
theorem TapeAt.bt {p : Addr} (U : TapeAt H p) (n : p ≠ t) (b : But t H H') : TapeAt H' p := by
  obtain ⟨c, j, e⟩ := U
  exact ⟨c, j, b _ _ n e⟩
end
theorem seq_join {tt : TT} {t1 tr : TS} {D : Ends} {σ : L2.St} {H : Hp} (Pv : L2.St → Hp → Prop) (h : ∀ Dn : L2.St → Hp → Prop, (∀ σ' H', Pv σ' H' → Dn σ' H') → tIfS tt t1 tNext { D with nx := Dn } σ H) (hr : ∀ σ' H', Pv σ' H' → tr D σ' H') : tSeq (tIfS tt t1 tNext) tr D σ H := h _ hr
theorem next_ok {D : Ends} {σ : L2.St} {H : Hp} (h : D.nx σ H) : tNext D σ H := h
theorem g_ok {i : Nat} {v : V} {σ : L2.St} {H : Hp} {nx : L2.St → Hp → Prop} (h : nx (σ.set i (some v)) H) : gName i v σ H nx := h
theorem g_join {i : Nat} {v : V} {σ : L2.St} {H : Hp} {nx : L2.St → Hp → Prop} (Pv : L2.St → Hp → Prop) (h : Pv (σ.set i (some v)) H) (hr : ∀ σ' H', Pv σ' H' → nx σ' H') : gName i v σ H nx := hr _ _ h
theorem span_ok : ∀ b : Bool, (0 : Int) < 2 + (if b = true then 1 else 0) ∧ (2 + (if b = true then 1 else 0) : Int) < 1073741824 := by decide
/-! ## law -/
def spLaw (K : PySem.W.Frag) : Sp := fun vs H Q _ => ∃ (s : Addr) (ns : List Int), vs = [.ref s] ∧ SqL K H s (ns.map V.int) ∧ ∀ H', Q (.bl true) H'
section
variable {C fI CR CP CN : Addr} {fdI : FuncData}
theorem scLaw : FnScope ["_law_script", "_law_tape_here", "_law_parents_here", "_law_other", "_law_kinds_here", "_law_n", "_law_forest", "_law_span", "_law_many", "_law_records", "_law_extra", "_law_index", "_law_asked", "_law_before", "_law_after", "_law_wrong", "_law_spoilt_here", "_law_rows", "_law_actual", "_law_place", "_law_k"] ["_law_script"] (defScope sLaw) := ⟨rfl, rfl, rfl, by decide +kernel, rfl, by decide +kernel, by decide +kernel⟩
theorem ok_law {f : Addr} {fd : FuncData} (F : Fun K "law" "law" sLaw f fd) (B : Bl mg) (M : Mk K C fI) (G_init : FnOk P w K mg base CX0 3 fI fdI ["self", "parents", "kinds"] (spFInit C)) (gC : mg "Forest" = some (.ref C)) (bI : Binds K fdI ["self", "parents", "kinds"] [])
    (D_tape : Df P w K mg base CX0 1 "_law_tape" ["_law_script", "_law_k"] (spTape K)) (D_take : DTake P w K mg base) (D_fields : Df P w K mg base CX0 2 "_law_fields" ["_law_tape_here"] spFields) (D_parents : Df P w K mg base CX0 3 "_law_parents" ["_law_tape_here", "_law_n"] spParents)
    (D_kinds : Df P w K mg base CX0 2 "_law_kinds" ["_law_tape_here", "_law_parents_here", "_law_fair"] spKinds) (D_row : Df P w K mg base CX0 4 "_law_row" ["_law_script", "_law_parents_here", "_law_count", "_law_span"] (spRow K)) (D_twice : Df P w K mg base CX0 2 "_law_twice" ["_law_tape_here", "_law_records"] spTwice)
    (D_record : DRecord P w K mg base) (D_refused : Df P w K mg base CX0 6 "_law_refused" ["_law_forest", "_law_n", "_law_records", "_law_index"] (spRefused C)) (D_tells : Df P w K mg base CX0 6 "_law_tells" ["_law_forest", "_law_parents_here", "_law_kinds_here", "_law_records", "_law_index"] (spTells C))
    (D_due : Df P w K mg base CX0 5 "_law_due" ["_law_parents_here", "_law_kinds_here", "_law_records", "_law_index"] spDue) (D_same_around : Df P w K mg base CX0 5 "_law_same_around" ["_law_forest", "_law_parents_here", "_law_kinds_here", "_law_before", "_law_row_here", "_law_index", "_law_after"] (spAround C))
    (D_spoilt : Df P w K mg base CX0 4 "_law_spoilt" ["_law_tape_here", "_law_records", "_law_n"] spSpoilt) (D_can_strike : Df P w K mg base (L2N.CX P w) 5 "can_strike" ["forest", "records", "index"] (spStrike C CN CR CP)) (D_long : Df P w K mg base CX0 2 "_law_long" ["_law_tape_here", "_law_records", "_law_n"] spLong) :
    FnOk P w K mg base CX0 8 f fd ["_law_script"] (spLaw K) := by
  refine F.ok scLaw (fun vs H Q E h => ?_) (fun cdv A outer s0 H vs Q E hr h => ?_)
  · obtain ⟨s, ns, rfl, _⟩ := h
    rfl
  · obtain ⟨s, ns, rfl, hS, q⟩ := h
    refine ⟨_, (pss_cons (ps_set (i := 1) scLaw.nd rfl (Or.inl rfl) (pe_df D_tape (hr.mono (by decide)) pass0 (pa_cons (pv 0) (pa_cons pe_int pa_nil))))
      (pss_cons (ps_set (i := 2) scLaw.nd rfl (Or.inl rfl) (pe_df D_parents (hr.mono (by decide)) pass0 (pa_cons (pv 1) (pa_cons (pe_df D_fields (hr.mono (by decide)) pass0 (pa_cons (pv 1) pa_nil)) pa_nil))))
      (pss_cons (ps_set (i := 3) scLaw.nd rfl (Or.inr rfl) (pe_df D_tape (hr.mono (by decide)) pass0 (pa_cons (pv 0) (pa_cons pe_int pa_nil))))
      (pss_cons (ps_set (i := 4) scLaw.nd rfl (Or.inl rfl) (pe_df D_kinds (hr.mono (by decide)) pass0 (pa_cons (pv 3) (pa_cons (pv 2) (pa_cons pe_bl pa_nil)))))
      (pss_cons (ps_set (i := 5) scLaw.nd rfl (Or.inr rfl) (pe_callB call_len_seq (by rfl) B.len PySem.boot_len (pa_cons (pv 2) pa_nil)))
      (pss_cons (ps_set (i := 6) scLaw.nd rfl (Or.inl rfl) (pe_make M G_init (hr.mono (by decide)) (by rfl) gC bI .nil pass0 (pa_cons (pe_callTy call_list_of (by rfl) B.list (by decide +kernel) (pa_cons (pv 2) pa_nil)) (pa_cons (pe_callTy call_list_of (by rfl) B.list (by decide +kernel) (pa_cons (pv 4) pa_nil)) pa_nil))))
      (pss_cons (ps_set (i := 7) scLaw.nd rfl (Or.inr rfl) (pe_op op_add pe_int (pe_callTy call_int1 (by rfl) B.int (by decide +kernel) (pa_cons (pe_cmpR op_eq (pe_df D_take (hr.mono (by decide)) pass0 (pa_cons (pv 1) (pa_cons pe_int pa_nil))) pe_int (nomark _)) pa_nil))))
      (pss_cons (ps_set (i := 8) scLaw.nd rfl (Or.inl rfl) (pe_df D_take (hr.mono (by decide)) pass0 (pa_cons (pv 1) (pa_cons pe_int pa_nil))))
      (pss_cons (ps_if (pt_cmpR op_eq (pe_df D_take (hr.mono (by decide)) pass0 (pa_cons (pv 1) (pa_cons pe_int pa_nil))) pe_int (nomark _)) (pss_one (ps_set (i := 8) scLaw.nd rfl (Or.inl rfl) (pe_op op_add pe_int (pe_df D_take (hr.mono (by decide)) pass0 (pa_cons (pv 1) (pa_cons pe_int pa_nil)))))) pss_nil)
      (pss_cons (ps_set (i := 9) scLaw.nd rfl (Or.inl rfl) (pe_df D_twice (hr.mono (by decide)) pass0 (pa_cons (pv 1) (pa_cons (pe_df D_row (hr.mono (by decide)) pass0 (pa_cons (pv 0) (pa_cons (pv 2) (pa_cons (pv 8) (pa_cons (pv 7) pa_nil))))) pa_nil))))
      (pss_cons (ps_set (i := 10) scLaw.nd rfl (Or.inl rfl) (pe_df D_record (hr.mono (by decide)) pass0 (pa_cons (pv 1) (pa_cons (pv 5) (pa_cons (pv 7) pa_nil)))))
      (pss_cons (ps_if (pt_cmpR (op_eqD hr.units) (pv 9) (pe_lst pa_nil) (nomark _)) (pss_cons (ps_set (i := 11) scLaw.nd rfl (Or.inl rfl) (pe_op op_sub (pe_df D_take (hr.mono (by decide)) pass0 (pa_cons (pv 1) (pa_cons pe_int pa_nil))) pe_int))
      (pss_one (ps_ret (pe_and (pe_df D_refused (hr.mono (by decide)) pass0 (pa_cons (pv 6) (pa_cons (pv 5) (pa_cons (pe_lst pa_nil) (pa_cons (pv 11) pa_nil))))) (pe_one (pe_df D_tells (hr.mono (by decide)) pass0 (pa_cons (pv 6) (pa_cons (pv 2) (pa_cons (pv 4) (pa_cons (pe_lst (pa_cons (pv 10) pa_nil)) (pa_cons pe_int pa_nil))))))))))) pss_nil)
      (pss_cons (ps_set (i := 12) scLaw.nd rfl (Or.inl rfl) (pe_lst (pa_cons (pe_df D_take (hr.mono (by decide)) pass0 (pa_cons (pv 1) (pa_cons (pv 8) pa_nil))) pa_nil)))
      (pss_cons (ps_if (pt_cmpR op_le (pv 8) pe_int (nomark _)) (pss_one (ps_set (i := 12) scLaw.nd rfl (Or.inl rfl) (pe_op op_cat (pv 12) (pe_listRg rfl (by rfl) B.list (prg_1 (by rfl) B.range (pv 8)))))) pss_nil)
      (pss_cons (ps_for PassesOwn.never rfl (pi_list (pv 12)) (pg_name (i := 11) scLaw.nd rfl (Or.inl rfl)) (pss_one (ps_if (pt_not (pt_val (pe_df D_tells (hr.mono (by decide)) pass0 (pa_cons (pv 6) (pa_cons (pv 2) (pa_cons (pv 4) (pa_cons (pv 9) (pa_cons (pv 11) pa_nil)))))))) (pss_one (ps_ret pe_bl)) pss_nil)))
      (pss_cons (ps_set (i := 11) scLaw.nd rfl (Or.inl rfl) (pe_ix ix_list (pv 12) pe_int (fun _ _ => rfl)))
      (pss_cons (ps_setLc (i := 13) (own := [("_law_k", 20)]) (g := gName 20) rfl scLaw.nd rfl rfl (sw_true rfl rfl rfl (by decide +kernel)) (pi_range1 (by rfl) B.range (pa_cons (pe_df D_take (hr.mono (by decide)) pass0 (pa_cons (pv 3) (pa_cons pe_int pa_nil))) pa_nil)) (blkOk_by (N := ["_law_script", "_law_tape_here", "_law_parents_here", "_law_other", "_law_kinds_here", "_law_n", "_law_forest", "_law_span", "_law_many", "_law_records", "_law_extra", "_law_index", "_law_asked", "_law_before", "_law_after", "_law_wrong", "_law_spoilt_here", "_law_rows", "_law_actual", "_law_place", "_law_k"]) (sc := defScope sLaw) (by decide +kernel)) (fun _ _ _ _ _ => pg_name (i := 20) scLaw.nd rfl (Or.inl rfl)) (fun _ _ _ _ _ => pts_nil) (fun _ _ _ _ _ => (pe_df D_record (hr.mono (by decide)) pass0 (pa_cons (pv 3) (pa_cons (pv 5) (pa_cons (pv 7) pa_nil))))))
      (pss_cons (ps_setLc (i := 14) (own := [("_law_k", 20)]) (g := gName 20) rfl scLaw.nd rfl rfl (sw_true rfl rfl rfl (by decide +kernel)) (pi_range1 (by rfl) B.range (pa_cons (pe_df D_take (hr.mono (by decide)) pass0 (pa_cons (pv 3) (pa_cons pe_int pa_nil))) pa_nil)) (blkOk_by (N := ["_law_script", "_law_tape_here", "_law_parents_here", "_law_other", "_law_kinds_here", "_law_n", "_law_forest", "_law_span", "_law_many", "_law_records", "_law_extra", "_law_index", "_law_asked", "_law_before", "_law_after", "_law_wrong", "_law_spoilt_here", "_law_rows", "_law_actual", "_law_place", "_law_k"]) (sc := defScope sLaw) (by decide +kernel)) (fun _ _ _ _ _ => pg_name (i := 20) scLaw.nd rfl (Or.inl rfl)) (fun _ _ _ _ _ => pts_nil) (fun _ _ _ _ _ => (pe_df D_record (hr.mono (by decide)) pass0 (pa_cons (pv 3) (pa_cons (pv 5) (pa_cons (pv 7) pa_nil))))))
      (pss_cons (ps_if (pt_val (pe_df D_due (hr.mono (by decide)) pass0 (pa_cons (pv 2) (pa_cons (pv 4) (pa_cons (pv 9) (pa_cons (pv 11) pa_nil)))))) (pss_one (ps_if (pt_not (pt_val (pe_df D_same_around (hr.mono (by decide)) pass0 (pa_cons (pv 6) (pa_cons (pv 2) (pa_cons (pv 4) (pa_cons (pv 13) (pa_cons (pv 9) (pa_cons (pv 11) (pa_cons (pv 14) pa_nil)))))))))) (pss_one (ps_ret pe_bl)) pss_nil)) pss_nil)
      (pss_cons (ps_set (i := 15) scLaw.nd rfl (Or.inl rfl) (pe_ix ix_list (pe_lst (pa_cons (pe_op op_sub (pe_op op_sub pe_int pe_int) (pe_df D_take (hr.mono (by decide)) pass0 (pa_cons (pv 1) (pa_cons (pv 8) pa_nil)))) (pa_cons (pe_op op_add (pv 8) (pe_df D_take (hr.mono (by decide)) pass0 (pa_cons (pv 1) (pa_cons pe_int pa_nil)))) pa_nil))) (pe_df D_take (hr.mono (by decide)) pass0 (pa_cons (pv 1) (pa_cons pe_int pa_nil))) (fun _ _ => rfl)))
      (pss_cons (ps_set (i := 16) scLaw.nd rfl (Or.inl rfl) (pe_df D_spoilt (hr.mono (by decide)) pass0 (pa_cons (pv 1) (pa_cons (pv 9) (pa_cons (pv 5) pa_nil)))))
      (pss_cons (ps_if (PW.pt (pw_or (pt_not (pt_val (pe_df D_refused (hr.mono (by decide)) pass0 (pa_cons (pv 6) (pa_cons (pv 5) (pa_cons (pv 9) (pa_cons (pv 15) pa_nil))))))) (pw_or1 (pt_not (pt_val (pe_df D_refused (hr.mono (by decide)) pass0 (pa_cons (pv 6) (pa_cons (pv 5) (pa_cons (pv 16) (pa_cons (pv 11) pa_nil)))))))))) (pss_one (ps_ret pe_bl)) pss_nil)
      (pss_cons (ps_set (i := 17) scLaw.nd rfl (Or.inl rfl) (pe_callTy call_list_of (by rfl) B.list (by decide +kernel) (pa_cons (pv 9) pa_nil)))
      (pss_cons (ps_expr (pe_df D_can_strike (hr.mono (by decide)) passN0 (pa_cons (pv 6) (pa_cons (pv 17) (pa_cons (pv 11) pa_nil)))))
      (pss_cons (ps_expr (pe_bm PySem.F.plainAttrs_list PySem.F.slot_list_append PySem.F.type_list_append mt_append (pv 17) (pa_cons (pv 10) pa_nil)))
      (pss_cons (ps_set (i := 18) scLaw.nd rfl (Or.inl rfl) (pe_df D_can_strike (hr.mono (by decide)) passN0 (pa_cons (pv 6) (pa_cons (pv 17) (pa_cons (pv 11) pa_nil)))))
      (pss_cons (ps_if (PW.pt (pw_or (pt_not (pt_val (pe_callB call_isi (by rfl) B.isinstance (by decide +kernel) (pa_cons (pv 18) (pa_cons (pe_bltn (v := .ty "bool") (u := .type "bool") (by rfl) B.bool (by decide +kernel) rfl) pa_nil))))) (pw_or1 (pt_cmpR op_ne (pv 18) (pe_df D_due (hr.mono (by decide)) pass0 (pa_cons (pv 2) (pa_cons (pv 4) (pa_cons (pv 17) (pa_cons (pv 11) pa_nil))))) (nomark _))))) (pss_one (ps_ret pe_bl)) pss_nil)
      (pss_cons (ps_if (PW.pt (pw_and (pt_cmpR op_le (pv 8) pe_int (nomark _)) (pw_and1 (pt_cmpR op_eq (pe_df D_take (hr.mono (by decide)) pass0 (pa_cons (pv 1) (pa_cons pe_int pa_nil))) pe_int (nomark _))))) (pss_cons (ps_set (i := 17) scLaw.nd rfl (Or.inl rfl) (pe_df D_long (hr.mono (by decide)) pass0 (pa_cons (pv 1) (pa_cons (pv 9) (pa_cons (pv 5) pa_nil)))))
      (pss_cons (ps_set (i := 19) scLaw.nd rfl (Or.inl rfl) (pe_df D_take (hr.mono (by decide)) pass0 (pa_cons (pv 1) (pa_cons (pe_op op_add (pe_callB call_len_seq (by rfl) B.len PySem.boot_len (pa_cons (pv 17) pa_nil)) pe_int) pa_nil))))
      (pss_cons (ps_expr (pe_bm PySem.F.plainAttrs_list PySem.F.slot_list_insert PySem.F.type_list_insert mt_insert (pv 17) (pa_cons (pv 19) (pa_cons (pv 10) pa_nil))))
      (pss_one (ps_if (pt_not (pt_val (pe_df D_tells (hr.mono (by decide)) pass0 (pa_cons (pv 6) (pa_cons (pv 2) (pa_cons (pv 4) (pa_cons (pv 17) (pa_cons (pv 19) pa_nil)))))))) (pss_one (ps_ret pe_bl)) pss_nil))))) pss_nil)
      (pss_one (ps_ret (pe_and (pe_df D_refused (hr.mono (by decide)) pass0 (pa_cons (pv 6) (pa_cons (pv 5) (pa_cons (pv 16) (pa_cons (pe_op op_sub pe_int pe_int) pa_nil))))) (pe_one (pe_df D_tells (hr.mono (by decide)) pass0 (pa_cons (pv 6) (pa_cons (pv 2) (pa_cons (pv 4) (pa_cons (pv 9) (pa_cons (pv 11) pa_nil)))))))))))))))))))))))))))))))))))))), ?_⟩
    refine ⟨_, rfl, s, ns, 0, rfl, Int.le_refl 0, hS, fun t c0 ht => ?_⟩
    have S1 : Same H (upd H t (.lst [.int c0, .int 0])) := same_new ht
    have T1 : TapeAt (upd H t (.lst [.int c0, .int 0])) t := ⟨c0, 0, upd_same⟩
    generalize upd H t (.lst [.int c0, .int 0]) = H1 at S1 T1 ⊢
    refine ⟨_, rfl, _, rfl, t, rfl, T1, fun H2 n n1 n8 b2 T2 => ⟨t, n, rfl, by omega, T2, fun H3 a ps hpn ac b3 T3 ha0 ha => ?_⟩⟩
    have hat : a ≠ t := (T2.ne ha0).symm
    have S3 : Same H H3 := same_but (same_but S1 ht b2) ht b3
    subst hpn
    refine ⟨_, rfl, s, ns, 1, rfl, by decide, S3.seq hS, fun o c1 ho => ?_⟩
    have hto : t ≠ o := T3.ne ho
    have ho0 : H o = none := S3.free ho
    have hao : a ≠ o := ne_of_none ha ho
    have S4 : Same H3 (upd H3 o (.lst [.int c1, .int 0])) := same_new ho
    have U4 : TapeAt (upd H3 o (.lst [.int c1, .int 0])) o := ⟨c1, 0, upd_same⟩
    generalize upd H3 o (.lst [.int c1, .int 0]) = H4 at S4 U4 ⊢
    refine ⟨_, rfl, _, rfl, o, a, ps, rfl, by omega, U4, hao, S4 _ _ ha, fun H5 k ks hkl kok b5 U5 hk0 hk => ?_⟩
    have S5 : Same H H5 := same_but (S3.trans S4) ho0 b5
    have hkt : k ≠ t := ((T3.same S4).ne hk0).symm
    have hko : k ≠ o := (U4.ne hk0).symm
    have ha5 := b5 _ _ hao (S4 _ _ ha)
    have T5 : TapeAt H5 t := (T3.same S4).bt hto b5
    refine ⟨_, rfl, a, _, rfl, .inl (SqL.of ha5), ?_⟩
    rw [List.length_map]
    have O : FR.Forest ps ks := ⟨hkl, n1, n8, ac.1, ac.2, fun f h hf e => kok h f (by rw [hkl]; exact ac.1 f h hf e) e⟩
    refine ⟨_, rfl, a, _, rfl, .inl (SqL.of ha5), fun l1 hl1 => ?_⟩
    have S6 : Same H5 (upd H5 l1 (.lst (ps.map pV))) := same_new hl1
    refine ⟨_, rfl, k, _, rfl, .inl (SqL.of (S6 _ _ hk)), fun l2 hl2 => ?_⟩
    have S7 : Same (upd H5 l1 (.lst (ps.map pV))) (upd (upd H5 l1 (.lst (ps.map pV))) l2 (.lst (ks.map kV))) := same_new hl2
    have e1 := S7 _ _ (upd_same (H := H5) (a := l1) (o := .lst (ps.map pV)))
    have e2 : upd (upd H5 l1 (.lst (ps.map pV))) l2 (.lst (ks.map kV)) l2 = some (.lst (ks.map kV)) := upd_same
    have S57 := S6.trans S7
    generalize upd (upd H5 l1 (.lst (ps.map pV))) l2 (.lst (ks.map kV)) = H7 at S57 e1 e2 ⊢
    intro fo dx nx ndx nex
    have new : ∀ {b u}, H7 b = some u → upd (upd H7 dx (.own fo)) fo (.ins C dx []) b = some u := fun {b u} e => by
      rw [upd_ne (ne_of_none e nx), upd_ne (ne_of_none e ndx)]
      exact e
    refine ⟨fo, dx, l1, l2, ps, ks, rfl, O, upd_same, new e1, new e2, fun H8 b8 FA => ⟨rfl, ?_⟩⟩
    have S8 : Same H5 H8 := fun b u e => b8 b u (ne_of_none (S57 _ _ e) nx) (new (S57 _ _ e))
    have W : Wa C H8 t o a k fo ps ks := ⟨T5.same S8, U5.same S8, hto, O, S8 _ _ ha5, S8 _ _ hk, FA, hat, hao, hkt, hko⟩
    have SS : Same H H8 := S5.trans S8
    have n1 := O.pos
    have n8 := O.most
    clear S1 T1 b2 T2 b3 T3 ha0 ha S3 S4 U4 kok b5 U5 hk0 hk S5 ha5 T5 S6 S7 e1 e2 S57 new FA S8 b8 hl1 hl2 nx ndx
    -- span
    refine ⟨_, rfl, t, _, rfl, by decide, by decide, W.T, fun H9 r _ _ b9 T9 => ⟨rfl, .inr ⟨_, rfl, _, _, rfl, rfl, ?_⟩⟩⟩
    refine g_join (fun σ' H' => ∃ span : Int, σ' = [some (.ref s), some (.ref t), some (.ref a), some (.ref o), some (.ref k), some (.int ps.length), some (.ref fo), some (.int span), none, none, none, none, none, none, none, none, none, none, none, none, none] ∧ 0 < span ∧ span < 1073741824 ∧ H' = H9) ⟨_, rfl, (span_ok _).1, (span_ok _).2, rfl⟩ ?_
    rintro σ' H9 ⟨span, rfl, sp0, sp1, rfl⟩
    have W := W.bt b9 T9
    have SS := same_but SS ht b9
    refine ⟨_, rfl, t, _, rfl, by decide, by decide, W.T, fun H10 m m0 m1 b10 T10 => ?_⟩
    have W := W.bt b10 T10
    have SS := same_but SS ht b10
    refine g_ok ?_
    dsimp only
    -- many
    refine seq_join (fun σ' H' => ∃ mm : Int, σ' = [some (.ref s), some (.ref t), some (.ref a), some (.ref o), some (.ref k), some (.int ps.length), some (.ref fo), some (.int span), some (.int mm), none, none, none, none, none, none, none, none, none, none, none, none] ∧ 0 ≤ mm ∧ mm ≤ 20 ∧ But t H10 H' ∧ TapeAt H' t) (fun Dn hD => ?_) ?_
    · refine ⟨_, rfl, t, _, rfl, by decide, by decide, W.T, fun H11 r2 _ _ b11 T11 => ⟨rfl, _, rfl, ?_⟩⟩
      refine ite2 (fun _ => ?_) (fun _ => ?_)
      · refine ⟨_, rfl, t, _, rfl, by decide, by decide, T11, fun H12 r3 _ _ b12 T12 => ⟨_, _, rfl, rfl, ?_⟩⟩
        exact hD _ _ ⟨6 + r3, rfl, by omega, by omega, b11.trans b12, T12⟩
      · exact hD _ _ ⟨m, rfl, m0, by omega, b11, T11⟩
    rintro σ H11 ⟨mm, rfl, mm0, mm20, b11, T11⟩
    have W := W.bt b11 T11
    have SS := same_but SS ht b11
    clear b9 T9 b10 T10 b11 T11
    refine ⟨_, rfl, _, rfl, _, rfl, _, rfl, _, rfl, s, a, ns, ps, mm, span, rfl, SS.seq hS, W.ha, n1, by omega, O.low, fun f hf g hg => FR.path_low O hf hg, mm0, by omega, sp0, sp1, fun H13 l rs0 hrs0 hrl0 S13 hl0 hR0 => ?_⟩
    have lt : l ≠ t := (W.T.ne hl0).symm
    have lo : l ≠ o := (W.U.ne hl0).symm
    refine ⟨t, l, rs0, rfl, W.T.same S13, lt, hR0, by omega, fun H14 rs hl2 hsub keep T14 RL => ?_⟩
    have hlen : ∀ r ∈ rs, r.length = ps.length := fun r hr => hrl0 r (hsub r hr)
    have hrs : (rs.length : Int) = mm := by omega
    have W : Wa C H14 t o a k fo ps ks := by
      have kp : Kp t o H11 H14 := fun b u nb _ e => keep b u nb (ne_of_none e hl0) (S13 _ _ e)
      obtain ⟨c, j, e⟩ := W.U
      exact W.kp kp T14 ⟨c, j, keep _ _ hto.symm (ne_of_none e hl0) (S13 _ _ e)⟩
    have RW : Rw H14 t o l rs := ⟨RL, lt, lo⟩
    clear hrs0 hrl0 hR0 hl2 hsub keep T14 RL S13 hl0 SS
    refine ⟨_, rfl, _, rfl, _, rfl, t, _, _, rfl, by omega, by omega, sp0, sp1, W.T, fun H15 x ex hxl b15 T15 _ hx => ?_⟩
    have RW := RW.bt W.T b15
    have W := W.bt b15 T15
    have hxl : ex.length = ps.length := by omega
    refine ⟨_, rfl, Nat.zero_le _, fun z hz => ?_⟩
    have Sz : Same H15 (upd H15 z (.lst [])) := same_new hz
    refine ⟨rowD rs, rowD [], dp_row (RW.row.same Sz), dp_row ⟨[], upd_same, .nil⟩, shaped_row _, shaped_row _, _, rfl, ?_⟩
    rw [eqv_row]
    have W := W.same Sz
    have RW := RW.same Sz
    have hx := hx.same Sz
    generalize upd H15 z (.lst []) = H16 at W RW hx ⊢
    obtain rfl : mm = (rs.length : Int) := hrs.symm
    clear hrs Sz b15 T15
    refine ite2 (fun c => ?_) (fun c => ?_)
    · have hemp : rs = [] := of_decide_eq_true c
      refine ⟨_, rfl, t, _, rfl, by decide, by decide, W.T, fun H17 r r0 r1 b17 T17 => ⟨_, _, rfl, rfl, ?_⟩⟩
      have hx := hx.but W.T b17
      have W := W.bt b17 T17
      refine ⟨_, rfl, _, rfl, Nat.zero_le _, fun z2 hz2 => ?_⟩
      have S2 : Same H17 (upd H17 z2 (.lst [])) := same_new hz2
      refine ⟨_, rfl, fo, z2, _, ps, ks, [], rfl, W.fr, W.hf.same S2, ⟨[], upd_same, .nil⟩, Nat.zero_le _, .inl rfl, fun H18 S18 => ⟨_, rfl, iteT ?_⟩⟩
      have S3 := S2.trans S18
      refine ⟨_, rfl, _, rfl, _, rfl, _, rfl, (by show 1 ≤ sizeLine; decide), fun z3 hz3 => ?_⟩
      have S4 := S3.trans (same_new (o := .lst [.ref x]) hz3)
      refine ⟨fo, a, k, z3, 0, ps, ks, [ex], rfl, W.fr, W.hf.same S4, S4 _ _ W.ha, S4 _ _ W.hk, ⟨_, upd_same, .cons ⟨x, rfl, hx.same S4⟩ .nil⟩, (by show 0 < 1; decide), fun r hr => ?_, (by show 1 ≤ 1000; decide), fun H' _ => q H'⟩
      rw [List.mem_singleton.mp hr]
      exact hxl
    have hne : rs ≠ [] := fun z => c (decide_eq_true z)
    have hpos : 0 < rs.length := List.length_pos_iff.mpr hne
    clear c mm0
    -- asked
    refine ⟨_, rfl, _, rfl, t, _, rfl, by omega, by omega, W.T, fun H17 j0 j0p j0r b17 T17 => ⟨(by show 1 ≤ sizeLine; decide), fun A hA => ?_⟩⟩
    have RW := RW.bt W.T b17
    have hx := hx.but W.T b17
    have W := W.bt b17 T17
    obtain ⟨j, rfl⟩ : ∃ j : Nat, j0 = (j : Int) := ⟨j0.toNat, by omega⟩
    have hj : j < rs.length := by omega
    have SA := same_new (o := .lst [.int (j : Int)]) hA
    have RW := RW.same SA
    have hx := hx.same SA
    have W := W.same SA
    have hA1 : upd H17 A (.lst [.int (j : Int)]) A = some (.lst ([j].map nV)) := upd_same
    generalize upd H17 A (.lst [.int (j : Int)]) = H18 at RW hx W hA1 ⊢
    clear b17 T17 SA hA j0p j0r
    refine g_ok ?_
    dsimp only
    refine seq_join (fun σ' H' => ∃ (A' : Addr) (js : List Nat), σ' = [some (.ref s), some (.ref t), some (.ref a), some (.ref o), some (.ref k), some (.int ps.length), some (.ref fo), some (.int span), some (.int rs.length), some (.ref l), some (.ref x), none, some (.ref A'), none, none, none, none, none, none, none, none] ∧ Same H18 H' ∧ H' A' = some (.lst ((j :: js).map nV)) ∧ ∀ i ∈ js, i < rs.length) (fun Dn hD => ?_) ?_
    · refine ⟨_, rfl, _, _, rfl, rfl, _, rfl, ?_⟩
      refine ite2 (fun _ => ?_) (fun _ => ?_)
      · refine ⟨_, rfl, _, rfl, _, rfl, RgOk.of_le (by omega) (by omega) (by omega) (by omega), fun G hG => ?_⟩
        rw [rg_nV]
        have SG := same_new (o := .lst ((List.range rs.length).map nV)) hG
        refine ⟨A, G, _, _, rfl, rfl, SG _ _ hA1, upd_same, Nat.le_of_lt (small1000 (by simp; omega)), fun e he => ?_⟩
        refine hD _ _ ⟨e, List.range rs.length, rfl, SG.trans (same_new he), ?_, fun i hi => List.mem_range.mp hi⟩
        rw [upd_same]
        rfl
      · exact hD _ _ ⟨A, [], rfl, Same.refl _, hA1, fun i hi => by simp at hi⟩
    rintro σ' H19 ⟨A', js, rfl, S19, hA2, hjs⟩
    have RW := RW.same S19
    have hx := hx.same S19
    have W := W.same S19
    clear S19 hA1
    -- the loop
    refine ⟨_, rfl, A', rfl, ⟨_, SqL.of hA2⟩, for_list (K := K) (a := A') (xs := (j :: js).map nV) (fun i σ H' => ∃ v : Option V, σ = [some (.ref s), some (.ref t), some (.ref a), some (.ref o), some (.ref k), some (.int ps.length), some (.ref fo), some (.int span), some (.int rs.length), some (.ref l), some (.ref x), v, some (.ref A'), none, none, none, none, none, none, none, none] ∧ Same H19 H') ⟨_, rfl, Same.refl _⟩ (fun i σ H' _ ⟨_, _, S⟩ => SqL.of (S _ _ hA2)) ?_ ?_⟩
    · rintro i y σ H' hi ⟨v, rfl, S⟩
      obtain ⟨jj, hjj, rfl⟩ := list_at hi
      have hb : jj < rs.length := by
        rcases List.mem_cons.mp (List.mem_of_getElem? hjj) with h | h
        · omega
        · exact hjs _ h
      have W := W.same S
      refine ⟨_, rfl, _, rfl, _, rfl, _, rfl, _, rfl, fo, a, k, l, jj, ps, ks, rs, rfl, W.fr, W.hf, W.ha, W.hk, (RW.same S).row, hb, hlen, by omega, fun H2 S2 => ⟨_, rfl, ifF_of rfl ⟨_, rfl, S.trans S2⟩⟩⟩
    rintro σ' H20 ⟨v, rfl, S20⟩
    have RW := RW.same S20
    have hx := hx.same S20
    have W := W.same S20
    have hA2 := S20 _ _ hA2
    clear S20
    -- index = asked[0]
    refine ⟨_, rfl, A', _, _, .int (j : Int), rfl, rfl, SqL.of hA2, at_of (j := 0) rfl rfl, ?_⟩
    clear hA2 hjs
    -- before
    refine ⟨_, rfl, o, _, rfl, by decide, by decide, W.U, fun Hc cnt c0 c1 bc Uc => ?_⟩
    have RW := RW.bo W.U bc
    have hx := hx.but W.U bc
    skip
    have W := W.bo bc Uc
    clear bc
    refine ⟨_, rfl, by omega, by omega, fun B1 hD => ?_⟩
    have nB1t : B1 ≠ t := (W.T.ne hD).symm
    have nB1o : B1 ≠ o := (W.U.ne hD).symm
    refine lc_range (lo := 0) (n := cnt.toNat) (fun i H' => ∃ (ws : List V) (rs' : List Rc), rs'.length = i ∧ (∀ r ∈ rs', r.length = ps.length) ∧ But o Hc H' ∧ TapeAt H' o ∧ H' B1 = some (.lst ws) ∧ Rows H' ws rs') ⟨[], [], rfl, fun r h => by simp at h, (But.refl o Hc).put hD, W.U.put nB1o.symm, upd_same, .nil⟩ ?_ ?_
    · rintro i H1 hi ⟨ws, rs', hl1, hg, b1, U1, hD1, R1⟩
      refine ⟨rfl, _, rfl, _, rfl, _, rfl, o, _, _, rfl, by omega, by omega, sp0, sp1, U1, fun H2 p r lr b2 U2 hp0 hp => ?_⟩
      have hD2 := b2 _ _ nB1o hD1
      have lw : ws.length = rs'.length := R1.length
      have lup : ∀ {o' : HO} (p : Addr) (r : Rc), RecAt H2 p r → RecAt (upd H2 B1 o') p r := fun {o'} p r e => by
        have n1 : p ≠ B1 := ne_of e hD2 (by intro z; cases z)
        unfold RecAt
        rw [upd_ne n1]
        exact e
      refine ⟨_, hD2, small1000 (by omega), ws ++ [.ref p], rs' ++ [r], by simp [hl1], fun r' hr' => ?_, (b1.trans b2).put hD, U2.put nB1o.symm, upd_same, ?_⟩
      · rcases List.mem_append.mp hr' with h | h
        · exact hg r' h
        · rw [List.mem_singleton.mp h]
          omega
      · exact Rows.append ((R1.but U1 b2).imp lup) (.cons ⟨p, rfl, lup _ _ hp⟩ .nil)
    rintro H' ⟨bv, bs, lbs, gbs, b1, U1, hD1, R1⟩
    have RB1 : Rw H' t o B1 bs := ⟨⟨bv, hD1, R1⟩, nB1t, nB1o⟩
    have RW := RW.bo W.U b1
    have hx := hx.but W.U b1
    skip
    have W := W.bo b1 U1
    clear b1 U1 hD1 R1 hD Uc
    -- after
    refine ⟨_, rfl, o, _, rfl, by decide, by decide, W.U, fun Hc cnt c0 c1 bc Uc => ?_⟩
    have RW := RW.bo W.U bc
    have hx := hx.but W.U bc
    have RB1 := RB1.bo W.U bc
    have W := W.bo bc Uc
    clear bc
    refine ⟨_, rfl, by omega, by omega, fun C1 hD => ?_⟩
    have nC1t : C1 ≠ t := (W.T.ne hD).symm
    have nC1o : C1 ≠ o := (W.U.ne hD).symm
    refine lc_range (lo := 0) (n := cnt.toNat) (fun i H' => ∃ (ws : List V) (rs' : List Rc), rs'.length = i ∧ (∀ r ∈ rs', r.length = ps.length) ∧ But o Hc H' ∧ TapeAt H' o ∧ H' C1 = some (.lst ws) ∧ Rows H' ws rs') ⟨[], [], rfl, fun r h => by simp at h, (But.refl o Hc).put hD, W.U.put nC1o.symm, upd_same, .nil⟩ ?_ ?_
    · rintro i H1 hi ⟨ws, rs', hl1, hg, b1, U1, hD1, R1⟩
      refine ⟨rfl, _, rfl, _, rfl, _, rfl, o, _, _, rfl, by omega, by omega, sp0, sp1, U1, fun H2 p r lr b2 U2 hp0 hp => ?_⟩
      have hD2 := b2 _ _ nC1o hD1
      have lw : ws.length = rs'.length := R1.length
      have lup : ∀ {o' : HO} (p : Addr) (r : Rc), RecAt H2 p r → RecAt (upd H2 C1 o') p r := fun {o'} p r e => by
        have n1 : p ≠ C1 := ne_of e hD2 (by intro z; cases z)
        unfold RecAt
        rw [upd_ne n1]
        exact e
      refine ⟨_, hD2, small1000 (by omega), ws ++ [.ref p], rs' ++ [r], by simp [hl1], fun r' hr' => ?_, (b1.trans b2).put hD, U2.put nC1o.symm, upd_same, ?_⟩
      · rcases List.mem_append.mp hr' with h | h
        · exact hg r' h
        · rw [List.mem_singleton.mp h]
          omega
      · exact Rows.append ((R1.but U1 b2).imp lup) (.cons ⟨p, rfl, lup _ _ hp⟩ .nil)
    rintro H' ⟨cv, cs, lcs, gcs, b1, U1, hD1, R1⟩
    have RC1 : Rw H' t o C1 cs := ⟨⟨cv, hD1, R1⟩, nC1t, nC1o⟩
    have RW := RW.bo W.U b1
    have hx := hx.but W.U b1
    have RB1 := RB1.bo W.U b1
    have W := W.bo b1 U1
    clear b1 U1 hD1 R1 hD Uc
    refine g_ok ?_
    dsimp only
    -- around
    refine seq_join (fun σ' H2 => σ' = [some (.ref s), some (.ref t), some (.ref a), some (.ref o), some (.ref k), some (.int ps.length), some (.ref fo), some (.int span), some (.int rs.length), some (.ref l), some (.ref x), some (.int j), some (.ref A'), some (.ref B1), some (.ref C1), none, none, none, none, none, none] ∧ Same H' H2) (fun Dn hD => ?_) ?_
    · refine ⟨_, rfl, _, rfl, _, rfl, _, rfl, a, k, ps, ks, l, rs, j, rfl, W.fr, W.ha, W.hk, RW.row, hj, hlen, by omega, fun H2 S2 => ⟨_, rfl, ?_⟩⟩
      refine ite2 (fun c => ?_) (fun _ => ?_)
      · have W := W.same S2
        refine ⟨_, rfl, _, rfl, _, rfl, _, rfl, _, rfl, _, rfl, _, rfl, fo, a, k, B1, l, C1, j, ps, ks, bs, rs, cs, rfl, W.fr, W.hf, W.ha, W.hk, (RB1.same S2).row, (RW.same S2).row, (RC1.same S2).row, hj, hlen, gbs, gcs, by omega, by omega, by omega, c, fun H3 S3 => ⟨_, rfl, ?_⟩⟩
        exact ifF_of rfl (hD _ _ ⟨rfl, S2.trans S3⟩)
      · exact hD _ _ ⟨rfl, S2⟩
    rintro σ' H21 ⟨rfl, S21⟩
    have RW := RW.same S21
    have hx := hx.same S21
    have W := W.same S21
    clear S21 RB1 RC1
    -- wrong
    refine ⟨_, _, rfl, rfl, _, rfl, _, rfl, t, _, rfl, by omega, by omega, W.T, fun H22 r1 r10 r1m b22 T22 => ⟨_, _, rfl, rfl, ?_⟩⟩
    have RW := RW.bt W.T b22
    have hx := hx.but W.T b22
    have W := W.bt b22 T22
    refine ⟨_, rfl, _, rfl, t, _, rfl, by decide, by decide, W.T, fun H23 r2 r20 r2m b23 T23 => ⟨_, _, rfl, rfl, (by show 2 ≤ sizeLine; decide), fun Y hY => ?_⟩⟩
    have RW := RW.bt W.T b23
    have hx := hx.but W.T b23
    have W := W.bt b23 T23
    have nYt : Y ≠ t := (W.T.ne hY).symm
    have SY := same_new (o := .lst [.int (0 - 1 - r1), .int ((rs.length : Int) + r2)]) hY
    have RW := RW.same SY
    have hx := hx.same SY
    have W := W.same SY
    have hY1 : upd H23 Y (.lst [.int (0 - 1 - r1), .int ((rs.length : Int) + r2)]) Y = some (.lst [.int (0 - 1 - r1), .int ((rs.length : Int) + r2)]) := upd_same
    refine ⟨_, rfl, t, _, rfl, by decide, by decide, W.T, fun H24 z z0 z1 b24 T24 => ?_⟩
    have RW := RW.bt W.T b24
    have hx := hx.but W.T b24
    have W := W.bt b24 T24
    have hY2 := b24 _ _ nYt hY1
    obtain ⟨w, ew, hw⟩ : ∃ w : Int, ([V.int (0 - 1 - r1), V.int ((rs.length : Int) + r2)] : List V)[z.toNat]? = some (.int w) ∧ ¬ (0 ≤ w ∧ w < (rs.length : Int)) := by
      have h : z = 0 ∨ z = 1 := by omega
      rcases h with h | h <;> subst h
      · exact ⟨_, rfl, by omega⟩
      · exact ⟨_, rfl, by omega⟩
    refine ⟨Y, _, _, .int w, rfl, rfl, SqL.of hY2, at_of (j := z.toNat) (by omega) ew, ?_⟩
    clear b22 T22 b23 T23 SY hY1 hY2 b24 T24 hY ew z0 z1
    -- spoilt
    refine ⟨_, rfl, _, rfl, _, rfl, t, l, rs, _, rfl, W.T, RW.lt, RW.row, by omega, by omega, by omega, fun H25 sp ss hsl hsw b25 T25 hsp0 hsp => ?_⟩
    have Rs : Rw H25 t o sp ss := ⟨hsp, (W.T.ne hsp0).symm, (W.U.ne hsp0).symm⟩
    have RW := RW.bt W.T b25
    have hx := hx.but W.T b25
    have W := W.bt b25 T25
    clear hsp hsp0 b25 T25
    refine g_ok ?_
    dsimp only
    -- refused
    refine seq_join (fun σ' H2 => σ' = [some (.ref s), some (.ref t), some (.ref a), some (.ref o), some (.ref k), some (.int ps.length), some (.ref fo), some (.int span), some (.int rs.length), some (.ref l), some (.ref x), some (.int j), some (.ref A'), some (.ref B1), some (.ref C1), some (.int w), some (.ref sp), none, none, none, none] ∧ Same H25 H2) (fun Dn hD => ?_) ?_
    · refine ⟨_, rfl, _, rfl, _, rfl, _, rfl, fo, l, w, ps, ks, rs, rfl, W.fr, W.hf, RW.row, by omega, .inr (.inr hw), fun H2 S2 => ⟨_, rfl, ifF_of rfl ?_⟩⟩
      refine ⟨_, rfl, _, rfl, _, rfl, _, rfl, fo, sp, j, ps, ks, ss, rfl, W.fr, W.hf.same S2, (Rs.same S2).row, by omega, .inr (.inl hsw), fun H3 S3 => ⟨_, rfl, ifF_of rfl ?_⟩⟩
      exact hD _ _ ⟨rfl, S2.trans S3⟩
    rintro σ' H26 ⟨rfl, S26⟩
    have RW := RW.same S26
    have Rs := Rs.same S26
    have hx := hx.same S26
    have W := W.same S26
    clear S26
    -- rows
    obtain ⟨vs, hl, R⟩ := id RW.row
    have lv : vs.length = rs.length := R.length
    refine ⟨_, rfl, l, _, rfl, .inl (SqL.of hl), fun G hG => ?_⟩
    have S27 := same_new (o := .lst vs) hG
    have hG1 : upd H26 G (.lst vs) G = some (.lst vs) := upd_same
    refine ⟨_, rfl, _, rfl, _, rfl, fo, G, j, ps, ks, rs, rfl, W.fr, W.hf.same S27, ⟨vs, hG1, R.same S27⟩, by omega, fun z => absurd z hne, fun i p r hi _ hw => absurd (congrArg Nat.cast (hlen r (List.mem_of_getElem? hi))) hw, fun _ _ ho => absurd ⟨by omega, by omega⟩ ho, fun m2 e hlt _ H28 S28 => ?_⟩
    have hG2 := S28 _ _ hG1
    refine ⟨_, rfl, .inl ⟨rfl, _, SqL.of hG2⟩, _, rfl, G, _, _, rfl, rfl, hG2, small1000 (by omega), ?_⟩
    have S29 : Same H26 (upd H28 G (.lst (vs ++ [.ref x]))) := fun b u e => by
      rw [upd_ne (ne_of_none e hG)]
      exact S28 _ _ (S27 _ _ e)
    have RG : RowAt (upd H28 G (.lst (vs ++ [.ref x]))) G (rs ++ [ex]) := ⟨_, upd_same, Rows.append (R.same S29) (.cons ⟨x, rfl, hx.same S29⟩ .nil)⟩
    generalize upd H28 G (.lst (vs ++ [.ref x])) = H29 at S29 RG ⊢
    clear hG1 hG2 S27 S28 m2 e hlt
    have RW := RW.same S29
    have Rs := Rs.same S29
    have hx := hx.same S29
    have W := W.same S29
    have hlen2 : ∀ r ∈ rs ++ [ex], r.length = ps.length := fun r hr => by
      rcases List.mem_append.mp hr with h | h
      · exact hlen r h
      · rw [List.mem_singleton.mp h]
        exact hxl
    have ll : (rs ++ [ex]).length = rs.length + 1 := by rw [List.length_append]; rfl
    have ne2 : rs ++ [ex] ≠ [] := by simp
    generalize rs ++ [ex] = rs2 at RG hlen2 ll ne2 ⊢
    refine ⟨_, rfl, _, rfl, _, rfl, fo, G, j, ps, ks, rs2, rfl, W.fr, W.hf, RG, by omega, fun z => absurd z ne2, fun i p r hi _ hw => absurd (congrArg Nat.cast (hlen2 r (List.mem_of_getElem? hi))) hw, fun _ _ ho => absurd ⟨by omega, by omega⟩ ho, fun m2 e hlt _ H30 S30 => ?_⟩
    have e2 : m2 = j := by omega
    subst e2
    have RW := RW.same S30
    have Rs := Rs.same S30
    have hx := hx.same S30
    have W := W.same S30
    refine ⟨_, rfl, _, _, _, _, _, rfl, .ty _, .base (.bl _), kit_bool_bool, _, rfl, iteF ?_⟩
    refine ⟨_, rfl, _, rfl, _, rfl, _, rfl, _, rfl, a, k, ps, ks, G, rs2, m2, rfl, W.fr, W.ha, W.hk, RG.same S30, hlt, hlen2, by omega, fun H31 S31 => ?_⟩
    refine ⟨rfl, _, rfl, ?_⟩
    refine ifF_of (by simp) ?_
    have RW := RW.same S31
    have Rs := Rs.same S31
    have hx := hx.same S31
    have W := W.same S31
    clear S29 S30 S31 RG hl R lv hG hlen2 ll ne2 e
    refine next_ok ?_
    dsimp only
    -- a long row
    refine seq_join (fun σ' H' => ∃ v17 v18 v19 : Option V, σ' = [some (.ref s), some (.ref t), some (.ref a), some (.ref o), some (.ref k), some (.int ps.length), some (.ref fo), some (.int span), some (.int rs.length), some (.ref l), some (.ref x), some (.int m2), some (.ref A'), some (.ref B1), some (.ref C1), some (.int w), some (.ref sp), v17, v18, v19, none] ∧ Wa C H' t o a k fo ps ks ∧ Rw H' t o l rs ∧ Rw H' t o sp ss) (fun Dn hD => ?_) ?_
    · refine ⟨_, rfl, _, _, rfl, rfl, _, rfl, ?_⟩
      refine ite2 (fun _ => ?_) (fun _ => ifF_of rfl (hD _ _ ⟨_, _, _, rfl, W, RW, Rs⟩))
      refine ⟨_, rfl, t, _, rfl, by decide, by decide, W.T, fun H32 r5 _ _ b32 T32 => ⟨rfl, _, rfl, ?_⟩⟩
      have RW := RW.bt W.T b32
      have Rs := Rs.bt W.T b32
      have hx := hx.but W.T b32
      have W := W.bt b32 T32
      refine ite2 (fun _ => ?_) (fun _ => hD _ _ ⟨_, _, _, rfl, W, RW, Rs⟩)
      refine ⟨_, rfl, _, rfl, _, rfl, t, l, rs, _, rfl, W.T, RW.lt, RW.row, hne, by omega, by omega, by omega, fun H33 g gs hgl hgsub b33 T33 hg0 hg => ?_⟩
      have ngt : g ≠ t := (W.T.ne hg0).symm
      have ngo : g ≠ o := (W.U.ne hg0).symm
      obtain ⟨gv, hgv, Rg⟩ := hg
      have lgv : gv.length = gs.length := Rg.length
      refine ⟨_, rfl, _, rfl, g, _, rfl, .inl (SqL.of hgv), _, _, rfl, rfl, t, _, rfl, by omega, by omega, T33, fun H34 pl p0 p1 b34 T34 => ?_⟩
      obtain ⟨pn, rfl⟩ : ∃ pn : Nat, pl = (pn : Int) := ⟨pl.toNat, by omega⟩
      have hg4 := b34 _ _ ngt hgv
      refine ⟨_, rfl, .inl ⟨rfl, _, SqL.of hg4⟩, _, rfl, _, rfl, g, _, _, _, rfl, rfl, hg4, small1000 (by omega), p0, by omega, ?_⟩
      have kp : Kp t o H32 (upd H34 g (.lst (gv.take (pn : Int).toNat ++ [.ref x] ++ gv.drop (pn : Int).toNat))) := fun b u nb _ e => by
        rw [upd_ne (ne_of_none e hg0)]
        exact b34 _ _ nb (b33 _ _ nb e)
      have lup : ∀ {o' : HO} (p : Addr) (r : Rc), RecAt H34 p r → RecAt (upd H34 g o') p r := fun {o'} p r e => by
        have n1 : p ≠ g := ne_of e hg4 (by intro z; cases z)
        unfold RecAt
        rw [upd_ne n1]
        exact e
      have R4 := Rg.but T33 b34
      have hx5 := kp _ _ (hx.ne W.T) (hx.ne W.U) hx
      have R5 : RowAt (upd H34 g (.lst (gv.take (pn : Int).toNat ++ [.ref x] ++ gv.drop (pn : Int).toNat))) g (gs.take pn ++ [ex] ++ gs.drop pn) :=
        ⟨_, upd_same, Rows.append (Rows.append ((R4.imp lup).take _) (.cons ⟨x, rfl, hx5⟩ .nil)) ((R4.imp lup).drop _)⟩
      have T5 := T34.put (o := .lst (gv.take (pn : Int).toNat ++ [.ref x] ++ gv.drop (pn : Int).toNat)) ngt.symm
      have U5 := ((W.U.bt hto.symm b33).bt hto.symm b34).put (o := .lst (gv.take (pn : Int).toNat ++ [.ref x] ++ gv.drop (pn : Int).toNat)) ngo.symm
      generalize upd H34 g (.lst (gv.take (pn : Int).toNat ++ [.ref x] ++ gv.drop (pn : Int).toNat)) = H35 at kp R5 T5 U5 hx5 ⊢
      have RW := RW.kp W.T W.U kp
      have Rs := Rs.kp W.T W.U kp
      have W := W.kp kp T5 U5
      have hgood : ∀ r ∈ gs.take pn ++ [ex] ++ gs.drop pn, r.length = ps.length := fun r hr => by
        rcases List.mem_append.mp hr with h | h
        · rcases List.mem_append.mp h with h | h
          · exact hlen r (hgsub r (List.mem_of_mem_take h))
          · rw [List.mem_singleton.mp h]
            exact hxl
        · exact hlen r (hgsub r (List.mem_of_mem_drop h))
      have lg : (gs.take pn ++ [ex] ++ gs.drop pn).length = gs.length + 1 := by
        rw [List.length_append, List.length_append, List.length_take, List.length_drop, List.length_singleton]
        omega
      generalize gs.take pn ++ [ex] ++ gs.drop pn = gs2 at R5 hgood lg ⊢
      refine ⟨_, rfl, _, rfl, _, rfl, _, rfl, _, rfl, fo, a, k, g, pn, ps, ks, gs2, rfl, W.fr, W.hf, W.ha, W.hk, R5, by omega, hgood, by omega, fun H36 S36 => ⟨_, rfl, ifF_of rfl ?_⟩⟩
      exact hD _ _ ⟨_, _, _, rfl, W.same S36, RW.same S36, Rs.same S36⟩
    rintro σ' H36 ⟨v17, v18, v19, rfl, W, RW, Rs⟩
    refine ⟨_, rfl, _, rfl, _, rfl, _, _, rfl, rfl, fo, sp, _, ps, ks, ss, rfl, W.fr, W.hf, Rs.row, by omega, .inr (.inl hsw), fun H37 S37 => ⟨_, rfl, iteT ?_⟩⟩
    have RW := RW.same S37
    have W := W.same S37
    exact ⟨_, rfl, _, rfl, _, rfl, _, rfl, _, rfl, fo, a, k, l, m2, ps, ks, rs, rfl, W.fr, W.hf, W.ha, W.hk, RW.row, hj, hlen, by omega, fun H' _ => q H'⟩
end

end
end K42
namespace K42
open PySem L2 PyProof.Rows
theorem tx_mk {K : PySem.W.Frag} {h : Heap} {mg : Str → Option Value} (X : K.In h) (G : h.Ns mainGlobals mg) {x : Str} {st : Stmt} {ps : List Str} {f : Addr} {oc : Value} {od an : Option Addr} {osl : Array (Option Value)} {kV doc pm cdv ct : Value}
    (a : PySem.W.nsIn K mainGlobals x = some (some (.ref f))) (l : K.lookup f = some ⟨oc, od, .func (PySem.W.fnOf x x (defArgs st) (defBody st) (defScope st) .none kV doc pm an cdv ct), osl⟩) (c : PySem.W.codeIn K cdv x = true) (k : PySem.W.keepIn K (.ref f) = true)
    (hb : ∀ (kV doc pm : Value) (an : Option Addr) (cdv ct : Value) (us : List Value), us.length = ps.length → bindArgs (PySem.W.fnOf x x (defArgs st) (defBody st) (defScope st) .none kV doc pm an cdv ct) ⟨us, []⟩ = pure (ps.zip us)) : Tx K mg x st ps := by
  have F := fun_mk (st := st) l c k
  exact ⟨f, _, PySem.W.mg_of X G a, F, F.binds hb⟩
theorem all_mk {P : Program} {w : World} {K : PySem.W.Frag} {h : Heap} {mg : Str → Option Value} {fa : Addr} (X : K.In h) (G : h.Ns mainGlobals mg) (hfa : mg "law" = some (.ref fa))
    {f1 : Addr} {o1 p1 : Option Addr} {u1 : Array (Option Value)} {c1 v1 d1 m1 e1 t1 : Value}
    {f2 : Addr} {o2 p2 : Option Addr} {u2 : Array (Option Value)} {c2 v2 d2 m2 e2 t2 : Value}
    {f3 : Addr} {o3 p3 : Option Addr} {u3 : Array (Option Value)} {c3 v3 d3 m3 e3 t3 : Value}
    {f4 : Addr} {o4 p4 : Option Addr} {u4 : Array (Option Value)} {c4 v4 d4 m4 e4 t4 : Value}
    {f5 : Addr} {o5 p5 : Option Addr} {u5 : Array (Option Value)} {c5 v5 d5 m5 e5 t5 : Value}
    {f6 : Addr} {o6 p6 : Option Addr} {u6 : Array (Option Value)} {c6 v6 d6 m6 e6 t6 : Value}
    {f7 : Addr} {o7 p7 : Option Addr} {u7 : Array (Option Value)} {c7 v7 d7 m7 e7 t7 : Value}
    {f8 : Addr} {o8 p8 : Option Addr} {u8 : Array (Option Value)} {c8 v8 d8 m8 e8 t8 : Value}
    {f9 : Addr} {o9 p9 : Option Addr} {u9 : Array (Option Value)} {c9 v9 d9 m9 e9 t9 : Value}
    {f10 : Addr} {o10 p10 : Option Addr} {u10 : Array (Option Value)} {c10 v10 d10 m10 e10 t10 : Value}
    {f11 : Addr} {o11 p11 : Option Addr} {u11 : Array (Option Value)} {c11 v11 d11 m11 e11 t11 : Value}
    {f12 : Addr} {o12 p12 : Option Addr} {u12 : Array (Option Value)} {c12 v12 d12 m12 e12 t12 : Value}
    {f13 : Addr} {o13 p13 : Option Addr} {u13 : Array (Option Value)} {c13 v13 d13 m13 e13 t13 : Value}
    {f14 : Addr} {o14 p14 : Option Addr} {u14 : Array (Option Value)} {c14 v14 d14 m14 e14 t14 : Value}
    {f15 : Addr} {o15 p15 : Option Addr} {u15 : Array (Option Value)} {c15 v15 d15 m15 e15 t15 : Value}
    {f16 : Addr} {o16 p16 : Option Addr} {u16 : Array (Option Value)} {c16 v16 d16 m16 e16 t16 : Value}
    {f17 : Addr} {o17 p17 : Option Addr} {u17 : Array (Option Value)} {c17 v17 d17 m17 e17 t17 : Value}
    {f18 : Addr} {o18 p18 : Option Addr} {u18 : Array (Option Value)} {c18 v18 d18 m18 e18 t18 : Value}
    {f19 : Addr} {o19 p19 : Option Addr} {u19 : Array (Option Value)} {c19 v19 d19 m19 e19 t19 : Value}
    {f20 : Addr} {o20 p20 : Option Addr} {u20 : Array (Option Value)} {c20 v20 d20 m20 e20 t20 : Value}
    {f21 : Addr} {o21 p21 : Option Addr} {u21 : Array (Option Value)} {c21 v21 d21 m21 e21 t21 : Value}
    {f22 : Addr} {o22 p22 : Option Addr} {u22 : Array (Option Value)} {c22 v22 d22 m22 e22 t22 : Value}
    {f23 : Addr} {o23 p23 : Option Addr} {u23 : Array (Option Value)} {c23 v23 d23 m23 e23 t23 : Value}
    {f24 : Addr} {o24 p24 : Option Addr} {u24 : Array (Option Value)} {c24 v24 d24 m24 e24 t24 : Value}
    {f25 : Addr} {o25 p25 : Option Addr} {u25 : Array (Option Value)} {c25 v25 d25 m25 e25 t25 : Value}
    {f26 : Addr} {o26 p26 : Option Addr} {u26 : Array (Option Value)} {c26 v26 d26 m26 e26 t26 : Value}
    {f27 : Addr} {o27 p27 : Option Addr} {u27 : Array (Option Value)} {c27 v27 d27 m27 e27 t27 : Value}
    {f28 : Addr} {o28 p28 : Option Addr} {u28 : Array (Option Value)} {c28 v28 d28 m28 e28 t28 : Value}
    {f29 : Addr} {o29 p29 : Option Addr} {u29 : Array (Option Value)} {c29 v29 d29 m29 e29 t29 : Value}
    {f30 : Addr} {o30 p30 : Option Addr} {u30 : Array (Option Value)} {c30 v30 d30 m30 e30 t30 : Value}
    {f31 : Addr} {o31 p31 : Option Addr} {u31 : Array (Option Value)} {c31 v31 d31 m31 e31 t31 : Value}
    {f32 : Addr} {o32 p32 : Option Addr} {u32 : Array (Option Value)} {c32 v32 d32 m32 e32 t32 : Value}
    {f33 : Addr} {o33 p33 : Option Addr} {u33 : Array (Option Value)} {c33 v33 d33 m33 e33 t33 : Value}
    {f34 : Addr} {o34 p34 : Option Addr} {u34 : Array (Option Value)} {c34 v34 d34 m34 e34 t34 : Value}
    {C fI : Addr} {oI pI : Option Addr} {uI : Array (Option Value)} {cI vI dI mI eI tI : Value}
    {tM : Tok}
    {CF CM CN : Addr}
    {CR fR daR ccR : Addr} {nmR qR : Str} {NR : Addr} {bsR : List Value} {snR : List Str} {subR : List Value} {abR : Bool} {colR : Option Bool} {ddR : Option Addr} {r0R r1R r2R r3R r5R : Option Value} {oR pR odR ocR : Option Addr} {uR udR ucR : Array (Option Value)} {cR dR mR tR cdR clR : Value} {vsR : Array Value} {fileR : Str} {tfR : Tok}
    {CP fP daP ccP : Addr} {nmP qP : Str} {NP : Addr} {bsP : List Value} {snP : List Str} {subP : List Value} {abP : Bool} {colP : Option Bool} {ddP : Option Addr} {r0P r1P r2P r3P r5P : Option Value} {oP pP odP ocP : Option Addr} {uP udP ucP : Array (Option Value)} {cP dP mP tP cdP clP : Value} {vsP : Array Value} {fileP : Str} {tfP : Tok}
    {fL : Addr} {oL pL : Option Addr} {uL : Array (Option Value)} {cL vL dL mL eL tL : Value}
    (a1 : PySem.W.nsIn K mainGlobals "better" = some (some (.ref f1)))
    (l1 : K.lookup f1 = some ⟨c1, o1, .func (PySem.W.fnOf "better" "better" (defArgs sBetter) (defBody sBetter) (defScope sBetter) .none v1 d1 m1 p1 e1 t1), u1⟩)
    (h1 : PySem.W.codeIn K e1 "better" = true)
    (k1 : PySem.W.keepIn K (.ref f1) = true)
    (a2 : PySem.W.nsIn K mainGlobals "path_of" = some (some (.ref f2)))
    (l2 : K.lookup f2 = some ⟨c2, o2, .func (PySem.W.fnOf "path_of" "path_of" (defArgs sPathOf) (defBody sPathOf) (defScope sPathOf) .none v2 d2 m2 p2 e2 t2), u2⟩)
    (h2 : PySem.W.codeIn K e2 "path_of" = true)
    (k2 : PySem.W.keepIn K (.ref f2) = true)
    (a3 : PySem.W.nsIn K mainGlobals "best_of" = some (some (.ref f3)))
    (l3 : K.lookup f3 = some ⟨c3, o3, .func (PySem.W.fnOf "best_of" "best_of" (defArgs sBestOf) (defBody sBestOf) (defScope sBestOf) .none v3 d3 m3 p3 e3 t3), u3⟩)
    (h3 : PySem.W.codeIn K e3 "best_of" = true)
    (k3 : PySem.W.keepIn K (.ref f3) = true)
    (a4 : PySem.W.nsIn K mainGlobals "end_of_row" = some (some (.ref f4)))
    (l4 : K.lookup f4 = some ⟨c4, o4, .func (PySem.W.fnOf "end_of_row" "end_of_row" (defArgs sEndRow) (defBody sEndRow) (defScope sEndRow) .none v4 d4 m4 p4 e4 t4), u4⟩)
    (h4 : PySem.W.codeIn K e4 "end_of_row" = true)
    (k4 : PySem.W.keepIn K (.ref f4) = true)
    (a5 : PySem.W.nsIn K mainGlobals "check_record" = some (some (.ref f5)))
    (l5 : K.lookup f5 = some ⟨c5, o5, .func (PySem.W.fnOf "check_record" "check_record" (defArgs sChkRec) (defBody sChkRec) (defScope sChkRec) .none v5 d5 m5 p5 e5 t5), u5⟩)
    (h5 : PySem.W.codeIn K e5 "check_record" = true)
    (k5 : PySem.W.keepIn K (.ref f5) = true)
    (a6 : PySem.W.nsIn K mainGlobals "check_records" = some (some (.ref f6)))
    (l6 : K.lookup f6 = some ⟨c6, o6, .func (PySem.W.fnOf "check_records" "check_records" (defArgs sChkRecs) (defBody sChkRecs) (defScope sChkRecs) .none v6 d6 m6 p6 e6 t6), u6⟩)
    (h6 : PySem.W.codeIn K e6 "check_records" = true)
    (k6 : PySem.W.keepIn K (.ref f6) = true)
    (a7 : PySem.W.nsIn K mainGlobals "check_place" = some (some (.ref f7)))
    (l7 : K.lookup f7 = some ⟨c7, o7, .func (PySem.W.fnOf "check_place" "check_place" (defArgs sChkPl) (defBody sChkPl) (defScope sChkPl) .none v7 d7 m7 p7 e7 t7), u7⟩)
    (h7 : PySem.W.codeIn K e7 "check_place" = true)
    (k7 : PySem.W.keepIn K (.ref f7) = true)
    (a8 : PySem.W.nsIn K mainGlobals "row_end" = some (some (.ref f8)))
    (l8 : K.lookup f8 = some ⟨c8, o8, .func (PySem.W.fnOf "row_end" "row_end" (defArgs sRowEnd) (defBody sRowEnd) (defScope sRowEnd) .none v8 d8 m8 p8 e8 t8), u8⟩)
    (h8 : PySem.W.codeIn K e8 "row_end" = true)
    (k8 : PySem.W.keepIn K (.ref f8) = true)
    (a9 : PySem.W.nsIn K mainGlobals "can_strike" = some (some (.ref f9)))
    (l9 : K.lookup f9 = some ⟨c9, o9, .func (PySem.W.fnOf "can_strike" "can_strike" (defArgs sStrike) (defBody sStrike) (defScope sStrike) .none v9 d9 m9 p9 e9 t9), u9⟩)
    (h9 : PySem.W.codeIn K e9 "can_strike" = true)
    (k9 : PySem.W.keepIn K (.ref f9) = true)
    (a10 : PySem.W.nsIn K mainGlobals "never_ends" = some (some (.ref f10)))
    (l10 : K.lookup f10 = some ⟨c10, o10, .func (PySem.W.fnOf "never_ends" "never_ends" (defArgs sNever) (defBody sNever) (defScope sNever) .none v10 d10 m10 p10 e10 t10), u10⟩)
    (h10 : PySem.W.codeIn K e10 "never_ends" = true)
    (k10 : PySem.W.keepIn K (.ref f10) = true)
    (a11 : PySem.W.nsIn K mainGlobals "check_shape" = some (some (.ref f11)))
    (l11 : K.lookup f11 = some ⟨c11, o11, .func (PySem.W.fnOf "check_shape" "check_shape" (defArgs sShape) (defBody sShape) (defScope sShape) .none v11 d11 m11 p11 e11 t11), u11⟩)
    (h11 : PySem.W.codeIn K e11 "check_shape" = true)
    (k11 : PySem.W.keepIn K (.ref f11) = true)
    (a12 : PySem.W.nsIn K mainGlobals "_law_tape" = some (some (.ref f12)))
    (l12 : K.lookup f12 = some ⟨c12, o12, .func (PySem.W.fnOf "_law_tape" "_law_tape" (defArgs sTape) (defBody sTape) (defScope sTape) .none v12 d12 m12 p12 e12 t12), u12⟩)
    (h12 : PySem.W.codeIn K e12 "_law_tape" = true)
    (k12 : PySem.W.keepIn K (.ref f12) = true)
    (a13 : PySem.W.nsIn K mainGlobals "_law_take" = some (some (.ref f13)))
    (l13 : K.lookup f13 = some ⟨c13, o13, .func (PySem.W.fnOf "_law_take" "_law_take" (defArgs sTake) (defBody sTake) (defScope sTake) .none v13 d13 m13 p13 e13 t13), u13⟩)
    (h13 : PySem.W.codeIn K e13 "_law_take" = true)
    (k13 : PySem.W.keepIn K (.ref f13) = true)
    (a14 : PySem.W.nsIn K mainGlobals "_law_value" = some (some (.ref f14)))
    (l14 : K.lookup f14 = some ⟨c14, o14, .func (PySem.W.fnOf "_law_value" "_law_value" (defArgs sValue) (defBody sValue) (defScope sValue) .none v14 d14 m14 p14 e14 t14), u14⟩)
    (h14 : PySem.W.codeIn K e14 "_law_value" = true)
    (k14 : PySem.W.keepIn K (.ref f14) = true)
    (a15 : PySem.W.nsIn K mainGlobals "_law_record" = some (some (.ref f15)))
    (l15 : K.lookup f15 = some ⟨c15, o15, .func (PySem.W.fnOf "_law_record" "_law_record" (defArgs sRecord) (defBody sRecord) (defScope sRecord) .none v15 d15 m15 p15 e15 t15), u15⟩)
    (h15 : PySem.W.codeIn K e15 "_law_record" = true)
    (k15 : PySem.W.keepIn K (.ref f15) = true)
    (a16 : PySem.W.nsIn K mainGlobals "_law_turns" = some (some (.ref f16)))
    (l16 : K.lookup f16 = some ⟨c16, o16, .func (PySem.W.fnOf "_law_turns" "_law_turns" (defArgs sTurns) (defBody sTurns) (defScope sTurns) .none v16 d16 m16 p16 e16 t16), u16⟩)
    (h16 : PySem.W.codeIn K e16 "_law_turns" = true)
    (k16 : PySem.W.keepIn K (.ref f16) = true)
    (a17 : PySem.W.nsIn K mainGlobals "_law_parents" = some (some (.ref f17)))
    (l17 : K.lookup f17 = some ⟨c17, o17, .func (PySem.W.fnOf "_law_parents" "_law_parents" (defArgs sParents) (defBody sParents) (defScope sParents) .none v17 d17 m17 p17 e17 t17), u17⟩)
    (h17 : PySem.W.codeIn K e17 "_law_parents" = true)
    (k17 : PySem.W.keepIn K (.ref f17) = true)
    (a18 : PySem.W.nsIn K mainGlobals "_law_kinds" = some (some (.ref f18)))
    (l18 : K.lookup f18 = some ⟨c18, o18, .func (PySem.W.fnOf "_law_kinds" "_law_kinds" (defArgs sKinds) (defBody sKinds) (defScope sKinds) .none v18 d18 m18 p18 e18 t18), u18⟩)
    (h18 : PySem.W.codeIn K e18 "_law_kinds" = true)
    (k18 : PySem.W.keepIn K (.ref f18) = true)
    (a19 : PySem.W.nsIn K mainGlobals "_law_path" = some (some (.ref f19)))
    (l19 : K.lookup f19 = some ⟨c19, o19, .func (PySem.W.fnOf "_law_path" "_law_path" (defArgs sPath) (defBody sPath) (defScope sPath) .none v19 d19 m19 p19 e19 t19), u19⟩)
    (h19 : PySem.W.codeIn K e19 "_law_path" = true)
    (k19 : PySem.W.keepIn K (.ref f19) = true)
    (a20 : PySem.W.nsIn K mainGlobals "_law_side" = some (some (.ref f20)))
    (l20 : K.lookup f20 = some ⟨c20, o20, .func (PySem.W.fnOf "_law_side" "_law_side" (defArgs sSide) (defBody sSide) (defScope sSide) .none v20 d20 m20 p20 e20 t20), u20⟩)
    (h20 : PySem.W.codeIn K e20 "_law_side" = true)
    (k20 : PySem.W.keepIn K (.ref f20) = true)
    (a21 : PySem.W.nsIn K mainGlobals "_law_merge" = some (some (.ref f21)))
    (l21 : K.lookup f21 = some ⟨c21, o21, .func (PySem.W.fnOf "_law_merge" "_law_merge" (defArgs sMerge) (defBody sMerge) (defScope sMerge) .none v21 d21 m21 p21 e21 t21), u21⟩)
    (h21 : PySem.W.codeIn K e21 "_law_merge" = true)
    (k21 : PySem.W.keepIn K (.ref f21) = true)
    (a22 : PySem.W.nsIn K mainGlobals "_law_fold" = some (some (.ref f22)))
    (l22 : K.lookup f22 = some ⟨c22, o22, .func (PySem.W.fnOf "_law_fold" "_law_fold" (defArgs sFold) (defBody sFold) (defScope sFold) .none v22 d22 m22 p22 e22 t22), u22⟩)
    (h22 : PySem.W.codeIn K e22 "_law_fold" = true)
    (k22 : PySem.W.keepIn K (.ref f22) = true)
    (a23 : PySem.W.nsIn K mainGlobals "_law_is_integer" = some (some (.ref f23)))
    (l23 : K.lookup f23 = some ⟨c23, o23, .func (PySem.W.fnOf "_law_is_integer" "_law_is_integer" (defArgs sIsInt) (defBody sIsInt) (defScope sIsInt) .none v23 d23 m23 p23 e23 t23), u23⟩)
    (h23 : PySem.W.codeIn K e23 "_law_is_integer" = true)
    (k23 : PySem.W.keepIn K (.ref f23) = true)
    (a24 : PySem.W.nsIn K mainGlobals "_law_is_record" = some (some (.ref f24)))
    (l24 : K.lookup f24 = some ⟨c24, o24, .func (PySem.W.fnOf "_law_is_record" "_law_is_record" (defArgs sIsRec) (defBody sIsRec) (defScope sIsRec) .none v24 d24 m24 p24 e24 t24), u24⟩)
    (h24 : PySem.W.codeIn K e24 "_law_is_record" = true)
    (k24 : PySem.W.keepIn K (.ref f24) = true)
    (a25 : PySem.W.nsIn K mainGlobals "_law_fields" = some (some (.ref f25)))
    (l25 : K.lookup f25 = some ⟨c25, o25, .func (PySem.W.fnOf "_law_fields" "_law_fields" (defArgs sFields) (defBody sFields) (defScope sFields) .none v25 d25 m25 p25 e25 t25), u25⟩)
    (h25 : PySem.W.codeIn K e25 "_law_fields" = true)
    (k25 : PySem.W.keepIn K (.ref f25) = true)
    (a26 : PySem.W.nsIn K mainGlobals "_law_row" = some (some (.ref f26)))
    (l26 : K.lookup f26 = some ⟨c26, o26, .func (PySem.W.fnOf "_law_row" "_law_row" (defArgs sRow) (defBody sRow) (defScope sRow) .none v26 d26 m26 p26 e26 t26), u26⟩)
    (h26 : PySem.W.codeIn K e26 "_law_row" = true)
    (k26 : PySem.W.keepIn K (.ref f26) = true)
    (a27 : PySem.W.nsIn K mainGlobals "_law_twice" = some (some (.ref f27)))
    (l27 : K.lookup f27 = some ⟨c27, o27, .func (PySem.W.fnOf "_law_twice" "_law_twice" (defArgs sTwice) (defBody sTwice) (defScope sTwice) .none v27 d27 m27 p27 e27 t27), u27⟩)
    (h27 : PySem.W.codeIn K e27 "_law_twice" = true)
    (k27 : PySem.W.keepIn K (.ref f27) = true)
    (a28 : PySem.W.nsIn K mainGlobals "_law_long" = some (some (.ref f28)))
    (l28 : K.lookup f28 = some ⟨c28, o28, .func (PySem.W.fnOf "_law_long" "_law_long" (defArgs sLong) (defBody sLong) (defScope sLong) .none v28 d28 m28 p28 e28 t28), u28⟩)
    (h28 : PySem.W.codeIn K e28 "_law_long" = true)
    (k28 : PySem.W.keepIn K (.ref f28) = true)
    (a29 : PySem.W.nsIn K mainGlobals "_law_spoilt" = some (some (.ref f29)))
    (l29 : K.lookup f29 = some ⟨c29, o29, .func (PySem.W.fnOf "_law_spoilt" "_law_spoilt" (defArgs sSpoilt) (defBody sSpoilt) (defScope sSpoilt) .none v29 d29 m29 p29 e29 t29), u29⟩)
    (h29 : PySem.W.codeIn K e29 "_law_spoilt" = true)
    (k29 : PySem.W.keepIn K (.ref f29) = true)
    (a30 : PySem.W.nsIn K mainGlobals "_law_first_wrong" = some (some (.ref f30)))
    (l30 : K.lookup f30 = some ⟨c30, o30, .func (PySem.W.fnOf "_law_first_wrong" "_law_first_wrong" (defArgs sFirst) (defBody sFirst) (defScope sFirst) .none v30 d30 m30 p30 e30 t30), u30⟩)
    (h30 : PySem.W.codeIn K e30 "_law_first_wrong" = true)
    (k30 : PySem.W.keepIn K (.ref f30) = true)
    (a31 : PySem.W.nsIn K mainGlobals "_law_due" = some (some (.ref f31)))
    (l31 : K.lookup f31 = some ⟨c31, o31, .func (PySem.W.fnOf "_law_due" "_law_due" (defArgs sDue) (defBody sDue) (defScope sDue) .none v31 d31 m31 p31 e31 t31), u31⟩)
    (h31 : PySem.W.codeIn K e31 "_law_due" = true)
    (k31 : PySem.W.keepIn K (.ref f31) = true)
    (a32 : PySem.W.nsIn K mainGlobals "_law_tells" = some (some (.ref f32)))
    (l32 : K.lookup f32 = some ⟨c32, o32, .func (PySem.W.fnOf "_law_tells" "_law_tells" (defArgs sTells) (defBody sTells) (defScope sTells) .none v32 d32 m32 p32 e32 t32), u32⟩)
    (h32 : PySem.W.codeIn K e32 "_law_tells" = true)
    (k32 : PySem.W.keepIn K (.ref f32) = true)
    (a33 : PySem.W.nsIn K mainGlobals "_law_same_around" = some (some (.ref f33)))
    (l33 : K.lookup f33 = some ⟨c33, o33, .func (PySem.W.fnOf "_law_same_around" "_law_same_around" (defArgs sAround) (defBody sAround) (defScope sAround) .none v33 d33 m33 p33 e33 t33), u33⟩)
    (h33 : PySem.W.codeIn K e33 "_law_same_around" = true)
    (k33 : PySem.W.keepIn K (.ref f33) = true)
    (a34 : PySem.W.nsIn K mainGlobals "_law_refused" = some (some (.ref f34)))
    (l34 : K.lookup f34 = some ⟨c34, o34, .func (PySem.W.fnOf "_law_refused" "_law_refused" (defArgs sRefused) (defBody sRefused) (defScope sRefused) .none v34 d34 m34 p34 e34 t34), u34⟩)
    (h34 : PySem.W.codeIn K e34 "_law_refused" = true)
    (k34 : PySem.W.keepIn K (.ref f34) = true)
    (aC : PySem.W.nsIn K mainGlobals "Forest" = some (some (.ref C)))
    (iI : PySem.W.findIn K (.ref C) "__init__" = some (some (.ref fI)))
    (nI : PySem.W.isFn K (.ref fI) = true)
    (lI : K.lookup fI = some ⟨cI, oI, .func (PySem.W.fnOf "__init__" "Forest.__init__" (defArgs sFInit) (defBody sFInit) (defScope sFInit) .none vI dI mI pI eI tI), uI⟩)
    (hI : PySem.W.codeIn K eI "Forest.__init__" = true)
    (kI : PySem.W.keepIn K (.ref fI) = true)
    (pg : PySem.W.plainGet K C Str.empty = true)
    (hd : PySem.W.hasDictIn K C = true)
    (po : PySem.W.plainOver K C = true)
    (sa : PySem.W.findIn K (.ref C) "__setattr__" = some (some (.builtin "object.__setattr__")))
    (mk : PySem.W.makesIn K C = true)
    (kc : PySem.W.keepIn K (.ref C) = true)
    (nF_fields : PySem.W.findIn K (.ref C) "fields" = some none)
    (nF_parents : PySem.W.findIn K (.ref C) "parents" = some none)
    (nF_kinds : PySem.W.findIn K (.ref C) "kinds" = some none)
    (mf : PySem.W.nsIn K mainGlobals "MOST_FIELDS" = some (some (.int 16 tM)))
    (z_len : PySem.W.nsIn K mainGlobals "len" = some none)
    (z_abs : PySem.W.nsIn K mainGlobals "abs" = some none)
    (z_int : PySem.W.nsIn K mainGlobals "int" = some none)
    (z_tuple : PySem.W.nsIn K mainGlobals "tuple" = some none)
    (z_list : PySem.W.nsIn K mainGlobals "list" = some none)
    (z_range : PySem.W.nsIn K mainGlobals "range" = some none)
    (z_min : PySem.W.nsIn K mainGlobals "min" = some none)
    (z_isinstance : PySem.W.nsIn K mainGlobals "isinstance" = some none)
    (z_bool : PySem.W.nsIn K mainGlobals "bool" = some none)
    (z_valueError : PySem.W.nsIn K mainGlobals "ValueError" = some none)
    (z_super : PySem.W.nsIn K mainGlobals "super" = some none)
    (z_tp : PySem.W.nsIn K cStatics "thirdparty.any" = some none)
    (aF : PySem.W.nsIn K mainGlobals "FieldridesError" = some (some (.ref CF)))
    (aM : PySem.W.nsIn K mainGlobals "Marked" = some (some (.ref CM)))
    (aN : PySem.W.nsIn K mainGlobals "NoRecord" = some (some (.ref CN)))
    (aR : PySem.W.nsIn K mainGlobals "BadRecord" = some (some (.ref CR)))
    (xR : K.lookup CR = some (excClassObj nmR qR CR NR bsR [.ref CF, .type "ValueError", .type "Exception", .type "BaseException", .type "object"] true snR subR abR colR ddR r0R r1R r2R r3R r5R "ValueError.__new__"))
    (saR : PySem.W.findIn K (.ref CR) "__setattr__" = some (some (.builtin "object.__setattr__")))
    (noR : PySem.W.findIn K (.ref CR) "record" = some none)
    (iR : PySem.W.findIn K (.ref CR) "__init__" = some (some (.ref fR)))
    (tiR : PySem.W.typeIn K (.ref fR) = some (.type "function"))
    (kCR : PySem.W.keepIn K (.ref CR) = true)
    (suR : PySem.W.ks_superIn K CR CR "__init__" = some (some (.builtin "ValueError.__init__")))
    (lR : K.lookup fR = some ⟨cR, oR, .func (PySem.W.ksFn "__init__" "BadRecord.__init__" (defArgs (K42X.sI true)) (defBody (K42X.sI true)) (defScope (K42X.sI true)) .none .none dR mR pR (.ref daR) tR ccR), uR⟩)
    (hR : PySem.W.codeIn K (.ref daR) "BadRecord.__init__" = true)
    (ldR : K.lookup daR = some ⟨cdR, odR, .fields vsR, udR⟩)
    (v2R : vsR[2]? = some (.str fileR tfR))
    (fiR : ((P.main.file : Str) == fileR) = true)
    (lcR : K.lookup ccR = some ⟨clR, ocR, .cell (some (.ref CR)), ucR⟩)
    (aP : PySem.W.nsIn K mainGlobals "BadPlace" = some (some (.ref CP)))
    (xP : K.lookup CP = some (excClassObj nmP qP CP NP bsP [.ref CF, .type "ValueError", .type "Exception", .type "BaseException", .type "object"] true snP subP abP colP ddP r0P r1P r2P r3P r5P "ValueError.__new__"))
    (saP : PySem.W.findIn K (.ref CP) "__setattr__" = some (some (.builtin "object.__setattr__")))
    (noP : PySem.W.findIn K (.ref CP) "place" = some none)
    (iP : PySem.W.findIn K (.ref CP) "__init__" = some (some (.ref fP)))
    (tiP : PySem.W.typeIn K (.ref fP) = some (.type "function"))
    (kCP : PySem.W.keepIn K (.ref CP) = true)
    (suP : PySem.W.ks_superIn K CP CP "__init__" = some (some (.builtin "ValueError.__init__")))
    (lP : K.lookup fP = some ⟨cP, oP, .func (PySem.W.ksFn "__init__" "BadPlace.__init__" (defArgs (K42X.sI false)) (defBody (K42X.sI false)) (defScope (K42X.sI false)) .none .none dP mP pP (.ref daP) tP ccP), uP⟩)
    (hP : PySem.W.codeIn K (.ref daP) "BadPlace.__init__" = true)
    (ldP : K.lookup daP = some ⟨cdP, odP, .fields vsP, udP⟩)
    (v2P : vsP[2]? = some (.str fileP tfP))
    (fiP : ((P.main.file : Str) == fileP) = true)
    (lcP : K.lookup ccP = some ⟨clP, ocP, .cell (some (.ref CP)), ucP⟩)
    (nq : PySem.W.excIn K CN [.type "ValueError", .type "Exception", .type "BaseException", .type "object"] "ValueError.__new__" = true)
    (nk : PySem.W.keepIn K (.ref CN) = true)
    (gaR : PySem.W.findIn K (.ref CR) "__getattribute__" = some (some (.builtin "BaseException.__getattribute__")))
    (ggR : PySem.W.findIn K (.ref CR) "__getattr__" = some none)
    (exR : PySem.W.subIn K (.ref CR) (.type "BaseException") = some true)
    (hdR : PySem.W.hasDictIn K CR = true)
    (tyR : PySem.W.typeIn K (.ref CR) = some (.type "type"))
    (caR : PySem.W.findIn K (.ref CR) "__class__" = some (some (.builtin "object.__class__")))
    (moR : PySem.W.mroIn K CR (.type "object") = some true)
    (veR : PySem.W.subIn K (.ref CR) (.type "ValueError") = some true)
    (feR : PySem.W.subIn K (.ref CR) (.ref CF) = some true)
    (slR : PySem.W.subIn K (.ref CR) (.ref CR) = some true)
    (gaP : PySem.W.findIn K (.ref CP) "__getattribute__" = some (some (.builtin "BaseException.__getattribute__")))
    (ggP : PySem.W.findIn K (.ref CP) "__getattr__" = some none)
    (exP : PySem.W.subIn K (.ref CP) (.type "BaseException") = some true)
    (hdP : PySem.W.hasDictIn K CP = true)
    (tyP : PySem.W.typeIn K (.ref CP) = some (.type "type"))
    (caP : PySem.W.findIn K (.ref CP) "__class__" = some (some (.builtin "object.__class__")))
    (moP : PySem.W.mroIn K CP (.type "object") = some true)
    (veP : PySem.W.subIn K (.ref CP) (.type "ValueError") = some true)
    (feP : PySem.W.subIn K (.ref CP) (.ref CF) = some true)
    (slP : PySem.W.subIn K (.ref CP) (.ref CP) = some true)
    (gaN : PySem.W.findIn K (.ref CN) "__getattribute__" = some (some (.builtin "BaseException.__getattribute__")))
    (ggN : PySem.W.findIn K (.ref CN) "__getattr__" = some none)
    (exN : PySem.W.subIn K (.ref CN) (.type "BaseException") = some true)
    (hdN : PySem.W.hasDictIn K CN = true)
    (tyN : PySem.W.typeIn K (.ref CN) = some (.type "type"))
    (caN : PySem.W.findIn K (.ref CN) "__class__" = some (some (.builtin "object.__class__")))
    (moN : PySem.W.mroIn K CN (.type "object") = some true)
    (veN : PySem.W.subIn K (.ref CN) (.type "ValueError") = some true)
    (feN : PySem.W.subIn K (.ref CN) (.ref CF) = some true)
    (slN : PySem.W.subIn K (.ref CN) (.ref CN) = some true)
    (hn : PySem.W.specialIn K (.builtin "object.__class__") "__get__" = some (some (.builtin "getset_descriptor.__get__")))
    (ht : PySem.W.takesIn K (.builtin "object.__class__") = some true)
    (fex : PySem.W.subIn K (.ref CF) (.type "BaseException") = some true)
    (fhd : PySem.W.hasDictIn K CF = true)
    (fty : PySem.W.typeIn K (.ref CF) = some (.type "type"))
    (mhd : PySem.W.hasDictIn K CM = true)
    (mty : PySem.W.typeIn K (.ref CM) = some (.type "type"))
    (dNR : PySem.W.subIn K (.ref CN) (.ref CR) = some false)
    (dNP : PySem.W.subIn K (.ref CN) (.ref CP) = some false)
    (dRN : PySem.W.subIn K (.ref CR) (.ref CN) = some false)
    (dRP : PySem.W.subIn K (.ref CR) (.ref CP) = some false)
    (dPN : PySem.W.subIn K (.ref CP) (.ref CN) = some false)
    (dPR : PySem.W.subIn K (.ref CP) (.ref CR) = some false)
    (dPM : PySem.W.subIn K (.ref CP) (.ref CM) = some false)
    (ft : (P.main.scope.names.lookup ("super" : Str)).isSome = false)
    (aL : PySem.W.nsIn K mainGlobals "law" = some (some (.ref fL)))
    (lL : K.lookup fL = some ⟨cL, oL, .func (PySem.W.fnOf "law" "law" (defArgs sLaw) (defBody sLaw) (defScope sLaw) .none vL dL mL pL eL tL), uL⟩)
    (hL : PySem.W.codeIn K eL "law" = true)
    (kL : PySem.W.keepIn K (.ref fL) = true) :
    ∃ fd : FuncData, (∀ (s : Shared) (u : Value), BindsTo s fd ⟨[u], []⟩ [("_law_script", u)]) ∧ ∀ base : Heap, K.In base → base.Ns mainGlobals mg → FnOk P w K mg base CX0 8 fa fd ["_law_script"] (spLaw K) := by
  have e := hfa.symm.trans (PySem.W.mg_of X G aL)
  cases e
  have T_better : Tx K mg "better" sBetter ["kind", "value", "other"] := tx_mk X G a1 l1 h1 k1 fun _ _ _ _ _ _ us hl => match us, hl with | [_, _, _], _ => rfl
  have T_path_of : Tx K mg "path_of" sPathOf ["parents", "field"] := tx_mk X G a2 l2 h2 k2 fun _ _ _ _ _ _ us hl => match us, hl with | [_, _], _ => rfl
  have T_best_of : Tx K mg "best_of" sBestOf ["kind", "field", "records"] := tx_mk X G a3 l3 h3 k3 fun _ _ _ _ _ _ us hl => match us, hl with | [_, _, _], _ => rfl
  have T_end_of_row : Tx K mg "end_of_row" sEndRow ["parents", "kinds", "records"] := tx_mk X G a4 l4 h4 k4 fun _ _ _ _ _ _ us hl => match us, hl with | [_, _, _], _ => rfl
  have T_check_record : Tx K mg "check_record" sChkRec ["fields", "record"] := tx_mk X G a5 l5 h5 k5 fun _ _ _ _ _ _ us hl => match us, hl with | [_, _], _ => rfl
  have T_check_records : Tx K mg "check_records" sChkRecs ["fields", "records"] := tx_mk X G a6 l6 h6 k6 fun _ _ _ _ _ _ us hl => match us, hl with | [_, _], _ => rfl
  have T_check_place : Tx K mg "check_place" sChkPl ["fields", "place"] := tx_mk X G a7 l7 h7 k7 fun _ _ _ _ _ _ us hl => match us, hl with | [_, _], _ => rfl
  have T_row_end : Tx K mg "row_end" sRowEnd ["forest", "records"] := tx_mk X G a8 l8 h8 k8 fun _ _ _ _ _ _ us hl => match us, hl with | [_, _], _ => rfl
  have T_can_strike : Tx K mg "can_strike" sStrike ["forest", "records", "index"] := tx_mk X G a9 l9 h9 k9 fun _ _ _ _ _ _ us hl => match us, hl with | [_, _, _], _ => rfl
  have T_never_ends : Tx K mg "never_ends" sNever ["parents", "field"] := tx_mk X G a10 l10 h10 k10 fun _ _ _ _ _ _ us hl => match us, hl with | [_, _], _ => rfl
  have T_check_shape : Tx K mg "check_shape" sShape ["parents", "kinds"] := tx_mk X G a11 l11 h11 k11 fun _ _ _ _ _ _ us hl => match us, hl with | [_, _], _ => rfl
  have T__law_tape : Tx K mg "_law_tape" sTape ["_law_script", "_law_k"] := tx_mk X G a12 l12 h12 k12 fun _ _ _ _ _ _ us hl => match us, hl with | [_, _], _ => rfl
  have T__law_take : Tx K mg "_law_take" sTake ["_law_tape_here", "_law_size"] := tx_mk X G a13 l13 h13 k13 fun _ _ _ _ _ _ us hl => match us, hl with | [_, _], _ => rfl
  have T__law_value : Tx K mg "_law_value" sValue ["_law_tape_here", "_law_span"] := tx_mk X G a14 l14 h14 k14 fun _ _ _ _ _ _ us hl => match us, hl with | [_, _], _ => rfl
  have T__law_record : Tx K mg "_law_record" sRecord ["_law_tape_here", "_law_n", "_law_span"] := tx_mk X G a15 l15 h15 k15 fun _ _ _ _ _ _ us hl => match us, hl with | [_, _, _], _ => rfl
  have T__law_turns : Tx K mg "_law_turns" sTurns ["_law_tape_here", "_law_n"] := tx_mk X G a16 l16 h16 k16 fun _ _ _ _ _ _ us hl => match us, hl with | [_, _], _ => rfl
  have T__law_parents : Tx K mg "_law_parents" sParents ["_law_tape_here", "_law_n"] := tx_mk X G a17 l17 h17 k17 fun _ _ _ _ _ _ us hl => match us, hl with | [_, _], _ => rfl
  have T__law_kinds : Tx K mg "_law_kinds" sKinds ["_law_tape_here", "_law_parents_here", "_law_fair"] := tx_mk X G a18 l18 h18 k18 fun _ _ _ _ _ _ us hl => match us, hl with | [_, _, _], _ => rfl
  have T__law_path : Tx K mg "_law_path" sPath ["_law_parents_here", "_law_field"] := tx_mk X G a19 l19 h19 k19 fun _ _ _ _ _ _ us hl => match us, hl with | [_, _], _ => rfl
  have T__law_side : Tx K mg "_law_side" sSide ["_law_parents_here", "_law_kinds_here", "_law_field", "_law_older", "_law_newer"] := tx_mk X G a20 l20 h20 k20 fun _ _ _ _ _ _ us hl => match us, hl with | [_, _, _, _, _], _ => rfl
  have T__law_merge : Tx K mg "_law_merge" sMerge ["_law_parents_here", "_law_kinds_here", "_law_older", "_law_newer"] := tx_mk X G a21 l21 h21 k21 fun _ _ _ _ _ _ us hl => match us, hl with | [_, _, _, _], _ => rfl
  have T__law_fold : Tx K mg "_law_fold" sFold ["_law_parents_here", "_law_kinds_here", "_law_records"] := tx_mk X G a22 l22 h22 k22 fun _ _ _ _ _ _ us hl => match us, hl with | [_, _, _], _ => rfl
  have T__law_is_integer : Tx K mg "_law_is_integer" sIsInt ["_law_actual"] := tx_mk X G a23 l23 h23 k23 fun _ _ _ _ _ _ us hl => match us, hl with | [_], _ => rfl
  have T__law_is_record : Tx K mg "_law_is_record" sIsRec ["_law_actual", "_law_n"] := tx_mk X G a24 l24 h24 k24 fun _ _ _ _ _ _ us hl => match us, hl with | [_, _], _ => rfl
  have T__law_fields : Tx K mg "_law_fields" sFields ["_law_tape_here"] := tx_mk X G a25 l25 h25 k25 fun _ _ _ _ _ _ us hl => match us, hl with | [_], _ => rfl
  have T__law_row : Tx K mg "_law_row" sRow ["_law_script", "_law_parents_here", "_law_count", "_law_span"] := tx_mk X G a26 l26 h26 k26 fun _ _ _ _ _ _ us hl => match us, hl with | [_, _, _, _], _ => rfl
  have T__law_twice : Tx K mg "_law_twice" sTwice ["_law_tape_here", "_law_records"] := tx_mk X G a27 l27 h27 k27 fun _ _ _ _ _ _ us hl => match us, hl with | [_, _], _ => rfl
  have T__law_long : Tx K mg "_law_long" sLong ["_law_tape_here", "_law_records", "_law_n"] := tx_mk X G a28 l28 h28 k28 fun _ _ _ _ _ _ us hl => match us, hl with | [_, _, _], _ => rfl
  have T__law_spoilt : Tx K mg "_law_spoilt" sSpoilt ["_law_tape_here", "_law_records", "_law_n"] := tx_mk X G a29 l29 h29 k29 fun _ _ _ _ _ _ us hl => match us, hl with | [_, _, _], _ => rfl
  have T__law_first_wrong : Tx K mg "_law_first_wrong" sFirst ["_law_records", "_law_n"] := tx_mk X G a30 l30 h30 k30 fun _ _ _ _ _ _ us hl => match us, hl with | [_, _], _ => rfl
  have T__law_due : Tx K mg "_law_due" sDue ["_law_parents_here", "_law_kinds_here", "_law_records", "_law_index"] := tx_mk X G a31 l31 h31 k31 fun _ _ _ _ _ _ us hl => match us, hl with | [_, _, _, _], _ => rfl
  have T__law_tells : Tx K mg "_law_tells" sTells ["_law_forest", "_law_parents_here", "_law_kinds_here", "_law_records", "_law_index"] := tx_mk X G a32 l32 h32 k32 fun _ _ _ _ _ _ us hl => match us, hl with | [_, _, _, _, _], _ => rfl
  have T__law_same_around : Tx K mg "_law_same_around" sAround ["_law_forest", "_law_parents_here", "_law_kinds_here", "_law_before", "_law_row_here", "_law_index", "_law_after"] := tx_mk X G a33 l33 h33 k33 fun _ _ _ _ _ _ us hl => match us, hl with | [_, _, _, _, _, _, _], _ => rfl
  have T__law_refused : Tx K mg "_law_refused" sRefused ["_law_forest", "_law_n", "_law_records", "_law_index"] := tx_mk X G a34 l34 h34 k34 fun _ _ _ _ _ _ us hl => match us, hl with | [_, _, _, _], _ => rfl
  have B : Bl mg := ⟨PySem.W.mg_none_of X G z_len, PySem.W.mg_none_of X G z_abs, PySem.W.mg_none_of X G z_int, PySem.W.mg_none_of X G z_tuple, PySem.W.mg_none_of X G z_list, PySem.W.mg_none_of X G z_range, PySem.W.mg_none_of X G z_min, PySem.W.mg_none_of X G z_isinstance, PySem.W.mg_none_of X G z_bool, PySem.W.mg_none_of X G z_valueError⟩
  have R : Er P K mg CR fR CP fP CN := {
    r := {
      gC := PySem.W.mg_of X G aR
      cls := ⟨_, _, _, _, _, _, _, _, _, _, _, _, _, _, _, xR, rfl⟩
      sa := saR
      ga := gaR
      gg := ggR
      noN := noR
      iC := iR
      tC := tiR
      kC := kCR
      exC := exR
      veC := veR
      tyC := tyR
      hdC := hdR
      slf := slR
      sup := suR
      gS := PySem.W.mg_none_of X G z_super
      th := z_tp
      ftop := ft
      fn := ⟨_, _, _, _, _, _, _, _, _, _, _, _, _, _, _, _, _, _, _, lR, hR, ldR, v2R, fiR, lcR⟩
    }
    p := {
      gC := PySem.W.mg_of X G aP
      cls := ⟨_, _, _, _, _, _, _, _, _, _, _, _, _, _, _, xP, rfl⟩
      sa := saP
      ga := gaP
      gg := ggP
      noN := noP
      iC := iP
      tC := tiP
      kC := kCP
      exC := exP
      veC := veP
      tyC := tyP
      hdC := hdP
      slf := slP
      sup := suP
      gS := PySem.W.mg_none_of X G z_super
      th := z_tp
      ftop := ft
      fn := ⟨_, _, _, _, _, _, _, _, _, _, _, _, _, _, _, _, _, _, _, lP, hP, ldP, v2P, fiP, lcP⟩
    }
    n := PySem.W.mg_of X G aN
    nq := nq
    nk := nk
    ne := exN
    nt := tyN }
  have Y : Ex P K mg CR CP CN CF CM := {
    gF := PySem.W.mg_of X G aF
    gM := PySem.W.mg_of X G aM
    r := ⟨gaR, ggR, exR, hdR, tyR, caR, moR, veR, feR, slR, hn, ht⟩
    p := ⟨gaP, ggP, exP, hdP, tyP, caP, moP, veP, feP, slP, hn, ht⟩
    n := ⟨gaN, ggN, exN, hdN, tyN, caN, moN, veN, feN, slN, hn, ht⟩
    fex := fex
    fhd := fhd
    fty := fty
    mhd := mhd
    mty := mty
    nr_ := dNR
    np_ := dNP
    rn_ := dRN
    rp_ := dRP
    pn_ := dPN
    pr_ := dPR
    pm_ := dPM
    nr := noR
    np := noP }
  have Z : Fc K C := ⟨⟨pg, hd, po, sa⟩, nF_fields, nF_parents, nF_kinds⟩
  have FI := fun_mk (st := sFInit) lI hI kI
  have bI := FI.binds (ps := ["self", "parents", "kinds"]) fun _ _ _ _ _ _ us hl => match us, hl with | [_, _, _], _ => rfl
  refine ⟨PySem.W.fnOf "law" "law" (defArgs sLaw) (defBody sLaw) (defScope sLaw) .none vL dL mL pL eL tL, fun s u => .of_eq rfl, fun base _ _ => ?_⟩
  have D_better := df_better (P := P) (w := w) (base := base) T_better
  have D_path_of := df_path_of (P := P) (w := w) (base := base) T_path_of B
  have D_best_of := df_best_of (P := P) (w := w) (base := base) T_best_of B D_better
  have D_end_of_row := df_end_of_row (P := P) (w := w) (base := base) T_end_of_row B D_path_of D_best_of
  have D_check_record := df_check_record (P := P) (w := w) (base := base) T_check_record B R
  have D_check_records := df_check_records (P := P) (w := w) (base := base) T_check_records B R D_check_record
  have D_check_place := df_check_place (P := P) (w := w) (base := base) T_check_place B R
  have D_row_end := df_row_end (P := P) (w := w) (base := base) T_row_end Z D_check_records D_end_of_row
  have D_take : DTake P w K mg base := T__law_take.df fun f fd F => ok_take F B
  have D_tape : Df P w K mg base CX0 1 "_law_tape" ["_law_script", "_law_k"] (spTape K) := T__law_tape.df fun f fd F => ok_tape F B
  have D_value := df_value (P := P) (w := w) (base := base) T__law_value B D_take
  have D_is_integer := df_is_integer (P := P) (w := w) (base := base) T__law_is_integer B
  have H_is_integer := dfH_is_integer (P := P) (w := w) (base := base) T__law_is_integer B
  have D_is_record := df_is_record (P := P) (w := w) (base := base) T__law_is_record B D_is_integer
  have H_is_record := dfH_is_record (P := P) (w := w) (base := base) T__law_is_record B H_is_integer
  have D_record := df_record (P := P) (w := w) (base := base) T__law_record B D_value
  have D_turns := df_turns (P := P) (w := w) (base := base) T__law_turns B D_take
  have D_parents := df_parents (P := P) (w := w) (base := base) T__law_parents B D_take D_turns
  have D_kinds := df_kinds (P := P) (w := w) (base := base) T__law_kinds B D_take
  have D_path := df_path (P := P) (w := w) (base := base) T__law_path B
  have D_side := df_side (P := P) (w := w) (base := base) T__law_side B D_path
  have D_merge := df_merge (P := P) (w := w) (base := base) T__law_merge B D_side
  have D_fold := df_fold (P := P) (w := w) (base := base) T__law_fold B D_merge
  have D_fields := df_fields (P := P) (w := w) (base := base) T__law_fields B D_take
  have D_row := df_row (P := P) (w := w) (base := base) T__law_row B D_take D_tape D_record D_path
  have D_twice := df_twice (P := P) (w := w) (base := base) T__law_twice B D_take
  have D_long := df_long (P := P) (w := w) (base := base) T__law_long B D_take
  have D_spoilt := df_spoilt (P := P) (w := w) (base := base) T__law_spoilt B D_take D_record
  have D_first_wrong := df_first_wrong (P := P) (w := w) (base := base) T__law_first_wrong B
  have D_due := df_due (P := P) (w := w) (base := base) T__law_due B D_fold
  have D_can_strike := df_can_strike (P := P) (w := w) (base := base) T_can_strike B Z D_check_records D_check_place D_row_end
  have D_never_ends := df_never_ends (P := P) (w := w) (base := base) T_never_ends B
  have D_check_shape := df_check_shape (P := P) (w := w) (base := base) T_check_shape B ⟨_, PySem.W.mg_of X G mf⟩ D_never_ends
  have G_init : FnOk P w K mg base CX0 3 fI _ ["self", "parents", "kinds"] (spFInit C) := ok_finit FI B Z D_check_shape
  have D_tells := df_tells (P := P) (w := w) (base := base) T__law_tells B D_can_strike D_due
  have D_same_around := df_same_around (P := P) (w := w) (base := base) T__law_same_around B D_fold D_row_end D_is_record
  have D_refused := df_refused (P := P) (w := w) (base := base) T__law_refused B R Y D_can_strike D_first_wrong H_is_record H_is_integer
  exact ok_law (fun_mk (st := sLaw) lL hL kL) B ⟨mk, iI, nI, kc⟩ G_init (PySem.W.mg_of X G aC) bI D_tape D_take D_fields D_parents D_kinds D_row D_twice D_record D_refused D_tells D_due D_same_around D_spoilt D_can_strike D_long
end K42
open PySem PySem.W PyProof.Rows in
set_option maxRecDepth 100000 in
set_option maxHeartbeats 0 in
theorem PySem.Challenge.cw_fieldrides_k42_whole_strikes_holds : PySem.Challenge.rw_fieldrides_k42_whole_strikes.Holds := by
  w_on; o_law; k_head; (case hw => w_witness2)
  k_fill
  refine L2.walk_ofK (l := PySem.Challenge.rw_fieldrides_k42_whole_strikes) (n := 63) (k := 8) (x := "_law_script") (CX := L2.CX0) (sp := K42.spLaw) rfl (by decide) rfl ⟨rfl, by decide, by decide⟩ (fun w h Y => PySem.W.kIn_of Y) ?F (fun K H a ns _ _ hS => ⟨a, ns, rfl, hS, fun _ => rfl⟩) fun _ _ _ _ z => z
  case F =>
    intro w mg fa h KX G hmg
    refine' K42.all_mk KX G hmg ?a1 ?l1 ?h1 ?k1 ?a2 ?l2 ?h2 ?k2 ?a3 ?l3 ?h3 ?k3 ?a4 ?l4 ?h4 ?k4 ?a5 ?l5 ?h5 ?k5 ?a6 ?l6 ?h6 ?k6 ?a7 ?l7 ?h7 ?k7 ?a8 ?l8 ?h8 ?k8 ?a9 ?l9 ?h9 ?k9 ?a10 ?l10 ?h10 ?k10 ?a11 ?l11 ?h11 ?k11 ?a12 ?l12 ?h12 ?k12 ?a13 ?l13 ?h13 ?k13 ?a14 ?l14 ?h14 ?k14 ?a15 ?l15 ?h15 ?k15 ?a16 ?l16 ?h16 ?k16 ?a17 ?l17 ?h17 ?k17 ?a18 ?l18 ?h18 ?k18 ?a19 ?l19 ?h19 ?k19 ?a20 ?l20 ?h20 ?k20 ?a21 ?l21 ?h21 ?k21 ?a22 ?l22 ?h22 ?k22 ?a23 ?l23 ?h23 ?k23 ?a24 ?l24 ?h24 ?k24 ?a25 ?l25 ?h25 ?k25 ?a26 ?l26 ?h26 ?k26 ?a27 ?l27 ?h27 ?k27 ?a28 ?l28 ?h28 ?k28 ?a29 ?l29 ?h29 ?k29 ?a30 ?l30 ?h30 ?k30 ?a31 ?l31 ?h31 ?k31 ?a32 ?l32 ?h32 ?k32 ?a33 ?l33 ?h33 ?k33 ?a34 ?l34 ?h34 ?k34 ?aC ?iI ?nI ?lI ?hI ?kI ?pg ?hd ?po ?sa ?mk ?kc ?nF_fields ?nF_parents ?nF_kinds ?mf ?z_len ?z_abs ?z_int ?z_tuple ?z_list ?z_range ?z_min ?z_isinstance ?z_bool ?z_valueError ?z_super ?z_tp ?aF ?aM ?aN ?aR ?xR ?saR ?noR ?iR ?tiR ?kCR ?suR ?lR ?hR ?ldR ?v2R ?fiR ?lcR ?aP ?xP ?saP ?noP ?iP ?tiP ?kCP ?suP ?lP ?hP ?ldP ?v2P ?fiP ?lcP ?nq ?nk ?gaR ?ggR ?exR ?hdR ?tyR ?caR ?moR ?veR ?feR ?slR ?gaP ?ggP ?exP ?hdP ?tyP ?caP ?moP ?veP ?feP ?slP ?gaN ?ggN ?exN ?hdN ?tyN ?caN ?moN ?veN ?feN ?slN ?hn ?ht ?fex ?fhd ?fty ?mhd ?mty ?dNR ?dNP ?dRN ?dRP ?dPN ?dPR ?dPM ?ft ?aL ?lL ?hL ?kL
    (case a1 => k_is)
    (case l1 => k_is)
    (case h1 => k_is)
    (case k1 => k_is)
    (case a2 => k_is)
    (case l2 => k_is)
    (case h2 => k_is)
    (case k2 => k_is)
    (case a3 => k_is)
    (case l3 => k_is)
    (case h3 => k_is)
    (case k3 => k_is)
    (case a4 => k_is)
    (case l4 => k_is)
    (case h4 => k_is)
    (case k4 => k_is)
    (case a5 => k_is)
    (case l5 => k_is)
    (case h5 => k_is)
    (case k5 => k_is)
    (case a6 => k_is)
    (case l6 => k_is)
    (case h6 => k_is)
    (case k6 => k_is)
    (case a7 => k_is)
    (case l7 => k_is)
    (case h7 => k_is)
    (case k7 => k_is)
    (case a8 => k_is)
    (case l8 => k_is)
    (case h8 => k_is)
    (case k8 => k_is)
    (case a9 => k_is)
    (case l9 => k_is)
    (case h9 => k_is)
    (case k9 => k_is)
    (case a10 => k_is)
    (case l10 => k_is)
    (case h10 => k_is)
    (case k10 => k_is)
    (case a11 => k_is)
    (case l11 => k_is)
    (case h11 => k_is)
    (case k11 => k_is)
    (case a12 => k_is)
    (case l12 => k_is)
    (case h12 => k_is)
    (case k12 => k_is)
    (case a13 => k_is)
    (case l13 => k_is)
    (case h13 => k_is)
    (case k13 => k_is)
    (case a14 => k_is)
    (case l14 => k_is)
    (case h14 => k_is)
    (case k14 => k_is)
    (case a15 => k_is)
    (case l15 => k_is)
    (case h15 => k_is)
    (case k15 => k_is)
    (case a16 => k_is)
    (case l16 => k_is)
    (case h16 => k_is)
    (case k16 => k_is)
    (case a17 => k_is)
    (case l17 => k_is)
    (case h17 => k_is)
    (case k17 => k_is)
    (case a18 => k_is)
    (case l18 => k_is)
    (case h18 => k_is)
    (case k18 => k_is)
    (case a19 => k_is)
    (case l19 => k_is)
    (case h19 => k_is)
    (case k19 => k_is)
    (case a20 => k_is)
    (case l20 => k_is)
    (case h20 => k_is)
    (case k20 => k_is)
    (case a21 => k_is)
    (case l21 => k_is)
    (case h21 => k_is)
    (case k21 => k_is)
    (case a22 => k_is)
    (case l22 => k_is)
    (case h22 => k_is)
    (case k22 => k_is)
    (case a23 => k_is)
    (case l23 => k_is)
    (case h23 => k_is)
    (case k23 => k_is)
    (case a24 => k_is)
    (case l24 => k_is)
    (case h24 => k_is)
    (case k24 => k_is)
    (case a25 => k_is)
    (case l25 => k_is)
    (case h25 => k_is)
    (case k25 => k_is)
    (case a26 => k_is)
    (case l26 => k_is)
    (case h26 => k_is)
    (case k26 => k_is)
    (case a27 => k_is)
    (case l27 => k_is)
    (case h27 => k_is)
    (case k27 => k_is)
    (case a28 => k_is)
    (case l28 => k_is)
    (case h28 => k_is)
    (case k28 => k_is)
    (case a29 => k_is)
    (case l29 => k_is)
    (case h29 => k_is)
    (case k29 => k_is)
    (case a30 => k_is)
    (case l30 => k_is)
    (case h30 => k_is)
    (case k30 => k_is)
    (case a31 => k_is)
    (case l31 => k_is)
    (case h31 => k_is)
    (case k31 => k_is)
    (case a32 => k_is)
    (case l32 => k_is)
    (case h32 => k_is)
    (case k32 => k_is)
    (case a33 => k_is)
    (case l33 => k_is)
    (case h33 => k_is)
    (case k33 => k_is)
    (case a34 => k_is)
    (case l34 => k_is)
    (case h34 => k_is)
    (case k34 => k_is)
    (case aC => k_is)
    (case iI => k_is)
    (case nI => k_is)
    (case lI => k_is)
    (case hI => k_is)
    (case kI => k_is)
    (case pg => k_is)
    (case hd => k_is)
    (case po => k_is)
    (case sa => k_is)
    (case mk => k_is)
    (case kc => k_is)
    (case nF_fields => k_is)
    (case nF_parents => k_is)
    (case nF_kinds => k_is)
    (case mf => k_is)
    (case z_len => k_is)
    (case z_abs => k_is)
    (case z_int => k_is)
    (case z_tuple => k_is)
    (case z_list => k_is)
    (case z_range => k_is)
    (case z_min => k_is)
    (case z_isinstance => k_is)
    (case z_bool => k_is)
    (case z_valueError => k_is)
    (case z_super => k_is)
    (case z_tp => k_is)
    (case aF => k_is)
    (case aM => k_is)
    (case aN => k_is)
    (case aR => k_is)
    (case xR => k_is)
    (case saR => k_is)
    (case noR => k_is)
    (case iR => k_is)
    (case tiR => k_is)
    (case kCR => k_is)
    (case suR => ks_is)
    (case lR => k_is)
    (case hR => k_is)
    (case ldR => k_is)
    (case v2R => rfl)
    (case fiR => first | rfl | decide +kernel)
    (case lcR => k_is)
    (case aP => k_is)
    (case xP => k_is)
    (case saP => k_is)
    (case noP => k_is)
    (case iP => k_is)
    (case tiP => k_is)
    (case kCP => k_is)
    (case suP => ks_is)
    (case lP => k_is)
    (case hP => k_is)
    (case ldP => k_is)
    (case v2P => rfl)
    (case fiP => first | rfl | decide +kernel)
    (case lcP => k_is)
    (case nq => first | k_exc | k_is)
    (case nk => k_is)
    (case gaR => k_is)
    (case ggR => k_is)
    (case exR => k_is)
    (case hdR => k_is)
    (case tyR => k_is)
    (case caR => k_is)
    (case moR => k_is)
    (case veR => k_is)
    (case feR => k_is)
    (case slR => first | k_is | rfl)
    (case gaP => k_is)
    (case ggP => k_is)
    (case exP => k_is)
    (case hdP => k_is)
    (case tyP => k_is)
    (case caP => k_is)
    (case moP => k_is)
    (case veP => k_is)
    (case feP => k_is)
    (case slP => first | k_is | rfl)
    (case gaN => k_is)
    (case ggN => k_is)
    (case exN => k_is)
    (case hdN => k_is)
    (case tyN => k_is)
    (case caN => k_is)
    (case moN => k_is)
    (case veN => k_is)
    (case feN => k_is)
    (case slN => first | k_is | rfl)
    (case hn => k_is)
    (case ht => k_is)
    (case fex => k_is)
    (case fhd => k_is)
    (case fty => k_is)
    (case mhd => k_is)
    (case mty => k_is)
    (case dNR => k_is)
    (case dNP => k_is)
    (case dRN => k_is)
    (case dRP => k_is)
    (case dPN => k_is)
    (case dPR => k_is)
    (case dPM => k_is)
    (case ft => decide +kernel)
    (case aL => k_is)
    (case lL => k_is)
    (case hL => k_is)
    (case kL => k_is)
