import PyProof.Rows.All
import Wide.All
import OpenK.AllK
import Wide.FinOn
import PyProof.EqAt
import PyProof.EqKinds
import PyProof.TupleCall
import KE.KOwnIter
import KE.KDictIter
import HandS.ForMost
import HandS.Property
import HandS.MakeKwOnly
import HandS.IsInst
import HandS.Deep
import HandS.Conv
import HandS.DictComp
import HandS.DictTup
import HandS.TupLen
import HandS.Star
import HandS.Wide
import HandS.TupAny
import HandS.Walk
import HandS.GenList
import HandS.GenCall
import PySem.Challenge.RW_ownmarks_k16_whole_what_ranks_read
set_option Elab.async false
set_option linter.all false
set_option maxRecDepth 100000
set_option maxHeartbeats 2000000
/-! Plain mathematics of people, partings, pairs. -/
namespace OmM
variable {α β : Type} [DecidableEq α] [DecidableEq β]

/-- the unlike ones, by their first places -/
def unl (xs : List β) : List β := xs.foldl (fun acc x => if x ∈ acc then acc else acc ++ [x]) []
theorem unl_snoc (xs : List β) (x : β) : unl (xs ++ [x]) = if x ∈ unl xs then unl xs else unl xs ++ [x] := by
  unfold unl
  rw [List.foldl_append]
  rfl
/-- induction from the right -/
theorem snocInd {γ : Type} {P : List γ → Prop} (h0 : P []) (h1 : ∀ xs x, P xs → P (xs ++ [x])) (xs : List γ) : P xs := by
  have key : ∀ ys : List γ, P ys.reverse := by
    intro ys
    induction ys with
    | nil => exact h0
    | cons y ys ih => rw [List.reverse_cons]; exact h1 _ _ ih
  have := key xs.reverse
  rwa [List.reverse_reverse] at this
theorem mem_unl (xs : List β) : ∀ y, y ∈ unl xs ↔ y ∈ xs := by
  refine snocInd (P := fun xs => ∀ y, y ∈ unl xs ↔ y ∈ xs) ?_ ?_ xs
  · intro y; simp [unl]
  · intro xs x ih y
    rw [unl_snoc]
    by_cases h : x ∈ unl xs
    · rw [if_pos h, ih, List.mem_append, List.mem_singleton]
      constructor
      · exact Or.inl
      · rintro (h' | rfl)
        · exact h'
        · exact (ih _).mp h
    · rw [if_neg h, List.mem_append, List.mem_append, ih]
theorem nodup_unl (xs : List β) : (unl xs).Nodup := by
  refine snocInd (P := fun xs => (unl xs).Nodup) List.nodup_nil ?_ xs
  intro xs x ih
  rw [unl_snoc]
  by_cases h : x ∈ unl xs
  · rw [if_pos h]; exact ih
  · rw [if_neg h, List.nodup_append]
    refine ⟨ih, List.pairwise_singleton _ x, ?_⟩
    intro a ha b hb
    rw [List.mem_singleton] at hb
    subst hb
    rintro rfl
    exact h ha

/-- the list of the number n -/
def part (zs : List (α × β)) (n : β) : List α := (zs.filter fun z => decide (z.2 = n)).map (·.1)
def parted (zs : List (α × β)) : List (List α) := (unl (zs.map (·.2))).map (part zs)
theorem part_snoc (zs : List (α × β)) (z : α × β) (n : β) : part (zs ++ [z]) n = if z.2 = n then part zs n ++ [z.1] else part zs n := by
  unfold part
  rw [List.filter_append, List.map_append]
  by_cases h : z.2 = n
  · rw [if_pos h]; simp [h]
  · rw [if_neg h]; simp [h]
theorem part_ne {zs : List (α × β)} {n : β} (h : n ∈ zs.map (·.2)) : part zs n ≠ [] := by
  obtain ⟨z, hz, rfl⟩ := List.mem_map.mp h
  intro e
  have : z.1 ∈ part zs z.2 := List.mem_map.mpr ⟨z, List.mem_filter.mpr ⟨hz, by simp⟩, rfl⟩
  rw [e] at this
  cases this
theorem parted_ne {zs : List (α × β)} : ∀ one ∈ parted zs, one ≠ [] := by
  intro one h
  obtain ⟨n, hn, rfl⟩ := List.mem_map.mp h
  exact part_ne ((mem_unl _ _).mp hn)
theorem mem_parted {zs : List (α × β)} {one : List α} (h : one ∈ parted zs) : ∀ p ∈ one, p ∈ zs.map (·.1) := by
  intro p hp
  obtain ⟨n, hn, rfl⟩ := List.mem_map.mp h
  obtain ⟨z, hz, rfl⟩ := List.mem_map.mp hp
  exact List.mem_map.mpr ⟨z, (List.mem_filter.mp hz).1, rfl⟩
theorem cover_parted {zs : List (α × β)} {p : α} (h : p ∈ zs.map (·.1)) : ∃ one ∈ parted zs, p ∈ one := by
  obtain ⟨z, hz, rfl⟩ := List.mem_map.mp h
  refine ⟨part zs z.2, List.mem_map.mpr ⟨z.2, (mem_unl _ _).mpr (List.mem_map.mpr ⟨z, hz, rfl⟩), rfl⟩, ?_⟩
  exact List.mem_map.mpr ⟨z, List.mem_filter.mpr ⟨hz, by simp⟩, rfl⟩
/-- the first ones stand in the order of all -/
theorem heads_parted (zs : List (α × β)) : ((parted zs).map List.head?).Sublist (zs.map fun z => some z.1) := by
  refine snocInd (P := fun zs : List (α × β) => ((parted zs).map List.head?).Sublist (zs.map fun z => some z.1)) List.Sublist.slnil ?_ zs
  intro zs z ih
  have keep : ∀ n ∈ unl (zs.map (·.2)), (part (zs ++ [z]) n).head? = (part zs n).head? := by
    intro n hn
    rw [part_snoc]
    by_cases h : z.2 = n
    · rw [if_pos h]
      have hne := part_ne (zs := zs) ((mem_unl _ _).mp hn)
      cases hq : part zs n with
      | nil => exact absurd hq hne
      | cons a r => rfl
    · rw [if_neg h]
  have e1 : ((unl (zs.map (·.2))).map (part (zs ++ [z]))).map List.head? = (parted zs).map List.head? := by
    unfold parted
    rw [List.map_map, List.map_map]
    exact List.map_congr_left fun n hn => keep n hn
  unfold parted
  rw [List.map_append, List.map_append, List.map_singleton, unl_snoc]
  by_cases h : z.2 ∈ unl (zs.map (·.2))
  · rw [if_pos h, e1]
    exact ih.trans (List.sublist_append_left _ _)
  · rw [if_neg h, List.map_append, List.map_append, e1]
    refine List.Sublist.append ih ?_
    have hz : part (zs ++ [z]) z.2 = [z.1] := by
      rw [part_snoc, if_pos rfl]
      have : part zs z.2 = [] := by
        unfold part
        rw [List.map_eq_nil_iff, List.filter_eq_nil_iff]
        intro y hy
        simp only [decide_eq_true_eq]
        intro e
        exact h ((mem_unl _ _).mpr (List.mem_map.mpr ⟨y, hy, e⟩))
      rw [this]
      rfl
    simp [hz]
theorem perm_put {f g : β → List α} {n : β} {p : α} : ∀ {ns : List β}, ns.Nodup → n ∈ ns → (∀ m, m ≠ n → g m = f m) → g n = f n ++ [p] → (ns.map g).flatten.Perm ((ns.map f).flatten ++ [p])
  | [], _, h, _, _ => by cases h
  | m :: ns, nd, h, h1, h2 => by
    rw [List.map_cons, List.map_cons, List.flatten_cons, List.flatten_cons, List.append_assoc]
    obtain ⟨hm, nd'⟩ := List.nodup_cons.mp nd
    by_cases e : m = n
    · subst e
      have : ns.map g = ns.map f := List.map_congr_left fun a ha => h1 a (fun e => hm (e ▸ ha))
      rw [this, h2, List.append_assoc]
      exact List.Perm.append_left _ List.perm_append_comm
    · rw [h1 m e]
      rcases List.mem_cons.mp h with e' | h'
      · exact absurd e'.symm e
      · exact List.Perm.append_left _ (perm_put nd' h' h1 h2)
theorem perm_parted (zs : List (α × β)) : (parted zs).flatten.Perm (zs.map (·.1)) := by
  refine snocInd (P := fun zs : List (α × β) => (parted zs).flatten.Perm (zs.map (·.1))) (List.Perm.refl _) ?_ zs
  intro zs z ih
  unfold parted
  rw [List.map_append, List.map_append, List.map_singleton, List.map_singleton, unl_snoc]
  by_cases h : z.2 ∈ unl (zs.map (·.2))
  · rw [if_pos h]
    refine (perm_put (f := part zs) (n := z.2) (p := z.1) (nodup_unl _) h (fun m hm => ?_) ?_).trans (List.Perm.append_right _ ih)
    · rw [part_snoc, if_neg (Ne.symm hm)]
    · rw [part_snoc, if_pos rfl]
  · rw [if_neg h, List.map_append, List.flatten_append, List.map_singleton, List.flatten_cons, List.flatten_nil, List.append_nil]
    have e1 : (unl (zs.map (·.2))).map (part (zs ++ [z])) = parted zs := List.map_congr_left fun n hn => by
      rw [part_snoc, if_neg (fun e => h (by rw [e]; exact hn))]
    have e2 : part (zs ++ [z]) z.2 = [z.1] := by
      rw [part_snoc, if_pos rfl]
      have : part zs z.2 = [] := by
        unfold part
        rw [List.map_eq_nil_iff, List.filter_eq_nil_iff]
        intro y hy
        simp only [decide_eq_true_eq]
        intro e
        exact h ((mem_unl _ _).mpr (List.mem_map.mpr ⟨y, hy, e⟩))
      rw [this]
      rfl
    rw [e1, e2]
    exact List.Perm.append_right _ ih
/-- each list is what stands of it among all, in order -/
theorem part_filter {zs : List (α × β)} (hn : (zs.map (·.1)).Nodup) {one : List α} (h : one ∈ parted zs) : (zs.map (·.1)).filter (fun p => decide (p ∈ one)) = one := by
  obtain ⟨n, _, rfl⟩ := List.mem_map.mp h
  have key : ∀ ys : List (α × β), (∀ y ∈ ys, y ∈ zs) → (ys.map (·.1)).filter (fun p => decide (p ∈ part zs n)) = part ys n := by
    intro ys
    induction ys with
    | nil => intro _; rfl
    | cons y ys ih =>
      intro hs
      have ih' := ih fun y' hy' => hs y' (List.mem_cons_of_mem _ hy')
      have hy := hs y List.mem_cons_self
      rw [List.map_cons, List.filter_cons, ih']
      by_cases e : y.2 = n
      · have : y.1 ∈ part zs n := List.mem_map.mpr ⟨y, List.mem_filter.mpr ⟨hy, by simp [e]⟩, rfl⟩
        rw [if_pos (by simpa using this)]
        simp [part, List.filter_cons, e]
      · have : y.1 ∉ part zs n := by
          intro hm
          obtain ⟨z, hz, ez⟩ := List.mem_map.mp hm
          obtain ⟨hz1, hz2⟩ := List.mem_filter.mp hz
          simp only [decide_eq_true_eq] at hz2
          have : z = y := by
            have inj : ∀ l : List (α × β), (l.map (·.1)).Nodup → ∀ a ∈ l, ∀ b ∈ l, a.1 = b.1 → a = b := by
              intro l
              induction l with
              | nil => intro _ a ha; cases ha
              | cons c l ihl =>
                intro hl a ha b hb eab
                rw [List.map_cons, List.nodup_cons] at hl
                rcases List.mem_cons.mp ha with ea | ha
                · rcases List.mem_cons.mp hb with eb | hb
                  · rw [ea, eb]
                  · exact absurd (List.mem_map.mpr ⟨b, hb, by rw [← eab, ea]⟩) hl.1
                · rcases List.mem_cons.mp hb with eb | hb
                  · exact absurd (List.mem_map.mpr ⟨a, ha, by rw [eab, eb]⟩) hl.1
                  · exact ihl hl.2 a ha b hb eab
            exact inj zs hn z hz1 y hy ez
          rw [this] at hz2
          exact e hz2
        rw [if_neg (by simpa using this)]
        simp [part, List.filter_cons, e]
  exact key zs fun _ h => h

/-! ### a parting: what is wanted of lists -/
structure Parting (ps : List α) (ls : List (List α)) : Prop where
  ne : ∀ one ∈ ls, one ≠ []
  perm : ls.flatten.Perm ps
  heads : (ls.map List.head?).Sublist (ps.map some)
  same : ∀ one ∈ ls, ps.filter (fun p => decide (p ∈ one)) = one
theorem parting_parted {zs : List (α × β)} (hn : (zs.map (·.1)).Nodup) : Parting (zs.map (·.1)) (parted zs) where
  ne := parted_ne
  perm := perm_parted zs
  heads := by
    have := heads_parted zs
    rw [List.map_map]
    exact this
  same := fun one h => part_filter hn h
theorem Parting.mem {ps : List α} {ls : List (List α)} (x : Parting ps ls) {one : List α} (h : one ∈ ls) {p : α} (hp : p ∈ one) : p ∈ ps :=
  x.perm.mem_iff.mp (List.mem_flatten.mpr ⟨one, h, hp⟩)
theorem Parting.has {ps : List α} {ls : List (List α)} (x : Parting ps ls) {p : α} (h : p ∈ ps) : ∃ one ∈ ls, p ∈ one :=
  List.mem_flatten.mp (x.perm.mem_iff.mpr h)
/-- the list of somebody -/
def listOf (ls : List (List α)) (p : α) : List α := ((ls.filter fun one => decide (p ∈ one)).head?).getD []
theorem Parting.listOf_some {ps : List α} {ls : List (List α)} (x : Parting ps ls) {p : α} (h : p ∈ ps) : ∃ r, ls.filter (fun one => decide (p ∈ one)) = listOf ls p :: r := by
  obtain ⟨one, h1, h2⟩ := x.has h
  unfold listOf
  cases e : ls.filter fun one => decide (p ∈ one) with
  | nil =>
    have := List.filter_eq_nil_iff.mp e one h1
    simp [h2] at this
  | cons a r => exact ⟨r, rfl⟩
theorem Parting.listOf_mem {ps : List α} {ls : List (List α)} (x : Parting ps ls) {p : α} (h : p ∈ ps) : listOf ls p ∈ ls ∧ p ∈ listOf ls p := by
  obtain ⟨r, e⟩ := x.listOf_some h
  have : listOf ls p ∈ ls.filter fun one => decide (p ∈ one) := by rw [e]; exact List.mem_cons_self
  obtain ⟨a, b⟩ := List.mem_filter.mp this
  exact ⟨a, by simpa using b⟩

/-! ### lists in order -/
def firstOf (ps one : List α) : Option α := (ps.filter fun p => decide (p ∈ one)).head?
/-- one person's turn -/
def lioAt (ps : List α) (ls : List (List α)) (p : α) : List (List α) := (ls.filter fun one => decide (p ∈ one) && decide (some p = firstOf ps one)).map fun one => ps.filter fun q => decide (q ∈ one)
def lio (ps : List α) (ls : List (List α)) : List (List α) := ps.flatMap (lioAt ps ls)
theorem byHead {h : List α → Option α} : ∀ {ps : List α} {hs : List (Option α)}, hs.Sublist (ps.map some) → ps.Nodup → ∀ {ls : List (List α)}, ls.map h = hs → ps.flatMap (fun p => ls.filter fun one => decide (some p = h one)) = ls := by
  intro ps
  induction ps with
  | nil =>
    intro hs hsub _ ls e
    rw [List.map_nil] at hsub
    have := List.sublist_nil.mp hsub
    rw [this] at e
    rw [List.map_eq_nil_iff.mp e]
    rfl
  | cons p ps ih =>
    intro hs hsub nd ls e
    obtain ⟨hp, nd'⟩ := List.nodup_cons.mp nd
    rw [List.map_cons] at hsub
    have out : ∀ {ls' : List (List α)}, (ls'.map h).Sublist (ps.map some) → ls'.filter (fun one => decide (some p = h one)) = [] := by
      intro ls' hs'
      rw [List.filter_eq_nil_iff]
      intro one ho hd
      simp only [decide_eq_true_eq] at hd
      have h1 : h one ∈ ps.map some := hs'.subset (List.mem_map.mpr ⟨one, ho, rfl⟩)
      rw [← hd] at h1
      obtain ⟨q, hq, eq⟩ := List.mem_map.mp h1
      cases eq
      exact hp hq
    rw [List.flatMap_cons]
    cases hsub with
    | cons _ hsub' =>
      rw [out (by rw [e]; exact hsub'), List.nil_append]
      exact ih hsub' nd' e
    | cons_cons _ hsub' =>
      cases ls with
      | nil => cases e
      | cons one ls =>
        rw [List.map_cons] at e
        injection e with e1 e2
        rw [List.filter_cons, if_pos (by simp [e1]), out (by rw [e2]; exact hsub')]
        have : ps.flatMap (fun p => (one :: ls).filter fun one => decide (some p = h one)) = ps.flatMap (fun p => ls.filter fun one => decide (some p = h one)) := by
          unfold List.flatMap
          congr 1
          refine List.map_congr_left fun q hq => ?_
          rw [List.filter_cons, if_neg]
          simp only [decide_eq_true_eq, e1]
          intro z
          cases z
          exact hp hq
        rw [this, ih hsub' nd' e2]
        rfl
theorem Parting.lio {ps : List α} {ls : List (List α)} (x : Parting ps ls) (nd : ps.Nodup) : lio ps ls = ls := by
  have e : ∀ p, lioAt ps ls p = ls.filter fun one => decide (some p = List.head? one) := by
    intro p
    unfold lioAt
    have e1 : (ls.filter fun one => decide (p ∈ one) && decide (some p = firstOf ps one)) = ls.filter fun one => decide (some p = List.head? one) := by
      refine List.filter_congr fun one ho => ?_
      unfold firstOf
      rw [x.same one ho]
      by_cases h : some p = one.head?
      · have : p ∈ one := List.mem_of_head? h.symm
        simp [h, this]
      · simp [h]
    rw [e1]
    have : (ls.filter fun one => decide (some p = List.head? one)).map (fun one => ps.filter fun q => decide (q ∈ one)) = (ls.filter fun one => decide (some p = List.head? one)).map id := by
      refine List.map_congr_left fun one ho => ?_
      exact x.same one (List.mem_filter.mp ho).1
    rw [this, List.map_id]
  unfold OmM.lio
  have : ps.flatMap (lioAt ps ls) = ps.flatMap fun p => ls.filter fun one => decide (some p = List.head? one) := by
    congr 1
    funext p
    exact e p
  rw [this]
  exact byHead x.heads nd rfl

/-! ### pairs -/
def pairsAt (ps : List α) (a : α) : List (α × α) := (ps.filter fun b => decide (b ≠ a)).map fun b => (a, b)
def pairs (ps : List α) : List (α × α) := ps.flatMap (pairsAt ps)
theorem mem_pairs {ps : List α} {q : α × α} : q ∈ pairs ps ↔ q.1 ∈ ps ∧ q.2 ∈ ps ∧ q.2 ≠ q.1 := by
  unfold pairs pairsAt
  rw [List.mem_flatMap]
  constructor
  · rintro ⟨a, ha, hq⟩
    obtain ⟨b, hb, rfl⟩ := List.mem_map.mp hq
    obtain ⟨h1, h2⟩ := List.mem_filter.mp hb
    exact ⟨ha, h1, by simpa using h2⟩
  · rintro ⟨h1, h2, h3⟩
    exact ⟨q.1, h1, List.mem_map.mpr ⟨q.2, List.mem_filter.mpr ⟨h2, by simpa using h3⟩, rfl⟩⟩
theorem nodup_pairs {ps : List α} (nd : ps.Nodup) : (pairs ps).Nodup := by
  have key : ∀ as : List α, as.Nodup → (as.flatMap (pairsAt ps)).Nodup := by
    intro as
    induction as with
    | nil => intro _; exact List.nodup_nil
    | cons a as ih =>
      intro h
      obtain ⟨ha, h'⟩ := List.nodup_cons.mp h
      rw [List.flatMap_cons, List.nodup_append]
      refine ⟨?_, ih h', ?_⟩
      · unfold pairsAt
        refine List.Pairwise.map _ ?_ (nd.filter _)
        intro x y hxy e
        injection e with _ e2
        exact hxy e2
      · intro x hx y hy e
        subst e
        obtain ⟨b, _, rfl⟩ := List.mem_map.mp hx
        obtain ⟨c, hc, hy⟩ := List.mem_flatMap.mp hy
        obtain ⟨d, _, e⟩ := List.mem_map.mp hy
        injection e with e1 _
        exact ha (e1 ▸ hc)
  exact key ps nd

theorem filter_one {p : α} : ∀ {ps : List α}, ps.Nodup → p ∈ ps → ps.filter (fun b => decide (b = p)) = [p]
  | [], _, h => by cases h
  | c :: cs, nd, h => by
    obtain ⟨hc, nd'⟩ := List.nodup_cons.mp nd
    rw [List.filter_cons]
    by_cases e : c = p
    · subst e
      have : cs.filter (fun b => decide (b = c)) = [] := by
        rw [List.filter_eq_nil_iff]
        intro b hb hd
        simp only [decide_eq_true_eq] at hd
        exact hc (hd ▸ hb)
      rw [if_pos (by simp), this]
    · rcases List.mem_cons.mp h with e' | h'
      · exact absurd e'.symm e
      · rw [if_neg (by simpa using e)]
        exact filter_one nd' h'
/-! ### reads -/
structure Reads (ps : List α) (rs : List (α × α)) : Prop where
  eq : rs = (pairs ps).filter fun q => decide (q ∈ rs)
theorem reads_filter (ps : List α) (S : List (α × α)) : Reads ps ((pairs ps).filter fun q => decide (q ∈ S)) := by
  constructor
  refine List.filter_congr fun q hq => ?_
  simp [List.mem_filter, hq]
theorem Reads.mem {ps : List α} {rs : List (α × α)} (x : Reads ps rs) {q : α × α} (h : q ∈ rs) : q ∈ pairs ps := by
  rw [x.eq] at h
  exact (List.mem_filter.mp h).1
theorem Reads.nodup {ps : List α} {rs : List (α × α)} (x : Reads ps rs) (nd : ps.Nodup) : rs.Nodup := by
  rw [x.eq]
  exact (nodup_pairs nd).filter _
theorem Reads.filter {ps : List α} {rs : List (α × α)} (x : Reads ps rs) (P : α × α → Bool) : (pairs ps).filter (fun q => decide (q ∈ rs) && P q) = rs.filter P := by
  have : rs.filter P = ((pairs ps).filter fun q => decide (q ∈ rs)).filter P := by rw [← x.eq]
  rw [this, List.filter_filter]
  exact List.filter_congr fun q _ => Bool.and_comm _ _
/-- how many readers: told twice -/
theorem Reads.count {ps : List α} {rs : List (α × α)} (x : Reads ps rs) (nd : ps.Nodup) (p : α) :
    (rs.filter fun q => decide (q.2 = p)).length = (ps.filter fun a => decide ((a, p) ∈ rs)).length := by
  have e : (rs.filter fun q => decide (q.2 = p)) = (ps.filter fun a => decide ((a, p) ∈ rs)).map fun a => (a, p) := by
    rw [← x.filter]
    have key : ∀ as : List α, (∀ a ∈ as, a ∈ ps) → (as.flatMap (pairsAt ps)).filter (fun q => decide (q ∈ rs) && decide (q.2 = p)) = (as.filter fun a => decide ((a, p) ∈ rs)).map fun a => (a, p) := by
      intro as
      induction as with
      | nil => intro _; rfl
      | cons a as ih =>
        intro hs
        rw [List.flatMap_cons, List.filter_append, ih fun b hb => hs b (List.mem_cons_of_mem _ hb), List.filter_cons]
        have one : (pairsAt ps a).filter (fun q => decide (q ∈ rs) && decide (q.2 = p)) = if (a, p) ∈ rs then [(a, p)] else [] := by
          unfold pairsAt
          rw [List.filter_map, List.filter_filter]
          by_cases h : (a, p) ∈ rs
          · rw [if_pos h]
            have hm := mem_pairs.mp (x.mem h)
            have e2 : ps.filter (fun b => (((fun q : α × α => decide (q ∈ rs) && decide (q.2 = p)) ∘ fun b => (a, b)) b && decide (b ≠ a))) = ps.filter fun b => decide (b = p) := by
              refine List.filter_congr fun b _ => ?_
              simp only [Function.comp]
              by_cases e : b = p
              · subst e; simp [h, hm.2.2]
              · simp [e]
            rw [e2]
            have e3 : ps.filter (fun b => decide (b = p)) = [p] := by
              exact filter_one nd hm.2.1
            rw [e3]
            rfl
          · rw [if_neg h]
            rw [List.map_eq_nil_iff, List.filter_eq_nil_iff]
            intro b _ hb
            simp only [Function.comp, Bool.and_eq_true, decide_eq_true_eq] at hb
            obtain ⟨⟨h1, h2⟩, _⟩ := hb
            subst h2
            exact h h1
        rw [one]
        by_cases h : (a, p) ∈ rs
        · rw [if_pos h, if_pos (by simpa using h)]; rfl
        · rw [if_neg h, if_neg (by simpa using h)]; rfl
    exact key ps fun _ h => h
  rw [e, List.length_map]
end OmM
/-! Rules for own classes' in, not in, len, iter; dicts with tuple keys by a comprehension; locked dicts. -/
namespace Om
open PySem PySem.Spec PyProof.Rows L2

section
variable {X : Cx} {CX : CXT} {k : Nat} {f C : Addr} {fd : FuncData} {ps : List Str} {sp : Sp} {E : XK}
/-- x in o, o an instance whose class has __contains__ -/
def rInO (C : Addr) (sp : Sp) (E : XK) (neg : Bool) : R2 := fun x y H Q => ∃ a dx fs, y = .ref a ∧ H a = some (.ins C dx fs) ∧ sp [y, x] H (fun v H' => ∃ b, v = .bl b ∧ Q (.bl (if neg then !b else b)) H') E
theorem op_inO (hs : PySem.W.findIn X.K (.ref C) "__contains__" = some (some (.ref f))) (hf : PySem.W.isFn X.K (.ref f) = true) (F : FnOk X.prog X.w X.K X.mg X.base CX k f fd ps sp) (hr : Room k X.A) (hb : Binds X.K fd ps []) (hx : Passes CX X E) :
    OpR X (compareOp .In) (rInO C sp E false) := by
  intro pins s σ H x y v u Q I rx ry h
  obtain ⟨a, dx, fs, rfl, ea, q⟩ := h
  cases (show u = Value.ref a from ry)
  obtain ⟨mA, O, _⟩ := ins_get I.hok ea
  obtain ⟨od, J, _⟩ := O.look
  obtain ⟨m, hF⟩ := I.fr
  refine PySem.W.in_K hF I.ok.mod.kin J hs hf ?_
  refine wpAny_mono (run_fn (dvs := []) (ds := []) (us := [.ref a, v]) (vs := [.ref a, x]) F hr hb .nil hx I (.cons rfl (.cons rx .nil)) q) (fun r s' hq => ?_) fun _ _ z => z
  obtain ⟨z, H', I', rz, b, rfl, q'⟩ := hq
  cases (show r = Value.bool b from rz)
  exact wpAny_truthy_bool ⟨.bl b, H', I', rfl, q'⟩
theorem op_notInO (hs : PySem.W.findIn X.K (.ref C) "__contains__" = some (some (.ref f))) (hf : PySem.W.isFn X.K (.ref f) = true) (F : FnOk X.prog X.w X.K X.mg X.base CX k f fd ps sp) (hr : Room k X.A) (hb : Binds X.K fd ps []) (hx : Passes CX X E) :
    OpR X (compareOp .NotIn) (rInO C sp E true) := by
  intro pins s σ H x y v u Q I rx ry h
  obtain ⟨a, dx, fs, rfl, ea, q⟩ := h
  cases (show u = Value.ref a from ry)
  obtain ⟨mA, O, _⟩ := ins_get I.hok ea
  obtain ⟨od, J, _⟩ := O.look
  obtain ⟨m, hF⟩ := I.fr
  refine PySem.W.notIn_K hF I.ok.mod.kin J hs hf ?_
  refine wpAny_mono (run_fn (dvs := []) (ds := []) (us := [.ref a, v]) (vs := [.ref a, x]) F hr hb .nil hx I (.cons rfl (.cons rx .nil)) q) (fun r s' hq => ?_) fun _ _ z => z
  obtain ⟨z, H', I', rz, b, rfl, q'⟩ := hq
  cases (show r = Value.bool b from rz)
  exact wpAny_truthy_bool ⟨.bl (!b), H', I', rfl, q'⟩

/-- len(o), o an instance whose class has __len__ -/
def rLenO (C : Addr) (sp : Sp) (E : XK) : List V → Hp → VK → Prop := fun xs H Q => ∃ a dx fs, xs = [.ref a] ∧ H a = some (.ins C dx fs) ∧ sp [.ref a] H (fun v H' => ∃ n : Nat, v = .int n ∧ n < 1000000 ∧ Q (.int n) H') E
theorem call_lenO (hs : PySem.W.findIn X.K (.ref C) "__len__" = some (some (.ref f))) (hf : PySem.W.isFn X.K (.ref f) = true) (F : FnOk X.prog X.w X.K X.mg X.base CX k f fd ps sp) (hr : Room (k + 1) X.A) (hb : Binds X.K fd ps []) (hx : Passes CX X E) :
    CallR X (.builtin "len") (rLenO C sp E) := by
  intro pins s σ H xs us Q I r h
  obtain ⟨a, dx, fs, rfl, ea, q⟩ := h
  obtain ⟨u, rfl, ru⟩ := vals1 r
  cases (show u = Value.ref a from ru)
  obtain ⟨mA, O, _⟩ := ins_get I.hok ea
  obtain ⟨od, J, _⟩ := O.look
  obtain ⟨m, hF⟩ := I.fr
  refine PySem.W.len_K hF I.ok.mod.kin J hs hf ?_
  have hl : ([Value.ref a] ++ []).length = ps.length := by
    rw [← F.len _ _ _ _ q]
    all_goals rfl
  refine wpAny_call (codeAny_mono (F.run X.A.in1 X.stack s H ⟨[.ref a], []⟩ [.ref a] [.ref a] _ E hr.in1 I.env0.in1 (hb _ [.ref a] I.kIn hl) (.cons rfl .nil) q) fun r s' hq => ?_)
  cases r with
  | error er => exact hx pins σ H s er s' I hq
  | ok fl =>
    cases fl with
    | ret u =>
      obtain ⟨z, H', I', rz, n, rfl, hn, q'⟩ := I.after hq
      obtain ⟨t, rfl⟩ := (show ∃ t, u = Value.int (n : Int) t from rz)
      exact ⟨⟨by omega, by omega⟩, .int n, H', I'.tok _, ⟨_, rfl⟩, q'⟩
    | next => exact False.elim hq
    | brk => exact False.elim hq
    | cont => exact False.elim hq
end

/-! ### repr -/
section
variable {X : Cx}
/-- repr of data: its written form -/
def rReprD (K : PySem.W.Frag) : List V → Hp → VK → Prop := fun xs H Q => ∃ a d, xs = [.ref a] ∧ Dp K H (.ref a) d ∧ d.showable = true ∧ d.hasDict = false ∧ d.depth ≤ 32 ∧ d.shown.length ≤ sizeLine ∧ Q (.str d.shown) H
theorem call_reprD (hg : X.A.guards = some []) (hu : X.A.units + 64 < cLine) : CallR X (.builtin "repr") (rReprD X.K) := by
  intro pins s σ H xs us Q I r h
  obtain ⟨a, d, rfl, hd, h1, h2, h3, h4, q⟩ := h
  obtain ⟨u, rfl, ru⟩ := vals1 r
  cases (show u = Value.ref a from ru)
  obtain ⟨as, rd⟩ := Dp.reads I d (.ref a) (.ref a) hd rfl
  refine repr_of_reads' rd h1 (fun z => by rw [h2] at z; cases z) hg (by omega) (fun _ _ e => e) (fun h' u tk hk => ?_) h4
  exact ⟨.str d.shown, H, I.kept (t' := tk) hk, ⟨u, rfl⟩, q⟩
theorem call_reprB : CallR X (.builtin "repr") (fun xs H Q => ∃ b, xs = [.bl b] ∧ Q (.str (if b then "True" else "False")) H) := by
  intro pins s σ H xs us Q I r h
  obtain ⟨b, rfl, q⟩ := h
  obtain ⟨u, rfl, ru⟩ := vals1 r
  cases (show u = Value.bool b from ru)
  exact PySem.P.repr_of_bool ⟨.str _, H, I.tok _, ⟨_, rfl⟩, q⟩
end

/-! ### a thing is locked for good -/
def tFreeze (t : TS) : TS := fun D σ H => ∃ d u, H d = some u ∧ Mut (some u) ∧ ∀ od, t D σ (upd H d (.frz od u))
theorem pss_freeze {X : Cx} {sts : List Stmt} {t : TS} (h : PSs X sts t) : PSs X sts (tFreeze t) := by
  refine ⟨fun pins s σ H D I hw => ?_⟩
  obtain ⟨d, u, hd, mu, hw⟩ := hw
  obtain ⟨od, I1⟩ := I.lock hd mu
  exact h.run pins s σ _ D I1 (hw od)

/-! ### d[k] = v as a target -/
def tSetD : TSet := fun o i v H Q => ∃ a H', o = .ref a ∧ DPut H a i v H' ∧ Q H'
theorem set_dict {X : Cx} (hu : X.A.units + 1 < cLine) : PSet X tSetD := by
  intro pins s σ H o i v ov iv u Q I ro ri rv h
  obtain ⟨a, H', rfl, g, q⟩ := h
  cases (show ov = Value.ref a from ro)
  exact d_setItem hu I g ri rv fun s' I' => ⟨H', I', q⟩

/-! ### iter(d), d locked -/
section
variable {X : Cx}
def itO (it d : Addr) (n ep : Nat) : HO := .ext fun h => h.IsKeyIter it d 0 n ep
theorem itO_ok {P : Program} {w : World} {H : Hp} {h : Heap} {it d : Addr} {n ep : Nat} (e : h.IsKeyIter it d 0 n ep) : ObjOk P w H h it (itO it d n ep) := by
  obtain ⟨o, ho, c, dd⟩ := id e
  exact ⟨e, ⟨o, ho⟩, fun h1 h2 p k => p.at fun o q => k o q⟩
/-- iter(d): an iterator that stands at the first key -/
def rIterK (n0 : Nat) : List V → Hp → VK → Prop := fun xs H Q => ∃ d o es ep, xs = [.ref d] ∧ ((∃ kvs, H d = some (.frz o (.dK kvs))) ∨ ∃ kvs, H d = some (.frz o (.dT kvs))) ∧ o.data = .dict es ep ∧ ∀ it, H it = none → n0 ≤ it → Q (.ref it) (upd H it (itO it d es.size ep))
theorem call_iterK : CallR X (.builtin "iter") (rIterK X.s_0.heap.objs.size) := by
  intro pins s σ H xs us Q I r h
  obtain ⟨d, o, es, ep, rfl, hd, hdat, q⟩ := h
  obtain ⟨u, rfl, ru⟩ := vals1 r
  cases (show u = Value.ref d from ru)
  have hh : (d == sysModules) = false ∧ s.heap.get? d = some o ∧ o.ExactDict := by
    rcases hd with ⟨kvs, hd⟩ | ⟨kvs, hd⟩
    · obtain ⟨a, b, c, _⟩ := I.frzK hd; exact ⟨a, b, c⟩
    · obtain ⟨a, b, c, _⟩ := I.frzT hd; exact ⟨a, b, c⟩
  obtain ⟨hs, hgd, hx⟩ := hh
  refine Calls.call_function_entry (by decide +kernel) (by decide +kernel) PySem.W.kdk_entry_iter (PySem.W.kdk_args_iter _) ?_
  unfold Builtin.«iter»
  refine wpAny_bind (m := someArgs "iter" 1 2 _) (wpAny_of_eq (a := [Value.ref d]) (by first | rfl | kernel_rfl!) ?_)
  show wpAny _ _ (pyIter (.ref d) >>= _) _ _ _
  refine wpAny_bind (iter_keys hs hgd hx hdat ?_)
  refine wpAny_pure ⟨_, rfl, .ref s.heap.objs.size, upd H s.heap.objs.size (itO s.heap.objs.size d es.size ep), ?_, rfl, q _ (I.hok.fresh (Nat.le_refl _)) I.sz⟩
  exact I.laid (t' := s.toks) (fun b o e => Heap.get?_push_of_some _ e) (Nat.le_refl _) (itO_ok ⟨_, Heap.get?_push_size _ rfl, rfl, rfl⟩)
end

/-! ### a def whose promise may speak of what runs around it and of how large the heap was -/
structure FnG (P : Program) (w : World) (K : PySem.W.Frag) (mg : Str → Option Value) (base : Heap) (k : Nat) (f : Addr) (fd : FuncData) (ps : List Str) (sp : Around → Nat → Sp) : Prop where
  len : ∀ A n vs H Q E, sp A n vs H Q E → vs.length = ps.length
  run : ∀ (A : Around) (outer : List Env) (s : Shared) (H : Hp) (args : Args) (us : List Value) (vs : List V) (Q : VK) (E : XK), Room k A → Env0 P w K mg base A outer s H → BindsTo s fd args (ps.zip us) → Vals vs us → sp A s.heap.objs.size vs H Q E →
    codeAny (model P w) A (.call (.ref f) args) (CR CX0 outer P w H s Q E) s
theorem fn_ofG {P : Program} {w : World} {K : PySem.W.Frag} {mg : Str → Option Value} {base : Heap} {k : Nat} {f : Addr} {x qual : Str} {st : Stmt} {fd : FuncData} {N ps : List Str} {sp : Around → Nat → Sp} (F : Fun K x qual st f fd) (S : FnScope N ps (defScope st))
    (len : ∀ A n vs H Q E, sp A n vs H Q E → vs.length = ps.length)
    (hbody : ∀ (cdv : Value) (A : Around) (outer : List Env) (s : Shared) (H : Hp) (vs : List V) (Q : VK) (E : XK), Room k (A.deeper (envOfC qual (defScope st) s.heap.objs.size f cdv)) → sp A s.heap.objs.size vs H Q E →
      ∃ t, PSs (cxOf CX0 P w K mg base N qual (defScope st) f cdv A outer s H E).nox (defBody st) t ∧ t { nx := fun _ H' => Q .non H', rt := Q } (start N vs) H) :
    FnG P w K mg base (k + 1) f fd ps sp := by
  obtain ⟨oc, od, kV, doc, pm, an, cdv, ct, osl, rfl, lk, hcd⟩ := F.ex
  refine ⟨len, fun A outer s H args us vs Q E hr e0 hb r hsp => ?_⟩
  have hl := len _ _ _ _ _ _ hsp
  have KX : K.In s.heap := e0.mod.kin.keeps fun b o e => (e0.bs b o e).1
  have lim : s.heap.NoLimit := e0.mod.nolimit.keeps fun b o e => (e0.bs b o e).1
  have hkind : ∀ y ∈ ps.zip us, (defScope st).names.lookup y.1 = some .local ∨ ((defScope st).names.lookup y.1 = some .cell ∧ ((cellsFrom (s.heap.objs.size + 1) (defScope st).names []).lookup y.1).isSome = true) := fun ⟨n, v⟩ hy => by
    rcases S.par n (List.of_mem_zip hy).1 with q | q
    · exact .inl q
    · exact .inr ⟨q, PySem.W.cellsFrom_some _ _ _ (.inl q)⟩
  refine codeAny_call_function hr.depth (KX _ _ lk) rfl S.co S.gen rfl (PySem.W.codeRec_of KX hcd) (hb _ _ _ _ ?_)
  refine wpAny_newFunctionEnv_cells S.kind hkind fun env he s1 x => ?_
  subst he
  refine ⟨lim.keeps x.toInCall.keep, codeAny_func ?_⟩
  obtain ⟨t, ht, hq⟩ := hbody cdv A outer s H vs Q E (hr.deeper _) hsp
  have I : Inv (cxOf CX0 P w K mg base N qual (defScope st) f cdv A outer s H E) [] (start N vs) H s1 := inv_start S hr.hd e0 hl r x
  refine wpAny_mono (ht.nox.run [] s1 (start N vs) H _ I hq) (fun fl s' hs => ?_) fun e s' hs => hs
  have fin : ∀ {σ' : L2.St} {H' : Hp} {v : V} {u : Value}, Inv (cxOf CX0 P w K mg base N qual (defScope st) f cdv A outer s H E) [] σ' H' s' → RelV v u → Q v H' → CE outer P w H s Q u s' :=
    fun {σ' H' v u} J rv q => ⟨v, H', J.os, J.bare, J.base, J.hok, rv, q⟩
  cases fl with
  | ret u =>
    obtain ⟨v, σ', H', J, rv, q⟩ := hs
    exact fin J rv q
  | next =>
    obtain ⟨σ', H', J, q⟩ := hs
    exact fin (v := V.non) (u := Value.none) J rfl q
  | brk =>
    obtain ⟨_, _, _, q⟩ := hs
    exact False.elim q
  | cont =>
    obtain ⟨_, _, _, q⟩ := hs
    exact False.elim q

/-! ### an own __iter__ that gives the keys of a locked dict -/
/-- which attribute's dict, how large the heap was: the iterator is younger -/
def spIter (C : Addr) (f : Str) (n0 : Nat) : Sp := fun vs H Q _ => ∃ a dx fs d o es ep, vs = [.ref a] ∧ H a = some (.ins C dx fs) ∧ fs.lookup f = some (.ref d) ∧ ((∃ kvs, H d = some (.frz o (.dK kvs))) ∨ ∃ kvs, H d = some (.frz o (.dT kvs))) ∧ o.data = .dict es ep ∧
  ∀ it, H it = none → n0 ≤ it → Q (.ref it) (upd H it (itO it d es.size ep))
abbrev FnIt (P : Program) (w : World) (K : PySem.W.Frag) (mg : Str → Option Value) (base : Heap) (k : Nat) (g : Addr) (fd : FuncData) (C : Addr) (f : Str) : Prop := FnG P w K mg base k g fd ["self"] fun _ n0 => spIter C f n0
def iOwn (C : Addr) (f : Str) (te : TE) : TI := fun σ H R => te σ H fun x H1 => ∃ a dx fs d o, x = .ref a ∧ H1 a = some (.ins C dx fs) ∧ fs.lookup f = some (.ref d) ∧
  ((∃ kvs, H1 d = some (.frz o (.dK kvs)) ∧ R (Itk d o kvs) H1) ∨ ∃ kvs, H1 d = some (.frz o (.dT kvs)) ∧ R (Itkt d o kvs) H1)
section
variable {X : Cx} {k : Nat} {g C : Addr} {fd : FuncData} {f : Str}
theorem iter_own {pins : List (Addr × Obj)} {s : Shared} {σ : L2.St} {H : Hp} {a dx : Addr} {fs : List (Str × V)} {Q : Value → Shared → Prop} {E : Value → Shared → Prop} {d : Addr} {o : Obj} {es : Array DictEntry} {ep : Nat}
    (hs : PySem.W.findIn X.K (.ref C) "__iter__" = some (some (.ref g))) (hf : PySem.W.isFn X.K (.ref g) = true) (F : FnIt X.prog X.w X.K X.mg X.base k g fd C f) (hr : Room k X.A) (hb : Binds X.K fd ["self"] [])
    (I : Inv X pins σ H s) (ea : H a = some (.ins C dx fs)) (el : fs.lookup f = some (.ref d)) (hd : (∃ kvs, H d = some (.frz o (.dK kvs))) ∨ ∃ kvs, H d = some (.frz o (.dT kvs))) (hdat : o.data = .dict es ep)
    (hQ : ∀ it s2, Inv X pins σ H s2 → s2.heap.IsKeyIter it d 0 es.size ep → FpOk X pins H it → Q (.ref it) s2) :
    wpAny (model X.prog X.w) X.A (pyIter (.ref a)) Q E s := by
  obtain ⟨mA, O, _⟩ := ins_get I.hok ea
  obtain ⟨od, J, _⟩ := O.look
  obtain ⟨m, hF⟩ := I.fr
  refine PySem.W.owit_iter hF I.ok.mod.kin J hs hf ?_
  have e0 := I.env0
  refine wpAny_call (codeAny_mono (F.run X.A X.stack s H ⟨[.ref a], []⟩ [.ref a] [.ref a] (fun v H' => ∃ it, v = .ref it ∧ H it = none ∧ s.heap.objs.size ≤ it ∧ H' = upd H it (itO it d es.size ep)) E0 hr e0 (hb s [.ref a] I.kIn rfl) (.cons rfl .nil)
    ⟨a, dx, fs, d, o, es, ep, rfl, ea, el, hd, hdat, fun it hn hz => ⟨it, rfl, hn, hz, rfl⟩⟩) fun r s' hq => ?_)
  cases r with
  | error er => exact False.elim hq
  | ok fl =>
    cases fl with
    | ret u =>
      obtain ⟨v, H', os, bare, un, hok, rv, it, rfl, hn, hge, rfl⟩ := hq
      cases (show u = Value.ref it from rv)
      have hit : s'.heap.IsKeyIter it d 0 es.size ep := (hok it _ upd_same).1
      have I2 : Inv X pins σ H s' := by
        refine I.call' (ch := []) os ⟨un.keep, un.slot, fun b ob q n hx => n, un.there, fun b xs q => q, fun b ob x q => q, fun b ps q => ⟨#[], by rw [q]; simp⟩⟩ (fun b u q => ?_) bare fun b z => by simp at z
        have hb : b ≠ it := ne_of_none q hn
        refine (hok b u (by rw [upd_ne hb]; exact q)).stay (fun _ _ _ z => z) (fun c z => ?_) fun c xs z => ?_
        · by_cases hc : c = it
          · rw [hc, upd_same] at z; cases z
          · rw [upd_ne hc] at z; exact z
        · by_cases hc : c = it
          · rw [hc, upd_same] at z; cases z
          · rw [upd_ne hc] at z; exact z
      show PySem.W.OwitIt _ _ _ _ _ _
      unfold PySem.W.OwitIt
      exact wpAny_specialOf (name := Str.ofString "__next__") hit.typeIs PySem.F.slot_dict_keyiterator_next.lookup (hQ it s' I2 hit (I.fpOk hge hn))
    | next => exact False.elim hq
    | brk => exact False.elim hq
    | cont => exact False.elim hq
theorem pi_own {tg e : Expr} {te : TE} (hs : PySem.W.findIn X.K (.ref C) "__iter__" = some (some (.ref g))) (hf : PySem.W.isFn X.K (.ref g) = true) (F : FnIt X.prog X.w X.K X.mg X.base k g fd C f) (hr : Room k X.A) (hb : Binds X.K fd ["self"] [])
    (he : PE X e te) : PI X tg e (iOwn C f te) := by
  refine ⟨fun pins s σ H R I h => ?_⟩
  refine thn (he.run pins s σ H _ I h) fun u s1 ⟨x, H1, I1, rx, a, dx, fs, d, o, ex, ea, el, q⟩ => ?_
  subst ex
  obtain rfl : u = Value.ref a := rx
  rcases q with ⟨kvs, hd, q⟩ | ⟨kvs, hd, q⟩
  · obtain ⟨_, _, _, es, ep, vs, hdt, hsz, kv, hm⟩ := I1.frzK hd
    refine iter_own hs hf F hr hb I1 ea el (.inl ⟨kvs, hd⟩) hdt fun it s2 I2 hit fp => ?_
    rw [hsz] at hit
    exact ⟨it, [it], _, Itk d o kvs, H1, rfl, I2, turn_keys it hdt, hit, fun b hb => by rw [List.mem_singleton.mp hb]; exact fp, q⟩
  · obtain ⟨_, _, _, es, ep, hdt, hsz, ent⟩ := I1.frzT hd
    refine iter_own hs hf F hr hb I1 ea el (.inr ⟨kvs, hd⟩) hdt fun it s2 I2 hit fp => ?_
    rw [hsz] at hit
    exact ⟨it, [it], _, Itkt d o kvs, H1, rfl, I2, turn_keysT it hdt, hit, fun b hb => by rw [List.mem_singleton.mp hb]; exact fp, q⟩
end
end Om
namespace Om
open PySem PySem.Spec PyProof.Rows L2

/-! ### {k: v for ..}, the keys tuples -/
section
variable {X : Cx}
theorem d_putT {pins : List (Addr × Obj)} {σ : L2.St} {H H' : Hp} {s : Shared} {E : Value → Shared → Prop} {D : Addr} {y v : V} {u r : Value} {Q : Unit → Shared → Prop} (hu : X.A.units + 1 < cLine) (I : Inv X pins σ H s)
    (g : ∃ kvs k b, H D = some (.dT kvs) ∧ y = .ref b ∧ H b = some (.tup (k.map kV)) ∧ kvs.length < sizeLine ∧ H' = upd H D (.dT (putK kvs k v)))
    (ry : RelV y u) (rv : RelV v r) (h : ∀ s', Inv X pins σ H' s' → Q () s') : wpAny (model X.prog X.w) X.A (dictSet D u r) Q E s := by
  obtain ⟨kvs, k, b, hD, ey, hb, hl, eH⟩ := g
  rw [eH] at h
  rw [ey] at ry
  cases (show u = Value.ref b from ry)
  obtain ⟨hz, hd, xs, rel, dd⟩ := dt_of I.hok hD
  have lx : xs.length ≤ sizeLine := by have := Paired.length rel; omega
  have ly : (putK kvs k v).length ≤ sizeLine := by have := length_putK kvs k v; omega
  refine wpAny_dictSet_heap (hsz := lx) (show X.A.units < cLine by omega) (key_of I.hok hb) dd fun hp dd' same => h _ ?_
  obtain ⟨q, es, ep, hq, h2, h3, h4, _, h5⟩ := dd'
  refine d_write I (by rw [hD]; exact True.intro) same ⟨q, hq⟩ ⟨ly, hd, _, (rel.put k hb rv).keeps fun c ys ec => ?_, q, es, ep, hq, h2, h3, h4, h5⟩
  rw [upd_ne (ne_of ec hD (fun z => nomatch z))]
  exact ec
/-- D the new dict; a turn stores at a tuple of texts and ints -/
def tDcT (wi : TI) (g : TG) (tt : TT) (tk tv : TE) (vs : List Nat) : TE := fun σ H Q => wi σ H fun J H1 => ∀ D, H1 D = none → ∃ W : Nat → Nat → Hp → Prop, (∃ m, W 0 m (upd H1 D (.dT []))) ∧ ∀ i m H, W i m H →
  (J.stop i H ∧ Q (.ref D) H) ∨ (J.go i H ∧ ∃ Nx : Hp → Prop, (∀ H', Nx H' → ∃ m', m' < m ∧ W (i + 1) m' H') ∧ ∀ x H', J.yld i H x H' → g x (wipe σ vs) H' fun σ2 H2 => wipe σ2 vs = wipe σ vs ∧ tt σ2 H2 fun b H3 =>
    if b = true then tk σ2 H3 fun y H4 => tv σ2 H4 fun z H5 => ∃ H6, (∃ kvs k b, H5 D = some (.dT kvs) ∧ y = .ref b ∧ H5 b = some (.tup (k.map kV)) ∧ kvs.length < sizeLine ∧ H6 = upd H5 D (.dT (putK kvs k z))) ∧ Nx H6 else Nx H3)
theorem dcT_core {pins : List (Addr × Obj)} {s : Shared} {σ : L2.St} {H : Hp} {Q : VK} {kx vx tg iter : Expr} {ifs : List Expr} {scope : Scope} {own : List (Str × Nat)} {pos pos' : Pos} {wi : TI} {g : TG} {tt : TT} {tk tv : TE} {use : Option (Value → Sem Unit)} {Qf : Value → Shared → Prop}
    (hu : X.A.units + 1 < cLine) (hc : X.calm = true) (hN : X.N.Nodup) (I : Inv X pins σ H s) (hi : PI X tg iter wi) (ok : BlkOk X.N X.env.scope scope own)
    (hg : ∀ (s : Shared) (H : Hp) (C : Addr) (cl : List (Str × Addr)) (fp : List Addr), PG (X.blk s H scope (compEnvC scope cl C X.env) fp) tg g) (ht : ∀ (s : Shared) (H : Hp) (C : Addr) (cl : List (Str × Addr)) (fp : List Addr), PTs (X.blk s H scope (compEnvC scope cl C X.env) fp) ifs tt)
    (hk : ∀ (s : Shared) (H : Hp) (C : Addr) (cl : List (Str × Addr)) (fp : List Addr), PE (X.blk s H scope (compEnvC scope cl C X.env) fp) kx tk)
    (he : ∀ (s : Shared) (H : Hp) (C : Addr) (cl : List (Str × Addr)) (fp : List Addr), PE (X.blk s H scope (compEnvC scope cl C X.env) fp) vx tv) (hs : ∀ x, foldedSetIterable iter X.env x = pure x)
    (h : tDcT wi g tt tk tv (own.map (·.2)) σ H Q)
    (hRR : ∀ D C s' m H', Inv X pins σ H' s' → Q (.ref D) H' → s'.heap.Ns C m → FpOk X pins H' C → compPost (model X.prog X.w) X.A X.xe use Qf (.ref D) C (.ok .next) s') :
    wpAny (model X.prog X.w) X.A (comprehension (.DictComp kx vx [⟨tg, iter, ifs, 0⟩] scope pos) scope X.env pos' newDict false (eval iter X.env) use) Qf X.xe s := by
  have hClo : ∀ y ∈ scope.names, y.2 = .free → ∃ c, X.env.cells.lookup y.1 = some c := fun y hy e => by
    rcases ok.free y hy e with k | k
    · exact I.ok.has _ (.inl k)
    · exact I.ok.has _ (.inr k)
  refine wpAny_comprehension_free (use := use) rfl hs (closure_ok hClo) ok.kind (fun y hy e => by rw [ok.uniq y hy, e])
    (thn (hi.run pins s σ H _ I h) fun xv s1 hx => thn hx fun itv z2 h2 => ?_)
  obtain ⟨it, fp, tn, J, G2, e, J2, T, u2, fo2, q⟩ := h2
  subst e
  refine wpAny_newObj_type (newEnv_comp ?_)
  generalize eD : z2.heap.objs.size = D
  have nD : G2 D = none := J2.hok.fresh (Nat.le_of_eq eD)
  obtain ⟨W, ⟨mu0, hw0⟩, turn⟩ := q D nD
  -- the new list
  generalize hs3 : ({ z2 with heap := z2.heap.push { cls := .type "dict", data := .dict #[] } } : Shared) = z3
  have J3 : Inv X pins σ (upd G2 D (.dT [])) z3 := by
    rw [← hs3]
    refine J2.laid (t' := z2.toks) (fun b o e => Heap.get?_push_of_some _ e) (Nat.le_of_eq eD) ?_
    rw [← eD]
    exact dt_empty z2.heap J2.big
  have h3 : z3.heap = z2.heap.push { cls := .type "dict", data := .dict #[] } := by rw [← hs3]
  have sz : ∀ b ∈ fp, b < z2.heap.objs.size := fun b hb => by
    obtain ⟨o, e, _⟩ := T.obj _ _ u2 b hb
    exact Heap.lt_size e
  have fo3 : ∀ b ∈ fp, FpOk X pins (upd G2 D (.dT [])) b ∧ b < z3.heap.objs.size := fun b hb => by
    have hlt := sz b hb
    refine ⟨⟨?_, (fo2 b hb).2⟩, by rw [h3, Heap.size_push]; exact Nat.lt_succ_of_lt hlt⟩
    rw [upd_ne (by rw [← eD]; exact Nat.ne_of_lt hlt)]
    exact (fo2 b hb).1
  have u3 : tn 0 z3.heap := T.keep _ _ _ u2 fun b _ o e => by rw [h3]; exact Heap.get?_push_of_some _ e
  have J4 := block_start J3 ok hN fo3
  have wg := hg z3 (upd G2 D (.dT [])) z3.heap.objs.size (cellsFrom (z3.heap.objs.size + 1) scope.names (cloFrom X.env.cells scope.names [])) fp
  have wt := ht z3 (upd G2 D (.dT [])) z3.heap.objs.size (cellsFrom (z3.heap.objs.size + 1) scope.names (cloFrom X.env.cells scope.names [])) fp
  have wk := hk z3 (upd G2 D (.dT [])) z3.heap.objs.size (cellsFrom (z3.heap.objs.size + 1) scope.names (cloFrom X.env.cells scope.names [])) fp
  have wv := he z3 (upd G2 D (.dT [])) z3.heap.objs.size (cellsFrom (z3.heap.objs.size + 1) scope.names (cloFrom X.env.cells scope.names [])) fp
  show codeAny _ _ (.compStart (.DictComp kx vx [⟨tg, iter, ifs, 0⟩] scope pos) 0 (.ref it) (.ref D) (compEnvC scope (cellsFrom (z3.heap.objs.size + 1) scope.names (cloFrom X.env.cells scope.names [])) z3.heap.objs.size X.env)) (compPost (model X.prog X.w) X.A X.xe use Qf (.ref D) z3.heap.objs.size) { z3 with heap := pushCells (z3.heap.push { cls := .type "dict", data := .dict #[] }) scope.names }
  have fresh0 : ∀ b ∈ fp, (upd G2 D (.dT [])) b = none := fun b hb => (fo3 b hb).1.1
  generalize hEnv : compEnvC scope (cellsFrom (z3.heap.objs.size + 1) scope.names (cloFrom X.env.cells scope.names [])) z3.heap.objs.size X.env = cEnv at J4 wg wt wk wv ⊢
  have eLoc : cEnv.locals = z3.heap.objs.size := by subst hEnv; rfl
  generalize hH3 : upd G2 D (.dT []) = G3 at J3 J4 wg wt wk wv hw0 fresh0 fo3
  generalize hs4 : ({ z3 with heap := pushCells (z3.heap.push { cls := .type "dict", data := .dict #[] }) scope.names } : Shared) = z4 at J4 ⊢
  have u4 : tn 0 z4.heap := T.keep _ _ _ u3 fun b _ o e => by rw [← hs4]; exact pushCells_keeps _ _ _ _ (Heap.get?_push_of_some _ e)
  have still : ∀ {σ' : L2.St} {H' : Hp} {s' : Shared}, Inv (X.blk z3 G3 scope cEnv fp) [] σ' H' s' → (∀ b ∈ fp, H' b = none) → ∀ b ∈ fp, FpOk (X.blk z3 G3 scope cEnv fp) [] H' b := fun {σ' H' s'} I' hn b hb =>
    ⟨hn b hb, (I'.ok.exf b hb).1, I'.ok.exfs b hb, .inl hb, fun x c e => (I'.ok.exf b hb).2 x c e, fun p hp => absurd (show p ∈ ([] : List (Addr × Obj)) ++ [] from hp) (by simp)⟩
  have theLoop : codeAny (model X.prog X.w) X.A (.compLoop (.DictComp kx vx [⟨tg, iter, ifs, 0⟩] scope pos) 0 (.ref it) (.ref D) cEnv) (compPost (model X.prog X.w) X.A X.xe use Qf (.ref D) z3.heap.objs.size) z4 := by
    refine compLoop_anyD (fun n s' => ∃ i H', Inv (X.blk z3 G3 scope cEnv fp) [] (wipe σ (own.map (·.2))) H' s' ∧ tn i s'.heap ∧ (∀ b ∈ fp, H' b = none) ∧ W i n H') ?_ mu0 ⟨0, G3, J4, u4, fresh0, hw0⟩
    rintro n z5 ⟨i, G5, J5, u5, ni5, hw5⟩
    rcases turn i n G5 hw5 with ⟨stop, qq⟩ | ⟨go, Nx, hNx, step⟩
    · have tDone := T.done (X.blk z3 G3 scope cEnv fp) rfl rfl rfl hc i [] z5 _ G5 (fun _ _ => False) J5 (still J5 ni5) u5 stop
      refine thnF tDone fun r z6 ⟨hr, J6⟩ => ?_
      subst hr
      -- back in the def's context
      have J7 : Inv X pins σ G5 z6 := J3.call' (ch := fp) J6.os J6.base J6.hok J6.bare fun b hb => ⟨(fo3 b hb).1.2.2.2.1, (fo3 b hb).1.2.1, (fo3 b hb).1.2.2.2.2.1, (fo3 b hb).1.2.2.2.2.2⟩
      have nC : G5 z3.heap.objs.size = none := by
        have z : G5 cEnv.locals = none := J6.free
        rw [eLoc] at z
        exact z
      obtain ⟨m, hn, _⟩ := J6.loc
      have hn : z6.heap.Ns cEnv.locals m := hn
      rw [eLoc] at hn
      exact hRR D z3.heap.objs.size z6 m G5 J7 qq hn (J3.fpOk (Nat.le_refl _) nC)
    · have tItem := T.item (X.blk z3 G3 scope cEnv fp) rfl rfl rfl hc i [] z5 _ G5 (fun _ _ => False) J5 (still J5 ni5) u5 go
      refine thnF tItem fun r z6 ⟨u, hr, h6⟩ => ?_
      subst hr
      refine thnF h6 fun _ z7 ⟨x, G7, J7, rx7, yy7, u7, ni7⟩ => ?_
      have J7' := J7.pinned (still J7 ni7) (T.obj _ _ u7)
      refine thnF (wg.run _ z7 _ G7 x u _ J7' rx7 (step x G7 yy7)) fun _ z8 ⟨σ8, G8, J8, ew8, qq8⟩ => ?_
      refine thnF (wt.run _ z8 σ8 G8 _ J8 qq8) fun b z9 ⟨G9, J9, qq9⟩ => ?_
      -- the turn's end
      have closeT : ∀ {s' : Shared} {H' : Hp}, Inv (X.blk z3 G3 scope cEnv fp) ([] ++ pinsAt fp z7.heap) σ8 H' s' → Nx H' → ∃ m, m < n ∧ ∃ i H', Inv (X.blk z3 G3 scope cEnv fp) [] (wipe σ (own.map (·.2))) H' s' ∧ tn i s'.heap ∧ (∀ b ∈ fp, H' b = none) ∧ W i m H' := fun {s' H'} I' nxt => by
        obtain ⟨m', hm, w'⟩ := hNx H' nxt
        have pin' : ∀ b ∈ fp, ∀ o, z7.heap.get? b = some o → s'.heap.get? b = some o ∧ H' b = none := fun b hb o e =>
          let z := I'.pin (b, o) (List.mem_append_right _ (List.mem_append_right _ (mem_pinsAt hb e)))
          ⟨z.1, z.2.1⟩
        have hl : (wipe σ (own.map (·.2))).length = σ8.length := by rw [← ew8, wipe_length]
        refine ⟨m', hm, i + 1, H', (I'.unpinned (pins := [])).weak hl (fun j v e => ?_), T.keep _ _ _ u7 fun b hb o e => (pin' b hb o e).1, fun b hb => ?_, w'⟩
        · rw [← ew8] at e
          exact (wipe_some e).1
        · obtain ⟨o, e, _⟩ := T.obj _ _ u7 b hb
          exact (pin' b hb o e).2
      cases b with
      | false =>
        simp only [Bool.false_eq_true, if_false] at qq9 ⊢
        exact closeT J9 qq9
      | true =>
        simp only [if_true] at qq9 ⊢
        refine thnF (wk.run _ z9 σ8 G9 _ J9 qq9) fun z z10 ⟨yk, G10, J10, rk10, qq10⟩ => ?_
        refine thnF (wv.run _ z10 σ8 G10 _ J10 qq10) fun z2 z11 ⟨yv, G11, J11, rv11, G12, hput, nxt⟩ => ?_
        exact d_putT (X := X.blk z3 G3 scope cEnv fp) hu J11 hput rk10 rv11 fun z12 J12 => closeT J12 nxt
  exact codeAny_compStart_dict theLoop (T.self X.A 0 _ _ _ u4 theLoop)
/-- as a value -/
theorem pe_dcT {kx vx tg iter : Expr} {ifs : List Expr} {scope : Scope} {own : List (Str × Nat)} {pos : Pos} {wi : TI} {g : TG} {tt : TT} {tk tv : TE} (hu : X.A.units + 1 < cLine) (hc : X.calm = true) (hN : X.N.Nodup) (hi : PI X tg iter wi) (ok : BlkOk X.N X.env.scope scope own)
    (hg : ∀ (s : Shared) (H : Hp) (C : Addr) (cl : List (Str × Addr)) (fp : List Addr), PG (X.blk s H scope (compEnvC scope cl C X.env) fp) tg g) (ht : ∀ (s : Shared) (H : Hp) (C : Addr) (cl : List (Str × Addr)) (fp : List Addr), PTs (X.blk s H scope (compEnvC scope cl C X.env) fp) ifs tt)
    (hk : ∀ (s : Shared) (H : Hp) (C : Addr) (cl : List (Str × Addr)) (fp : List Addr), PE (X.blk s H scope (compEnvC scope cl C X.env) fp) kx tk)
    (he : ∀ (s : Shared) (H : Hp) (C : Addr) (cl : List (Str × Addr)) (fp : List Addr), PE (X.blk s H scope (compEnvC scope cl C X.env) fp) vx tv) (hs : ∀ x, foldedSetIterable iter X.env x = pure x := by intro _; rfl) :
    PE X (.DictComp kx vx [⟨tg, iter, ifs, 0⟩] scope pos) (tDcT wi g tt tk tv (own.map (·.2))) := by
  refine ⟨fun pins s σ H Q I h => ?_⟩
  rw [arm_eval_DictComp]
  refine dcT_core hu hc hN I hi ok hg ht hk he hs h fun D C s' m H' I' q hn f => ⟨m, hn, fun h'' sb => ?_⟩
  obtain ⟨f0, f1, fo2, fo3, f4, fo5⟩ := f
  exact ⟨.ref D, H', I'.turned (t' := s'.toks) (fun b o hb e => (sb.2 b hb).trans e) f0 f1 fo3 f4 fo5, rfl, q⟩

/-- over a list that stays -/
theorem dcT_list {K : PySem.W.Frag} {a : Addr} {xs : List V} {g : TG} {tt : TT} {tk tv : TE} {vs : List Nat} {σ : L2.St} {H1 : Hp} {D : Addr} {Qd : Hp → Prop} (Pv : Nat → Hp → Prop) (h0 : Pv 0 (upd H1 D (.dT []))) (hl : ∀ i H, i ≤ xs.length → Pv i H → SqL K H a xs)
    (hs : ∀ i x H, xs[i]? = some x → Pv i H → g x (wipe σ vs) H fun σ2 H2 => wipe σ2 vs = wipe σ vs ∧ tt σ2 H2 fun b H3 =>
      if b = true then tk σ2 H3 fun y H4 => tv σ2 H4 fun z H5 => ∃ H6, (∃ kvs k b, H5 D = some (.dT kvs) ∧ y = .ref b ∧ H5 b = some (.tup (k.map kV)) ∧ kvs.length < sizeLine ∧ H6 = upd H5 D (.dT (putK kvs k z))) ∧ Pv (i + 1) H6 else Pv (i + 1) H3)
    (hd : ∀ H, Pv xs.length H → Qd H) :
    ∃ W : Nat → Nat → Hp → Prop, (∃ m, W 0 m (upd H1 D (.dT []))) ∧ ∀ i m H, W i m H →
      ((Itl K a).stop i H ∧ Qd H) ∨ ((Itl K a).go i H ∧ ∃ Nx : Hp → Prop, (∀ H', Nx H' → ∃ m', m' < m ∧ W (i + 1) m' H') ∧ ∀ x H', (Itl K a).yld i H x H' → g x (wipe σ vs) H' fun σ2 H2 => wipe σ2 vs = wipe σ vs ∧ tt σ2 H2 fun b H3 =>
        if b = true then tk σ2 H3 fun y H4 => tv σ2 H4 fun z H5 => ∃ H6, (∃ kvs k b, H5 D = some (.dT kvs) ∧ y = .ref b ∧ H5 b = some (.tup (k.map kV)) ∧ kvs.length < sizeLine ∧ H6 = upd H5 D (.dT (putK kvs k z))) ∧ Nx H6 else Nx H3) := by
  refine ⟨fun i m H => i + m = xs.length ∧ Pv i H, ⟨xs.length, Nat.zero_add _, h0⟩, ?_⟩
  rintro i m H ⟨him, p⟩
  have q := hl i H (by omega) p
  cases m with
  | zero =>
    have e : i = xs.length := by omega
    subst e
    exact .inl ⟨⟨xs, q, Nat.le_refl _⟩, hd H p⟩
  | succ m =>
    have hlt : i < xs.length := by omega
    refine .inr ⟨⟨xs, xs[i], q, by simp [hlt]⟩, Pv (i + 1), fun H' p' => ⟨m, Nat.lt_succ_self m, by omega, p'⟩, fun x H' y => ?_⟩
    obtain ⟨rfl, y⟩ := y
    exact hs i x _ (y xs q) p
/-- {k: v for x in a list}, the keys ints or texts -/
theorem dc_list {K : PySem.W.Frag} {a : Addr} {xs : List V} {g : TG} {tt : TT} {tk tv : TE} {vs : List Nat} {σ : L2.St} {H1 : Hp} {D : Addr} {Qd : Hp → Prop} (Pv : Nat → Hp → Prop) (h0 : Pv 0 (upd H1 D (.dK []))) (hl : ∀ i H, i ≤ xs.length → Pv i H → SqL K H a xs)
    (hs : ∀ i x H, xs[i]? = some x → Pv i H → g x (wipe σ vs) H fun σ2 H2 => wipe σ2 vs = wipe σ vs ∧ tt σ2 H2 fun b H3 =>
      if b = true then tk σ2 H3 fun y H4 => tv σ2 H4 fun z H5 => ∃ kvs k, y = kV k ∧ H5 D = some (.dK kvs) ∧ kvs.length < sizeLine ∧ Pv (i + 1) (upd H5 D (.dK (putK kvs k z))) else Pv (i + 1) H3) (hd : ∀ H, Pv xs.length H → Qd H) :
    ∃ W : Nat → Nat → Hp → Prop, (∃ m, W 0 m (upd H1 D (.dK []))) ∧ ∀ i m H, W i m H →
      ((Itl K a).stop i H ∧ Qd H) ∨ ((Itl K a).go i H ∧ ∃ Nx : Hp → Prop, (∀ H', Nx H' → ∃ m', m' < m ∧ W (i + 1) m' H') ∧ ∀ x H', (Itl K a).yld i H x H' → g x (wipe σ vs) H' fun σ2 H2 => wipe σ2 vs = wipe σ vs ∧ tt σ2 H2 fun b H3 =>
        if b = true then tk σ2 H3 fun y H4 => tv σ2 H4 fun z H5 => ∃ kvs k, y = kV k ∧ H5 D = some (.dK kvs) ∧ kvs.length < sizeLine ∧ Nx (upd H5 D (.dK (putK kvs k z))) else Nx H3) := by
  refine ⟨fun i m H => i + m = xs.length ∧ Pv i H, ⟨xs.length, Nat.zero_add _, h0⟩, ?_⟩
  rintro i m H ⟨him, p⟩
  have q := hl i H (by omega) p
  cases m with
  | zero =>
    have e : i = xs.length := by omega
    subst e
    exact .inl ⟨⟨xs, q, Nat.le_refl _⟩, hd H p⟩
  | succ m =>
    have hlt : i < xs.length := by omega
    refine .inr ⟨⟨xs, xs[i], q, by simp [hlt]⟩, Pv (i + 1), fun H' p' => ⟨m, Nat.lt_succ_self m, by omega, p'⟩, fun x H' y => ?_⟩
    obtain ⟨rfl, y⟩ := y
    exact hs i x _ (y xs q) p
/-- .. for i, x in enumerate(a list) -/
theorem dc_enum {K : PySem.W.Frag} {a : Addr} {xs : List V} {g : TG} {tt : TT} {tk tv : TE} {vs : List Nat} {σ : L2.St} {H1 : Hp} {D : Addr} {Qd : Hp → Prop} (Pv : Nat → Hp → Prop) (h0 : Pv 0 (upd H1 D (.dK []))) (hl : ∀ i H, i ≤ xs.length → Pv i H → SqL K H a xs)
    (hs : ∀ i x H T, xs[i]? = some x → Pv i H → H T = none → g (.ref T) (wipe σ vs) (upd H T (.tup [.int (i : Nat), x])) fun σ2 H2 => wipe σ2 vs = wipe σ vs ∧ tt σ2 H2 fun b H3 =>
      if b = true then tk σ2 H3 fun y H4 => tv σ2 H4 fun z H5 => ∃ kvs k, y = kV k ∧ H5 D = some (.dK kvs) ∧ kvs.length < sizeLine ∧ Pv (i + 1) (upd H5 D (.dK (putK kvs k z))) else Pv (i + 1) H3) (hd : ∀ H, Pv xs.length H → Qd H) :
    ∃ W : Nat → Nat → Hp → Prop, (∃ m, W 0 m (upd H1 D (.dK []))) ∧ ∀ i m H, W i m H →
      ((Ite K a).stop i H ∧ Qd H) ∨ ((Ite K a).go i H ∧ ∃ Nx : Hp → Prop, (∀ H', Nx H' → ∃ m', m' < m ∧ W (i + 1) m' H') ∧ ∀ x H', (Ite K a).yld i H x H' → g x (wipe σ vs) H' fun σ2 H2 => wipe σ2 vs = wipe σ vs ∧ tt σ2 H2 fun b H3 =>
        if b = true then tk σ2 H3 fun y H4 => tv σ2 H4 fun z H5 => ∃ kvs k, y = kV k ∧ H5 D = some (.dK kvs) ∧ kvs.length < sizeLine ∧ Nx (upd H5 D (.dK (putK kvs k z))) else Nx H3) := by
  refine ⟨fun i m H => i + m = xs.length ∧ Pv i H, ⟨xs.length, Nat.zero_add _, h0⟩, ?_⟩
  rintro i m H ⟨him, p⟩
  have q := hl i H (by omega) p
  cases m with
  | zero =>
    have e : i = xs.length := by omega
    subst e
    exact .inl ⟨⟨xs, q, Nat.le_refl _⟩, hd H p⟩
  | succ m =>
    have hlt : i < xs.length := by omega
    refine .inr ⟨⟨xs, xs[i], q, by simp [hlt]⟩, Pv (i + 1), fun H' p' => ⟨m, Nat.lt_succ_self m, by omega, p'⟩, fun x H' y => ?_⟩
    obtain ⟨T, z, rfl, hT, rfl, y⟩ := y
    exact hs i z H T (y xs q) p hT
end
end Om
/-! Data in the heap; comprehensions and loops by their data. -/
namespace Om
open PySem PySem.Spec PyProof.Rows L2 OmM

/-! ### heaps -/
/-- all that was tracked is as it was, but for what P tells -/
def SB (P : Addr → Prop) (H H' : Hp) : Prop := ∀ b o, H b = some o → ¬ P b → H' b = some o
theorem SB.refl {P : Addr → Prop} (H : Hp) : SB P H H := fun _ _ h _ => h
theorem SB.trans {P : Addr → Prop} {H H1 H2 : Hp} (a : SB P H H1) (b : SB P H1 H2) : SB P H H2 := fun c o h n => b c o (a c o h n) n
theorem SB.of {P : Addr → Prop} {H H' : Hp} (a : Same H H') : SB P H H' := fun c o h _ => a c o h
theorem SB.same {H H' : Hp} (a : SB (fun _ => False) H H') : Same H H' := fun c o h => a c o h (fun z => z)
theorem same_upd {H : Hp} {p : Addr} {o : HO} (h : H p = none) : Same H (upd H p o) := fun b u e => by
  rw [upd_ne (ne_of_none e h)]; exact e
theorem SB.upd {P : Addr → Prop} {H H' : Hp} {p : Addr} {o : HO} (a : SB P H H') (h : H' p = none) : SB P H (L2.upd H' p o) := a.trans (.of (same_upd h))
theorem SB.seq {P : Addr → Prop} {K : PySem.W.Frag} {H H' : Hp} {a : Addr} {xs : List V} (e : SB P H H') (h : SqL K H a xs) (n : ¬ P a) : SqL K H' a xs := by
  rcases h with (h | ⟨o, h⟩) | h
  · exact .inl (.inl (e _ _ h n))
  · exact .inl (.inr ⟨o, e _ _ h n⟩)
  · exact .inr h
theorem SB.tup {P : Addr → Prop} {K : PySem.W.Frag} {H H' : Hp} {a : Addr} {xs : List V} (e : SB P H H') (h : SqT K H a xs) (n : ¬ P a) : SqT K H' a xs := by
  rcases h with (h | ⟨o, h⟩) | h
  · exact .inl (.inl (e _ _ h n))
  · exact .inl (.inr ⟨o, e _ _ h n⟩)
  · exact .inr h
theorem Same.tupK {K : PySem.W.Frag} {H H' : Hp} {a : Addr} {xs : List V} (e : Same H H') (h : SqT K H a xs) : SqT K H' a xs := (SB.of (P := fun _ => False) e).tup h (fun z => z)

/-! ### data -/
/-- how a value stands for a datum, in a heap -/
abbrev Rel (δ : Type) := Hp → V → δ → Prop
def RS : Rel Str := fun _ v s => v = .str s
def RI : Rel Int := fun _ v i => v = .int i
def RP : Rel (Str × Str) := fun H v p => ∃ q, v = .ref q ∧ H q = some (.tup [.str p.1, .str p.2])
def RP3 : Rel (Str × Str × Str) := fun H v p => ∃ q, v = .ref q ∧ H q = some (.tup [.str p.1, .str p.2.1, .str p.2.2])
def RL : Rel (List Str) := fun H v ss => ∃ q, v = .ref q ∧ H q = some (.lst (ss.map V.str))
def RU : Rel (List Str) := fun H v ss => ∃ q, v = .ref q ∧ H q = some (.tup (ss.map V.str))
/-- stays while what was tracked stays -/
def Stays {δ : Type} (R : Rel δ) : Prop := ∀ H H' v d, Same H H' → R H v d → R H' v d
theorem stays_RS : Stays RS := fun _ _ _ _ _ h => h
theorem stays_RI : Stays RI := fun _ _ _ _ _ h => h
theorem stays_RP : Stays RP := fun _ _ _ _ e ⟨q, a, b⟩ => ⟨q, a, e _ _ b⟩
theorem stays_RP3 : Stays RP3 := fun _ _ _ _ e ⟨q, a, b⟩ => ⟨q, a, e _ _ b⟩
theorem stays_RL : Stays RL := fun _ _ _ _ e ⟨q, a, b⟩ => ⟨q, a, e _ _ b⟩
theorem stays_RU : Stays RU := fun _ _ _ _ e ⟨q, a, b⟩ => ⟨q, a, e _ _ b⟩
theorem paired_stays {δ : Type} {R : Rel δ} (hR : Stays R) {H H' : Hp} (e : Same H H') {vs : List V} {ds : List δ} (h : Paired (R H) vs ds) : Paired (R H') vs ds := Paired.mono (fun _ _ => hR _ _ _ _ e) h
theorem paired_at {α β : Type} {F : α → β → Prop} {l : List α} {m : List β} (h : Paired F l m) {i : Nat} {a : α} (e : l[i]? = some a) : ∃ b, m[i]? = some b ∧ F a b := paired_get h e
theorem paired_at' {α β : Type} {F : α → β → Prop} {l : List α} {m : List β} (h : Paired F l m) {i : Nat} {b : β} (e : m[i]? = some b) : ∃ a, l[i]? = some a ∧ F a b := by
  have hl := h.length
  obtain ⟨hi, rfl⟩ := List.getElem?_eq_some_iff.mp e
  obtain ⟨c, h1, h2⟩ := paired_get h (List.getElem?_eq_getElem (by omega : i < l.length))
  rw [h1] at e; cases e
  exact ⟨_, List.getElem?_eq_getElem (by omega), h2⟩
theorem paired_str : ∀ ss : List Str, ∀ H, Paired (RS H) (ss.map V.str) ss
  | [], _ => .nil
  | _ :: ss, H => .cons rfl (paired_str ss H)
theorem paired_str_eq {H : Hp} : ∀ {vs : List V} {ss : List Str}, Paired (RS H) vs ss → vs = ss.map V.str
  | _, _, .nil => rfl
  | _, _, .cons h t => by rw [List.map_cons, ← paired_str_eq t, ← (show _ = V.str _ from h)]
/-- the list at a holds the data ds -/
def LAt {δ : Type} (R : Rel δ) (H : Hp) (a : Addr) (ds : List δ) : Prop := ∃ vs, H a = some (.lst vs) ∧ Paired (R H) vs ds
theorem LAt.stay {δ : Type} {R : Rel δ} (hR : Stays R) {H H' : Hp} {a : Addr} {ds : List δ} (e : Same H H') (h : LAt R H a ds) : LAt R H' a ds := let ⟨vs, h1, h2⟩ := h; ⟨vs, e _ _ h1, paired_stays hR e h2⟩
theorem LAt.str {H : Hp} {a : Addr} {ss : List Str} (h : LAt RS H a ss) : H a = some (.lst (ss.map V.str)) := by
  obtain ⟨vs, h1, h2⟩ := h
  rw [h1, paired_str_eq h2]
theorem LAt.of_str {H : Hp} {a : Addr} {ss : List Str} (h : H a = some (.lst (ss.map V.str))) : LAt RS H a ss := ⟨_, h, paired_str ss H⟩

/-! ### a source of data that is walked -/
structure Src {δ : Type} (J : It) (P : Addr → Prop) (H1 : Hp) (R : Rel δ) (ds : List δ) : Prop where
  goes : ∀ i H, i < ds.length → SB P H1 H → J.go i H
  stops : ∀ H, SB P H1 H → J.stop ds.length H
  yields : ∀ i H x H', i < ds.length → SB P H1 H → J.yld i H x H' → (H' = H ∨ ∃ T o, H T = none ∧ H' = upd H T o) ∧ ∃ d, ds[i]? = some d ∧ R H' x d
section
variable {δ ε : Type} {K : PySem.W.Frag} {P : Addr → Prop} {H1 : Hp} {a : Addr} {xs : List V} {R : Rel δ} {ds : List δ}
theorem src_list (hq : SqL K H1 a xs) (ha : ¬ P a) (hR : ∀ H v d, SB P H1 H → R H1 v d → R H v d) (hp : Paired (R H1) xs ds) : Src (Itl K a) P H1 R ds where
  goes := fun i H hi e => by
    have hl := hp.length
    exact ⟨xs, xs[i]'(by omega), e.seq hq ha, List.getElem?_eq_getElem (by omega)⟩
  stops := fun H e => ⟨xs, e.seq hq ha, by have := hp.length; omega⟩
  yields := fun i H x H' hi e y => by
    obtain ⟨rfl, y⟩ := y
    obtain ⟨d, h1, h2⟩ := paired_at hp (y xs (e.seq hq ha))
    exact ⟨.inl rfl, d, h1, hR _ _ _ e h2⟩
theorem src_tup (hq : SqT K H1 a xs) (ha : ¬ P a) (hR : ∀ H v d, SB P H1 H → R H1 v d → R H v d) (hp : Paired (R H1) xs ds) : Src (Itt K a) P H1 R ds where
  goes := fun i H hi e => by
    have hl := hp.length
    exact ⟨xs, xs[i]'(by omega), e.tup hq ha, List.getElem?_eq_getElem (by omega)⟩
  stops := fun H e => ⟨xs, e.tup hq ha, by have := hp.length; omega⟩
  yields := fun i H x H' hi e y => by
    obtain ⟨rfl, y⟩ := y
    obtain ⟨d, h1, h2⟩ := paired_at hp (y xs (e.tup hq ha))
    exact ⟨.inl rfl, d, h1, hR _ _ _ e h2⟩
theorem src_enum (hq : SqL K H1 a xs) (ha : ¬ P a) (hR : ∀ H v d, SB P H1 H → R H1 v d → R H v d) (hR2 : ∀ H T o v d, H T = none → R H v d → R (upd H T o) v d) (hp : Paired (R H1) xs ds) :
    Src (Ite K a) P H1 (fun H v (p : Nat × δ) => ∃ T x, v = .ref T ∧ H T = some (.tup [.int (p.1 : Nat), x]) ∧ R H x p.2) (ds.zipIdx.map fun p => (p.2, p.1)) where
  goes := fun i H hi e => by
    have hl := hp.length
    simp at hi
    exact ⟨xs, xs[i]'(by omega), e.seq hq ha, List.getElem?_eq_getElem (by omega)⟩
  stops := fun H e => ⟨xs, e.seq hq ha, by have := hp.length; simp; omega⟩
  yields := fun i H x H' hi e y => by
    obtain ⟨T, z, rfl, hT, rfl, y⟩ := y
    obtain ⟨d, h1, h2⟩ := paired_at hp (y xs (e.seq hq ha))
    refine ⟨.inr ⟨T, _, hT, rfl⟩, (i, d), ?_, T, z, rfl, upd_same, hR2 _ _ _ _ _ hT (hR _ _ _ e h2)⟩
    rw [List.getElem?_map, List.getElem?_zipIdx, h1]
    simp
theorem src_keys {d : Addr} {o : Obj} {kvs : List (Key × V)} {ss : List Str} (hd : H1 d = some (.frz o (.dK kvs))) (ha : ¬ P d) (hk : kvs.map (·.1) = ss.map Sum.inr) : Src (Itk d o kvs) P H1 RS ss where
  goes := fun i H hi e => ⟨e _ _ hd ha, by have := congrArg List.length hk; simp at this; omega⟩
  stops := fun H e => ⟨e _ _ hd ha, by have := congrArg List.length hk; simp at this; omega⟩
  yields := fun i H x H' hi e y => by
    obtain ⟨rfl, k, v, h1, rfl⟩ := y
    have h2 : (kvs.map (·.1))[i]? = some k := by rw [List.getElem?_map, h1]; rfl
    rw [hk, List.getElem?_map] at h2
    obtain ⟨s, h3, h4⟩ := Option.map_eq_some_iff.mp h2
    exact ⟨.inl rfl, s, h3, by rw [← h4]; rfl⟩
def keyP (p : Str × Str) : List Key := [Sum.inr p.1, Sum.inr p.2]
theorem src_keysT {d : Addr} {o : Obj} {kvs : List (List Key × V)} {ps : List (Str × Str)} (hd : H1 d = some (.frz o (.dT kvs))) (ha : ¬ P d) (hk : kvs.map (·.1) = ps.map keyP) : Src (Itkt d o kvs) P H1 RP ps where
  goes := fun i H hi e => ⟨e _ _ hd ha, by have := congrArg List.length hk; simp at this; omega⟩
  stops := fun H e => ⟨e _ _ hd ha, by have := congrArg List.length hk; simp at this; omega⟩
  yields := fun i H x H' hi e y => by
    obtain ⟨rfl, k, v, q, h1, rfl, hq⟩ := y
    have h2 : (kvs.map (·.1))[i]? = some k := by rw [List.getElem?_map, h1]; rfl
    rw [hk, List.getElem?_map] at h2
    obtain ⟨s, h3, h4⟩ := Option.map_eq_some_iff.mp h2
    rw [← h4] at hq
    exact ⟨.inl rfl, s, h3, q, rfl, hq⟩
/-- a text, sign by sign -/
theorem src_text {z : Str} : Src (Its z) P H1 (fun _ v (c : Nat) => v = .str ⟨#[c]⟩) z.cps.toList where
  goes := fun i H hi e => by show i < z.cps.size; simpa using hi
  stops := fun H e => by show z.cps.size ≤ _; simp
  yields := fun i H x H' hi e y => by
    obtain ⟨rfl, c, h1, rfl⟩ := y
    exact ⟨.inl rfl, c, by rw [← h1]; simp, rfl⟩
end

/-! ### a comprehension, by its data -/
theorem upd_id {H : Hp} {a : Addr} {o : HO} (h : H a = some o) : upd H a o = H := by
  funext b
  by_cases e : b = a
  · rw [e, upd_same, h]
  · rw [upd_ne e]
theorem SB.updD {P : Addr → Prop} {H H' : Hp} {D : Addr} {o : HO} (e : SB P H H') : SB P (L2.upd H D o) (L2.upd H' D o) := fun b u h n => by
  by_cases hb : b = D
  · rw [hb, upd_same] at h ⊢; exact h
  · rw [upd_ne hb] at h ⊢; exact e b u h n
section
variable {δ ε : Type} {P : Addr → Prop} {H1 : Hp} {J : It} {R : Rel δ} {Ro : Rel ε} {ds : List δ} {g : TG} {tt : TT} {te : TE} {vs : List Nat} {σ : L2.St} {D : Addr} {Qd : Hp → Prop}
/-- P: what the turns may change; F: what they keep of it; Z: the data gone through and those made -/
theorem lc_main (S : Src J P H1 R ds) (hD : H1 D = none) (hz : ds.length < sizeLine) (F : Hp → Prop) (hPF : ∀ H, F H → ∀ b, P b → H b ≠ none) (hF : ∀ H H', (∀ b, P b → H' b = H b) → F H → F H') (F0 : F H1)
    (hRo : ∀ H H' v e, SB P H H' → F H → Ro H v e → Ro H' v e) (Z : List δ → List ε → Prop) (Z0 : Z [] [])
    (turn : ∀ pre d post es x H acc (Ny : V → Hp → Prop) (Nn : Hp → Prop), ds = pre ++ d :: post → Z pre es → SB P H1 H → F H → H D = some (.lst acc) → R H x d →
      (∀ y H4 e, SB P H H4 → F H4 → (∀ o, Ro (upd H4 D o) y e) → Z (pre ++ [d]) (es ++ [e]) → Ny y H4) → (∀ H3, SB P H H3 → F H3 → Z (pre ++ [d]) es → Nn H3) →
      g x (wipe σ vs) H fun σ2 H2 => wipe σ2 vs = wipe σ vs ∧ tt σ2 H2 fun b H3 => if b = true then te σ2 H3 Ny else Nn H3)
    (done : ∀ es H acc, Z ds es → SB P H1 H → F H → H D = some (.lst acc) → Paired (Ro H) acc es → Qd H) :
    ∃ W : Nat → Nat → Hp → Prop, (∃ m, W 0 m (upd H1 D (.lst []))) ∧ ∀ i m H, W i m H →
      (J.stop i H ∧ Qd H) ∨ (J.go i H ∧ ∃ Nx : Hp → Prop, (∀ H', Nx H' → ∃ m', m' < m ∧ W (i + 1) m' H') ∧ ∀ x H', J.yld i H x H' → g x (wipe σ vs) H' fun σ2 H2 => wipe σ2 vs = wipe σ vs ∧ tt σ2 H2 fun b H3 =>
        if b = true then te σ2 H3 fun y H4 => ∃ acc, H4 D = some (.lst acc) ∧ acc.length < sizeLine ∧ Nx (upd H4 D (.lst (acc ++ [y]))) else Nx H3) := by
  have nPD : ¬ P D := fun z => hPF H1 F0 D z hD
  have keepF : ∀ {H : Hp} {o : HO}, F H → F (upd H D o) := fun h => hF _ _ (fun b hb => upd_ne (fun z => nPD (z ▸ hb))) h
  refine ⟨fun i m H => i + m = ds.length ∧ SB P H1 H ∧ F H ∧ ∃ acc es, H D = some (.lst acc) ∧ Paired (fun v e => ∀ o, Ro (upd H D o) v e) acc es ∧ es.length ≤ i ∧ Z (ds.take i) es,
    ⟨ds.length, Nat.zero_add _, SB.of (same_upd hD), keepF F0, [], [], upd_same, .nil, Nat.le_refl _, Z0⟩, ?_⟩
  rintro i m H ⟨him, sb, f, acc, es, hacc, pr, hlen, hZ⟩
  cases m with
  | zero =>
    have e : i = ds.length := by omega
    subst e
    rw [List.take_length] at hZ
    refine .inl ⟨S.stops H sb, done es H acc hZ sb f hacc (Paired.mono (fun v e h => ?_) pr)⟩
    have := h (.lst acc)
    rw [upd_id hacc] at this
    exact this
  | succ m =>
    have hlt : i < ds.length := by omega
    refine .inr ⟨S.goes i H hlt sb, fun H' => i + 1 + m = ds.length ∧ SB P H1 H' ∧ F H' ∧ ∃ acc es, H' D = some (.lst acc) ∧ Paired (fun v e => ∀ o, Ro (upd H' D o) v e) acc es ∧ es.length ≤ i + 1 ∧ Z (ds.take (i + 1)) es,
      fun H' p' => ⟨m, Nat.lt_succ_self m, p'⟩, fun x H' y => ?_⟩
    obtain ⟨hH', d, hd, hx⟩ := S.yields i H x H' hlt sb y
    have sb0 : SB P H H' ∧ F H' ∧ H' D = some (.lst acc) := by
      rcases hH' with rfl | ⟨T, o, hT, rfl⟩
      · exact ⟨SB.refl _, f, hacc⟩
      · exact ⟨SB.of (same_upd hT), hF _ _ (fun b hb => upd_ne (fun z => hPF H f b hb (z ▸ hT))) f, by rw [upd_ne (ne_of_none hacc hT)]; exact hacc⟩
    obtain ⟨sb0, f', hacc'⟩ := sb0
    have hsplit : ds = ds.take i ++ d :: ds.drop (i + 1) := by
      have h1 : ds[i]'hlt = d := (List.getElem?_eq_some_iff.mp hd).2
      rw [← h1]
      exact (List.take_append_drop i ds).symm.trans (by rw [List.drop_eq_getElem_cons hlt])
    have ht1 : ds.take (i + 1) = ds.take i ++ [d] := by
      rw [List.take_add_one, hd]; rfl
    have hl := pr.length
    have prTo : ∀ {H4 : Hp}, SB P H' H4 → Paired (fun v e => ∀ o, Ro (upd H4 D o) v e) acc es := fun s4 => Paired.mono (fun v e h o => hRo _ _ _ _ (SB.updD (sb0.trans s4)) (keepF f) (h o)) pr
    refine turn (ds.take i) d (ds.drop (i + 1)) es x H' acc _ _ hsplit hZ (sb.trans sb0) f' hacc' hx (fun y2 H4 e s4 f4 he hz4 => ?_) (fun H3 s3 f3 hz3 => ?_)
    · refine ⟨acc, s4 _ _ hacc' nPD, by omega, by omega, ?_, keepF f4, acc ++ [y2], es ++ [e], upd_same, ?_, ?_, by rw [ht1]; exact hz4⟩
      · intro b o hb hp
        rw [upd_ne (fun z => by rw [z, hD] at hb; cases hb)]
        exact ((sb.trans sb0).trans s4) b o hb hp
      · refine Paired.snoc (Paired.mono (fun v e h o => ?_) (prTo s4)) (fun o => ?_)
        · rw [upd_upd]; exact h o
        · rw [upd_upd]; exact he o
      · simp; omega
    · exact ⟨by omega, (sb.trans sb0).trans s3, f3, acc, es, s3 _ _ hacc' nPD, prTo s3, by omega, by rw [ht1]; exact hz3⟩
/-- nothing is changed; each item gives at most one -/
theorem lc_pure (S : Src J (fun _ => False) H1 R ds) (hD : H1 D = none) (hz : ds.length < sizeLine) (hRo : Stays Ro) (f : δ → Option ε)
    (turn : ∀ d x H acc (Ny : V → Hp → Prop) (Nn : Hp → Prop), d ∈ ds → Same H1 H → H D = some (.lst acc) → R H x d →
      (∀ y H4 e, Same H H4 → (∀ o, Ro (upd H4 D o) y e) → f d = some e → Ny y H4) → (∀ H3, Same H H3 → f d = none → Nn H3) →
      g x (wipe σ vs) H fun σ2 H2 => wipe σ2 vs = wipe σ vs ∧ tt σ2 H2 fun b H3 => if b = true then te σ2 H3 Ny else Nn H3)
    (done : ∀ H acc, Same H1 H → H D = some (.lst acc) → Paired (Ro H) acc (ds.filterMap f) → Qd H) :
    ∃ W : Nat → Nat → Hp → Prop, (∃ m, W 0 m (upd H1 D (.lst []))) ∧ ∀ i m H, W i m H →
      (J.stop i H ∧ Qd H) ∨ (J.go i H ∧ ∃ Nx : Hp → Prop, (∀ H', Nx H' → ∃ m', m' < m ∧ W (i + 1) m' H') ∧ ∀ x H', J.yld i H x H' → g x (wipe σ vs) H' fun σ2 H2 => wipe σ2 vs = wipe σ vs ∧ tt σ2 H2 fun b H3 =>
        if b = true then te σ2 H3 fun y H4 => ∃ acc, H4 D = some (.lst acc) ∧ acc.length < sizeLine ∧ Nx (upd H4 D (.lst (acc ++ [y]))) else Nx H3) := by
  refine lc_main S hD hz (fun _ => True) (fun _ _ _ z => z.elim) (fun _ _ _ _ => trivial) trivial (fun H H' v e s _ h => hRo H H' v e s.same h) (fun pre es => es = pre.filterMap f) rfl (fun pre d post es x H acc Ny Nn hs hZ sb _ hacc hx hy hn => ?_) (fun es H acc hZ sb _ hacc pr => ?_)
  · refine turn d x H acc Ny Nn (by rw [hs]; simp) sb.same hacc hx (fun y H4 e s4 he hfe => hy y H4 e (SB.of s4) trivial he ?_) fun H3 s3 hfe => hn H3 (SB.of s3) trivial ?_
    · rw [List.filterMap_append, hZ]; simp [hfe]
    · rw [List.filterMap_append, hZ]; simp [hfe]
  · rw [hZ] at pr
    exact done H acc sb.same hacc pr
end

/-! ### a loop, by its data -/
theorem for_src {δ : Type} {P : Addr → Prop} {H1 : Hp} {J : It} {R : Rel δ} {ds : List δ} {g : TG} {tb : TS} {D : Ends} {σ : L2.St} (S : Src J P H1 R ds) (Pv : List δ → L2.St → Hp → Prop) (h0 : Pv [] σ H1) (hS : ∀ pre σ H, Pv pre σ H → SB P H1 H)
    (turn : ∀ pre d post x σ H H', ds = pre ++ d :: post → Pv pre σ H → (H' = H ∨ ∃ T o, H T = none ∧ H' = upd H T o) → R H' x d → g x σ H' fun σ2 H2 => tb { D with nx := Pv (pre ++ [d]), ct := Pv (pre ++ [d]), bk := D.nx } σ2 H2)
    (done : ∀ σ H, Pv ds σ H → D.nx σ H) :
    ∃ W : Nat → Nat → L2.St → Hp → Prop, (∃ m, W 0 m σ H1) ∧ ∀ i m σ H, W i m σ H →
      (J.stop i H ∧ D.nx σ H) ∨ (J.go i H ∧ ∃ N : L2.St → Hp → Prop, (∀ σ' H', N σ' H' → ∃ m', m' < m ∧ W (i + 1) m' σ' H') ∧ ∀ x H', J.yld i H x H' → g x σ H' fun σ2 H2 => tb { D with nx := N, ct := N, bk := D.nx } σ2 H2) := by
  refine ⟨fun i m σ H => i + m = ds.length ∧ Pv (ds.take i) σ H, ⟨ds.length, Nat.zero_add _, h0⟩, ?_⟩
  rintro i m σ H ⟨him, p⟩
  cases m with
  | zero =>
    have e : i = ds.length := by omega
    subst e
    rw [List.take_length] at p
    exact .inl ⟨S.stops H (hS _ _ _ p), done σ H p⟩
  | succ m =>
    have hlt : i < ds.length := by omega
    refine .inr ⟨S.goes i H hlt (hS _ _ _ p), fun σ' H' => Pv (ds.take (i + 1)) σ' H', fun σ' H' p' => ⟨m, Nat.lt_succ_self m, by omega, p'⟩, fun x H' y => ?_⟩
    obtain ⟨hH', d, hd, hx⟩ := S.yields i H x H' hlt (hS _ _ _ p) y
    have hsplit : ds = ds.take i ++ d :: ds.drop (i + 1) := by
      have h1 : ds[i]'hlt = d := (List.getElem?_eq_some_iff.mp hd).2
      rw [← h1]
      exact (List.take_append_drop i ds).symm.trans (by rw [List.drop_eq_getElem_cons hlt])
    have ht1 : ds.take (i + 1) = ds.take i ++ [d] := by
      rw [List.take_add_one, hd]; rfl
    rw [ht1]
    exact turn (ds.take i) d (ds.drop (i + 1)) x σ H H' hsplit p hH' hx
end Om
/-! Uses of defs by name; data as PyData; the plan, the crowd, the rule in the heap. -/
namespace Om
open PySem PySem.Spec PyProof.Rows L2 OmM

/-! ### a def of the module, a method, by its promise -/
structure UF (P : Program) (w : World) (K : PySem.W.Frag) (mg : Str → Option Value) (base : Heap) (k : Nat) (x : Str) (ps : List Str) (sp : Sp) : Prop where
  ex : ∃ f fd, FnOk P w K mg base CX0 k f fd ps sp ∧ mg x = some (.ref f) ∧ PySem.W.keepIn K (.ref f) = true ∧ Binds K fd ps []
structure UM (P : Program) (w : World) (K : PySem.W.Frag) (mg : Str → Option Value) (base : Heap) (k : Nat) (C : Addr) (m : Str) (ps : List Str) (sp : Sp) : Prop where
  ex : ∃ f fd, FnOk P w K mg base CX0 k f fd ps sp ∧ Meth K C m f ∧ Binds K fd ps []
structure UI (P : Program) (w : World) (K : PySem.W.Frag) (mg : Str → Option Value) (base : Heap) (k : Nat) (C : Addr) (f : Str) : Prop where
  ex : ∃ g fd, FnIt P w K mg base k g fd C f ∧ Meth K C "__iter__" g ∧ Binds K fd ["self"] []
section
variable {X : Cx} {k : Nat} {x m : Str} {C : Addr} {ps : List Str} {sp : Sp} {e o : Expr} {es : List Expr} {p pos apos : Pos} {t : TA} {ta te : TE}
theorem pe_f (U : UF X.prog X.w X.K X.mg X.base k x ps sp) (hr : Room k X.A) (ha : PA X (e :: es) t) (hg : Gl X x := by rfl) (hdb : (x == ("__debug__" : Str)) = false := by decide)
    (he : starEach (e :: es) X.env = (false, eval e X.env) :: starEach es X.env := by rfl) (hpl : (backTo pos (starEach es X.env)).any (·.1) = false := by rfl) : PE X (.Call (.Name x p) (e :: es) [] pos) (tCall sp [] E0 t) := by
  obtain ⟨f, fd, F, hm, hk, hb⟩ := U.ex
  exact pe_call F hr hg hm hk hb .nil pass0 ha hdb he hpl
theorem pe_m {pl : Sem Bool} (U : UM X.prog X.w X.K X.mg X.base k C m ps sp) (c : Cls X.K C) (hr : Room k X.A) (ho : PE X o ta) (ha : PA X (e :: es) t) (hst : starEach (e :: es) X.env = (false, eval e X.env) :: starEach es X.env := by rfl) (hpl : (backTo pos (starEach es X.env)).any (·.1) = false := by rfl)
    (ht : eval (.Call (.Attribute o m apos) (e :: es) [] pos) X.env = (do
      let ov ← eval o X.env
      standAt apos.atName
      let (f, first) ← holding [ov] (getMethod ov m pl)
      callWith pos f first (backTo pos (starEach (e :: es) X.env)) (backToKw pos (keywordEach [] X.env))) := by rfl) : PE X (.Call (.Attribute o m apos) (e :: es) [] pos) (tMeth C m sp [] E0 ta t) := by
  obtain ⟨f, fd, F, hm, hb⟩ := U.ex
  exact pe_meth (pl := pl) ho c hm F hr hb .nil pass0 ha hst hpl ht
theorem pe_m0 {pl : Sem Bool} (U : UM X.prog X.w X.K X.mg X.base k C m ps sp) (c : Cls X.K C) (hr : Room k X.A) (ho : PE X o ta)
    (ht : eval (.Call (.Attribute o m apos) [] [] pos) X.env = (do
      let ov ← eval o X.env
      standAt apos.atName
      let (f, first) ← holding [ov] (getMethod ov m pl)
      callWith pos f first (backTo pos (starEach [] X.env)) (backToKw pos (keywordEach [] X.env))) := by rfl) : PE X (.Call (.Attribute o m apos) [] [] pos) (tMeth C m sp [] E0 ta tNil) := by
  obtain ⟨f, fd, F, hm, hb⟩ := U.ex
  exact pe_meth0 (pl := pl) ho c hm F hr hb .nil pass0 ht
theorem op_inU (U : UM X.prog X.w X.K X.mg X.base k C "__contains__" ps sp) (hr : Room k X.A) : OpR X (compareOp .In) (rInO C sp E0 false) := by
  obtain ⟨f, fd, F, hm, hb⟩ := U.ex
  exact op_inO hm.at_ hm.fn F hr hb pass0
theorem op_notInU (U : UM X.prog X.w X.K X.mg X.base k C "__contains__" ps sp) (hr : Room k X.A) : OpR X (compareOp .NotIn) (rInO C sp E0 true) := by
  obtain ⟨f, fd, F, hm, hb⟩ := U.ex
  exact op_notInO hm.at_ hm.fn F hr hb pass0
theorem call_lenU (U : UM X.prog X.w X.K X.mg X.base k C "__len__" ps sp) (hr : Room (k + 1) X.A) : CallR X (.builtin "len") (rLenO C sp E0) := by
  obtain ⟨f, fd, F, hm, hb⟩ := U.ex
  exact call_lenO hm.at_ hm.fn F hr hb pass0
theorem pi_ownU {tg : Expr} {f : Str} (U : UI X.prog X.w X.K X.mg X.base k C f) (hr : Room k X.A) (he : PE X e te) : PI X tg e (iOwn C f te) := by
  obtain ⟨g, fd, F, hm, hb⟩ := U.ex
  exact pi_own hm.at_ hm.fn F hr hb he
/-- a built-in function, a built-in class, called -/
theorem pe_b {id : String} {r : List V → Hp → VK → Prop} (hc : CallR X (.builtin id) r) (hm : X.mg x = none) (ha : PA X (e :: es) t) (hg : Gl X x := by rfl) (hv : bootBuiltins x = some (.builtin id) := by decide +kernel) (hn : x ≠ "__name__" := by decide) (hdb : (x == ("__debug__" : Str)) = false := by decide)
    (he : starEach (e :: es) X.env = (false, eval e X.env) :: starEach es X.env := by rfl) (hpl : (backTo pos (starEach es X.env)).any (·.1) = false := by rfl) : PE X (.Call (.Name x p) (e :: es) [] pos) (tCB r t) := pe_callB hc hg hm hv ha hn hdb he hpl
theorem pe_bt {T : String} {r : List V → Hp → VK → Prop} (hc : CallR X (.type T) r) (hm : X.mg x = none) (ha : PA X (e :: es) t) (hg : Gl X x := by rfl) (hv : bootBuiltins x = some (.type T) := by decide +kernel) (hn : x ≠ "__name__" := by decide) (hdb : (x == ("__debug__" : Str)) = false := by decide)
    (he : starEach (e :: es) X.env = (false, eval e X.env) :: starEach es X.env := by rfl) (hpl : (backTo pos (starEach es X.env)).any (·.1) = false := by rfl) : PE X (.Call (.Name x p) (e :: es) [] pos) (tCB r t) := pe_callTy hc hg hm hv ha hn hdb he hpl
theorem ty_ {T : String} (hm : X.mg x = none) (hg : Gl X x := by rfl) (hv : bootBuiltins x = some (.type T) := by decide +kernel) (hn : x ≠ "__name__" := by decide) (hd : (x == ("__debug__" : Str)) = false := by decide) : PE X (.Name x p) (tC (.ty T)) := pe_bltn hg hm hv rfl hn hd
theorem gl_ref {a : Addr} (hm : X.mg x = some (.ref a)) (hg : Gl X x := by rfl) (hd : (x == ("__debug__" : Str)) = false := by decide) : PE X (.Name x p) (tC (.ref a)) := pe_glob hg hm rfl hd
theorem gl_int {i : Int} (hm : ∃ u, X.mg x = some (.int i u)) (hg : Gl X x := by rfl) (hd : (x == ("__debug__" : Str)) = false := by decide) : PE X (.Name x p) (tC (.int i)) := by
  obtain ⟨u, hm⟩ := hm
  exact pe_glob hg hm ⟨u, rfl⟩ hd
theorem gl_str {z : Str} (hm : ∃ u, X.mg x = some (.str z u)) (hg : Gl X x := by rfl) (hd : (x == ("__debug__" : Str)) = false := by decide) : PE X (.Name x p) (tC (.str z)) := by
  obtain ⟨u, hm⟩ := hm
  exact pe_glob hg hm ⟨u, rfl⟩ hd
end

/-! ### data as PyData -/
section
variable {K : PySem.W.Frag} {H : Hp} {a : Addr}
def dStrs (ss : List Str) : PyData := .list (ss.map .str)
def dP (p : Str × Str) : PyData := .tuple [.str p.1, .str p.2]
def dP3 (p : Str × Str × Str) : PyData := .tuple [.str p.1, .str p.2.1, .str p.2.2]
theorem dp_strs_all : ∀ ss : List Str, DpAll K H (ss.map V.str) (ss.map .str)
  | [] => .nil
  | _ :: ss => .cons (.str _) (dp_strs_all ss)
theorem dp_strs {ss : List Str} (h : H a = some (.lst (ss.map V.str))) : Dp K H (.ref a) (dStrs ss) := .lst (.of h) (dp_strs_all ss)
theorem dp_pair {v : V} {p : Str × Str} (h : RP H v p) : Dp K H v (dP p) := by
  obtain ⟨q, rfl, h⟩ := h
  exact .tup (.of h) (.cons (.str _) (.cons (.str _) .nil))
theorem dp_trip {v : V} {p : Str × Str × Str} (h : RP3 H v p) : Dp K H v (dP3 p) := by
  obtain ⟨q, rfl, h⟩ := h
  exact .tup (.of h) (.cons (.str _) (.cons (.str _) (.cons (.str _) .nil)))
theorem dp_all {δ : Type} {R : Rel δ} {f : δ → PyData} (hf : ∀ v d, R H v d → Dp K H v (f d)) : ∀ {vs : List V} {ds : List δ}, Paired (R H) vs ds → DpAll K H vs (ds.map f)
  | _, _, .nil => .nil
  | _, _, .cons h t => .cons (hf _ _ h) (dp_all hf t)
theorem dp_pairs {ps : List (Str × Str)} (h : LAt RP H a ps) : Dp K H (.ref a) (.list (ps.map dP)) := let ⟨_, h1, h2⟩ := h; .lst (.of h1) (dp_all (fun _ _ => dp_pair) h2)
theorem dp_trips {ps : List (Str × Str × Str)} (h : LAt RP3 H a ps) : Dp K H (.ref a) (.list (ps.map dP3)) := let ⟨_, h1, h2⟩ := h; .lst (.of h1) (dp_all (fun _ _ => dp_trip) h2)
end
/-- the names that may stand -/
def menu : List Str := ["ann", "bo", "cy", "dee", "eve", "fay", "gus", "z"]
theorem menu_ok : ∀ s ∈ menu, PyData.strOk s = true ∧ (s.cps.toList.all fun c => decide (c < 16 ^ 8)) = true ∧ s.cps.size ≤ 3 ∧ (∀ c ∈ s.cps.toList, c ∈ ("abcdefghijklmnopqrstuvwxyz" : Str).cps.toList) ∧ 1 ≤ s.length ∧ s.length ≤ 8 := by decide +kernel
/-- pairs, triples of such names -/
abbrev Nm (s : Str) : Prop := s ∈ menu
theorem eqv_strs : ∀ xs ys : List Str, PyData.eqvAll (xs.map .str) (ys.map .str) = decide (xs = ys)
  | [], [] => by simp [PyData.eqvAll]
  | [], _ :: _ => by simp [PyData.eqvAll]
  | _ :: _, [] => by simp [PyData.eqvAll]
  | x :: xs, y :: ys => by
    simp only [List.map_cons, PyData.eqvAll, PyData.eqv, eqv_strs xs ys]
    by_cases h : x = y
    · subst h; by_cases h2 : xs = ys <;> simp [h2]
    · simp [h]
theorem eqv_dP (p q : Str × Str) : PyData.eqv (dP p) (dP q) = decide (p = q) := by
  obtain ⟨a, b⟩ := p
  obtain ⟨c, d⟩ := q
  have e : PyData.eqv (dP (a, b)) (dP (c, d)) = ((a == c) && ((b == d) && true)) := by simp only [dP, PyData.eqv, PyData.eqvAll]
  rw [e]
  by_cases h : a = c
  · subst h
    by_cases h2 : b = d
    · subst h2; simp
    · simp [h2]
  · simp [h]
theorem eqv_pairs : ∀ xs ys : List (Str × Str), PyData.eqvAll (xs.map dP) (ys.map dP) = decide (xs = ys)
  | [], [] => by simp [PyData.eqvAll]
  | [], _ :: _ => by simp [PyData.eqvAll]
  | _ :: _, [] => by simp [PyData.eqvAll]
  | x :: xs, y :: ys => by
    simp only [List.map_cons, PyData.eqvAll, eqv_dP, eqv_pairs xs ys]
    by_cases h : x = y
    · subst h; by_cases h2 : xs = ys <;> simp [h2]
    · simp [h]
theorem any_dP (p : Str × Str) (ps : List (Str × Str)) : ((ps.map dP).any fun z => PyData.eqv z (dP p)) = decide (p ∈ ps) := by
  induction ps with
  | nil => simp
  | cons q ps ih =>
    rw [List.map_cons, List.any_cons, ih, eqv_dP]
    by_cases h : q = p
    · subst h; simp
    · simp [h, Ne.symm h, show ¬ p = q from fun e => h e.symm]
theorem lay_strs {ss : List Str} (h : ∀ s ∈ ss, Nm s) : PyData.canLayAll0 (ss.map .str) = true := by
  induction ss with
  | nil => simp [PyData.canLayAll0]
  | cons s ss ih =>
    simp only [List.map_cons, PyData.canLayAll0, PyData.canLay0, Bool.and_eq_true]
    exact ⟨(menu_ok s (h s List.mem_cons_self)).1, ih fun t ht => h t (List.mem_cons_of_mem _ ht)⟩
theorem depth_strs : ∀ ss : List Str, PyData.depthAll (ss.map .str) = 0
  | [] => by simp [PyData.depthAll]
  | _ :: ss => by simp [PyData.depthAll, PyData.depth, depth_strs ss]
theorem lay_dP {p : Str × Str} (h1 : Nm p.1) (h2 : Nm p.2) : (dP p).canLay0 = true := by
  simp [dP, PyData.canLay0, PyData.canLayAll0, (menu_ok _ h1).1, (menu_ok _ h2).1]
theorem depth_dP (p : Str × Str) : (dP p).depth = 1 := by simp [dP, PyData.depth, PyData.depthAll]
theorem lay_pairs {ps : List (Str × Str)} (h : ∀ p ∈ ps, Nm p.1 ∧ Nm p.2) : PyData.canLayAll0 (ps.map dP) = true := by
  induction ps with
  | nil => simp [PyData.canLayAll0]
  | cons s ss ih =>
    simp only [List.map_cons, PyData.canLayAll0, Bool.and_eq_true]
    exact ⟨lay_dP (h s List.mem_cons_self).1 (h s List.mem_cons_self).2, ih fun t ht => h t (List.mem_cons_of_mem _ ht)⟩
theorem depth_pairs : ∀ ps : List (Str × Str), PyData.depthAll (ps.map dP) ≤ 1
  | [] => by simp [PyData.depthAll]
  | p :: ps => by
    have := depth_pairs ps
    have := depth_dP p
    simp only [List.map_cons, PyData.depthAll]
    omega
theorem lay_dP3 {p : Str × Str × Str} (h1 : Nm p.1) (h2 : Nm p.2.1) (h3 : Nm p.2.2) : (dP3 p).canLay0 = true := by
  simp [dP3, PyData.canLay0, PyData.canLayAll0, (menu_ok _ h1).1, (menu_ok _ h2).1, (menu_ok _ h3).1]
theorem depth_dP3 (p : Str × Str × Str) : (dP3 p).depth = 1 := by simp [dP3, PyData.depth, PyData.depthAll]
theorem lay_trips {ps : List (Str × Str × Str)} (h : ∀ p ∈ ps, Nm p.1 ∧ Nm p.2.1 ∧ Nm p.2.2) : PyData.canLayAll0 (ps.map dP3) = true := by
  induction ps with
  | nil => simp [PyData.canLayAll0]
  | cons s ss ih =>
    simp only [List.map_cons, PyData.canLayAll0, Bool.and_eq_true]
    obtain ⟨a, b, c⟩ := h s List.mem_cons_self
    exact ⟨lay_dP3 a b c, ih fun t ht => h t (List.mem_cons_of_mem _ ht)⟩
theorem depth_trips : ∀ ps : List (Str × Str × Str), PyData.depthAll (ps.map dP3) ≤ 1
  | [] => by simp [PyData.depthAll]
  | p :: ps => by
    have := depth_trips ps
    have := depth_dP3 p
    simp only [List.map_cons, PyData.depthAll]
    omega
theorem shaped_of {d : PyData} (h1 : d.canLay0 = true) (h2 : d.depth ≤ 64) : SeqAt.shaped d = true := by
  show (d.canLay0 && decide (d.depth ≤ 64)) = true
  rw [Bool.and_eq_true]
  exact ⟨h1, decide_eq_true h2⟩
theorem shaped_strs {ss : List Str} (h : ∀ s ∈ ss, Nm s) : SeqAt.shaped (dStrs ss) = true := shaped_of (by simp only [dStrs, PyData.canLay0]; exact lay_strs h) (by simp only [dStrs, PyData.depth, depth_strs]; omega)
theorem shaped_pairs {ps : List (Str × Str)} (h : ∀ p ∈ ps, Nm p.1 ∧ Nm p.2) : SeqAt.shaped (.list (ps.map dP)) = true := shaped_of (by simp only [PyData.canLay0]; exact lay_pairs h) (by have := depth_pairs ps; simp only [PyData.depth]; omega)
theorem shaped_dP {p : Str × Str} (h1 : Nm p.1) (h2 : Nm p.2) : SeqAt.shaped (dP p) = true := shaped_of (lay_dP h1 h2) (by rw [depth_dP]; omega)
/-- flat membership -/
theorem inV_str (x : Str) (ss : List Str) : inV (.str x) (ss.map V.str) = decide (x ∈ ss) := by
  unfold inV
  induction ss with
  | nil => simp
  | cons s ss ih =>
    rw [List.map_cons, List.any_cons, ih]
    show ((s == x) || _) = _
    by_cases h : s = x
    · subst h; simp
    · simp [h, show ¬ x = s from fun e => h e.symm]
theorem flat_strs (ss : List Str) : (ss.map V.str).all flatV = true := by
  rw [List.all_eq_true]
  intro v hv
  obtain ⟨s, _, rfl⟩ := List.mem_map.mp hv
  rfl
/-- the written form fits -/
theorem show_pairs {ps : List (Str × Str)} (h : ∀ p ∈ ps, Nm p.1 ∧ Nm p.2) (hl : ps.length ≤ 10000) : (PyData.list (ps.map dP)).shown.length ≤ sizeLine := by
  refine PyData.shown_fits (B := 8) (by decide) (by decide) ?_ ?_
  · simp only [PyData.leavesShort]
    clear hl
    induction ps with
    | nil => simp [PyData.leavesShortAll]
    | cons p ps ih =>
      obtain ⟨a, b⟩ := h p List.mem_cons_self
      simp only [List.map_cons, PyData.leavesShortAll, Bool.and_eq_true]
      refine ⟨?_, ih fun t ht => h t (List.mem_cons_of_mem _ ht)⟩
      simp only [dP, PyData.leavesShort, PyData.leavesShortAll, Bool.and_eq_true]
      exact ⟨(menu_ok _ a).2.1, (menu_ok _ b).2.1, trivial⟩
  · have : ∀ ps : List (Str × Str), (∀ p ∈ ps, Nm p.1 ∧ Nm p.2) → PyData.weightAll (ps.map dP) ≤ 10 * ps.length := by
      intro ps
      induction ps with
      | nil => intro _; simp [PyData.weightAll]
      | cons p ps ih =>
        intro h
        obtain ⟨a, b⟩ := h p List.mem_cons_self
        have h1 := (menu_ok _ a).2.2.1
        have h2 := (menu_ok _ b).2.2.1
        have h3 := ih fun t ht => h t (List.mem_cons_of_mem _ ht)
        simp only [List.map_cons, PyData.weightAll, dP, PyData.weight, List.length_cons]
        omega
    have := this ps h
    simp only [PyData.weight]
    omega
theorem show_trips {ps : List (Str × Str × Str)} (h : ∀ p ∈ ps, Nm p.1 ∧ Nm p.2.1 ∧ Nm p.2.2) (hl : ps.length ≤ 10000) : (PyData.list (ps.map dP3)).shown.length ≤ sizeLine := by
  refine PyData.shown_fits (B := 8) (by decide) (by decide) ?_ ?_
  · simp only [PyData.leavesShort]
    clear hl
    induction ps with
    | nil => simp [PyData.leavesShortAll]
    | cons p ps ih =>
      obtain ⟨a, b, c⟩ := h p List.mem_cons_self
      simp only [List.map_cons, PyData.leavesShortAll, Bool.and_eq_true]
      refine ⟨?_, ih fun t ht => h t (List.mem_cons_of_mem _ ht)⟩
      simp only [dP3, PyData.leavesShort, PyData.leavesShortAll, Bool.and_eq_true]
      exact ⟨(menu_ok _ a).2.1, (menu_ok _ b).2.1, (menu_ok _ c).2.1, trivial⟩
  · have : ∀ ps : List (Str × Str × Str), (∀ p ∈ ps, Nm p.1 ∧ Nm p.2.1 ∧ Nm p.2.2) → PyData.weightAll (ps.map dP3) ≤ 13 * ps.length := by
      intro ps
      induction ps with
      | nil => intro _; simp [PyData.weightAll]
      | cons p ps ih =>
        intro h
        obtain ⟨a, b, c⟩ := h p List.mem_cons_self
        have h1 := (menu_ok _ a).2.2.1
        have h2 := (menu_ok _ b).2.2.1
        have h3 := (menu_ok _ c).2.2.1
        have h4 := ih fun t ht => h t (List.mem_cons_of_mem _ ht)
        simp only [List.map_cons, PyData.weightAll, dP3, PyData.weight, List.length_cons]
        omega
    have := this ps h
    simp only [PyData.weight]
    omega
end Om
/-! The text by places; what its top has written; the crowd, the rule, the plan in the heap. -/
namespace Om
open PySem PySem.Spec PyProof.Rows L2 OmM
def top (i : Nat) : Stmt := PySem.Challenge.pw_ownmarks_k16_whole_what_ranks_read.main.body.getD i (.Pass ⟨0, 0, 0, 0⟩)
abbrev s_is_count : Stmt := top 8
abbrev s_is_one_of : Stmt := top 9
abbrev s_is_word : Stmt := top 15
abbrev s_are_people : Stmt := top 16
abbrev s_C_init : Stmt := inClass (top 17) 0
abbrev s_C_people : Stmt := inClass (top 17) 1
abbrev s_C_len : Stmt := inClass (top 17) 3
abbrev s_C_contains : Stmt := inClass (top 17) 4
abbrev s_C_iter : Stmt := inClass (top 17) 5
abbrev s_C_pairs : Stmt := inClass (top 17) 7
abbrev s_C_is_pair : Stmt := inClass (top 17) 8
abbrev s_check_crowd : Stmt := top 18
abbrev s_are_reads : Stmt := top 25
abbrev s_are_lists : Stmt := top 26
abbrev s_R_init : Stmt := inClass (top 27) 0
abbrev s_R_contains : Stmt := inClass (top 27) 8
abbrev s_R_iter : Stmt := inClass (top 27) 9
abbrev s_R_has_readers : Stmt := inClass (top 27) 10
abbrev s_R_list_of : Stmt := inClass (top 27) 13
abbrev s_lists_in_order : Stmt := top 28
abbrev s_first_of : Stmt := top 29
abbrev s_check_rule : Stmt := top 34
abbrev s_check_person : Stmt := top 35
abbrev s_is_read_by : Stmt := top 37
abbrev s_rank_reads : Stmt := top 38
abbrev s_own_reads : Stmt := top 39
abbrev s_safe_people : Stmt := top 40
abbrev s_is_safe : Stmt := top 41
abbrev s_ways : Stmt := top 42
abbrev s_l_opened : Stmt := top 44
abbrev s_l_draw : Stmt := top 45
abbrev s_l_pick : Stmt := top 46
abbrev s_l_people : Stmt := top 47
abbrev s_l_pairs : Stmt := top 48
abbrev s_l_parted : Stmt := top 49
abbrev s_l_unlike : Stmt := top 50
abbrev s_l_readers : Stmt := top 51
abbrev s_l_list : Stmt := top 52
abbrev s_l_plan : Stmt := top 53
abbrev s_l_made : Stmt := top 54
abbrev s_l_own : Stmt := top 55
abbrev s_l_read_by_rank : Stmt := top 56
abbrev s_law : Stmt := top 57
def n_is_count : List Str := ["value", "least", "most"]
theorem sc_is_count : FnScope n_is_count ["value", "least", "most"] (defScope s_is_count) := ⟨rfl, rfl, rfl, by decide +kernel, rfl, by decide +kernel, by decide +kernel⟩
def n_is_one_of : List Str := ["value", "texts"]
theorem sc_is_one_of : FnScope n_is_one_of ["value", "texts"] (defScope s_is_one_of) := ⟨rfl, rfl, rfl, by decide +kernel, rfl, by decide +kernel, by decide +kernel⟩
def n_is_word : List Str := ["value", "sign"]
theorem sc_is_word : FnScope n_is_word ["value"] (defScope s_is_word) := ⟨rfl, rfl, rfl, by decide +kernel, rfl, by decide +kernel, by decide +kernel⟩
def n_are_people : List Str := ["value", "one"]
theorem sc_are_people : FnScope n_are_people ["value"] (defScope s_are_people) := ⟨rfl, rfl, rfl, by decide +kernel, rfl, by decide +kernel, by decide +kernel⟩
def n_C_init : List Str := ["self", "people", "most", "at", "person"]
theorem sc_C_init : FnScope n_C_init ["self", "people", "most"] (defScope s_C_init) := ⟨rfl, rfl, rfl, by decide +kernel, rfl, by decide +kernel, by decide +kernel⟩
def n_C_people : List Str := ["self"]
theorem sc_C_people : FnScope n_C_people ["self"] (defScope s_C_people) := ⟨rfl, rfl, rfl, by decide +kernel, rfl, by decide +kernel, by decide +kernel⟩
def n_C_len : List Str := ["self"]
theorem sc_C_len : FnScope n_C_len ["self"] (defScope s_C_len) := ⟨rfl, rfl, rfl, by decide +kernel, rfl, by decide +kernel, by decide +kernel⟩
def n_C_contains : List Str := ["self", "person"]
theorem sc_C_contains : FnScope n_C_contains ["self", "person"] (defScope s_C_contains) := ⟨rfl, rfl, rfl, by decide +kernel, rfl, by decide +kernel, by decide +kernel⟩
def n_C_iter : List Str := ["self"]
theorem sc_C_iter : FnScope n_C_iter ["self"] (defScope s_C_iter) := ⟨rfl, rfl, rfl, by decide +kernel, rfl, by decide +kernel, by decide +kernel⟩
def n_C_pairs : List Str := ["self", "one", "other"]
theorem sc_C_pairs : FnScope n_C_pairs ["self"] (defScope s_C_pairs) := ⟨rfl, rfl, rfl, by decide +kernel, rfl, by decide +kernel, by decide +kernel⟩
def n_C_is_pair : List Str := ["self", "value"]
theorem sc_C_is_pair : FnScope n_C_is_pair ["self", "value"] (defScope s_C_is_pair) := ⟨rfl, rfl, rfl, by decide +kernel, rfl, by decide +kernel, by decide +kernel⟩
def n_check_crowd : List Str := ["value"]
theorem sc_check_crowd : FnScope n_check_crowd ["value"] (defScope s_check_crowd) := ⟨rfl, rfl, rfl, by decide +kernel, rfl, by decide +kernel, by decide +kernel⟩
def n_are_reads : List Str := ["crowd", "value", "one"]
theorem sc_are_reads : FnScope n_are_reads ["crowd", "value"] (defScope s_are_reads) := ⟨rfl, rfl, rfl, by decide +kernel, rfl, by decide +kernel, by decide +kernel⟩
def n_are_lists : List Str := ["crowd", "value", "one", "members", "person"]
theorem sc_are_lists : FnScope n_are_lists ["crowd", "value"] (defScope s_are_lists) := ⟨rfl, rfl, rfl, by decide +kernel, rfl, by decide +kernel, by decide +kernel⟩
def n_R_init : List Str := ["self", "crowd", "turn", "reads", "gather", "trim", "lists", "prizes", "pair", "one", "person"]
theorem sc_R_init : FnScope n_R_init ["self", "crowd", "turn", "reads", "gather", "trim", "lists", "prizes"] (defScope s_R_init) := ⟨rfl, rfl, rfl, by decide +kernel, rfl, by decide +kernel, by decide +kernel⟩
def n_R_contains : List Str := ["self", "pair"]
theorem sc_R_contains : FnScope n_R_contains ["self", "pair"] (defScope s_R_contains) := ⟨rfl, rfl, rfl, by decide +kernel, rfl, by decide +kernel, by decide +kernel⟩
def n_R_iter : List Str := ["self"]
theorem sc_R_iter : FnScope n_R_iter ["self"] (defScope s_R_iter) := ⟨rfl, rfl, rfl, by decide +kernel, rfl, by decide +kernel, by decide +kernel⟩
def n_R_has_readers : List Str := ["self", "person", "pair"]
theorem sc_R_has_readers : FnScope n_R_has_readers ["self", "person"] (defScope s_R_has_readers) := ⟨rfl, rfl, rfl, by decide +kernel, rfl, by decide +kernel, by decide +kernel⟩
def n_R_list_of : List Str := ["self", "person", "one"]
theorem sc_R_list_of : FnScope n_R_list_of ["self", "person"] (defScope s_R_list_of) := ⟨rfl, rfl, rfl, by decide +kernel, rfl, by decide +kernel, by decide +kernel⟩
def n_lists_in_order : List Str := ["crowd", "lists", "found", "person", "one", "other"]
theorem sc_lists_in_order : FnScope n_lists_in_order ["crowd", "lists"] (defScope s_lists_in_order) := ⟨rfl, rfl, rfl, by decide +kernel, rfl, by decide +kernel, by decide +kernel⟩
def n_first_of : List Str := ["crowd", "people", "person"]
theorem sc_first_of : FnScope n_first_of ["crowd", "people"] (defScope s_first_of) := ⟨rfl, rfl, rfl, by decide +kernel, rfl, by decide +kernel, by decide +kernel⟩
def n_check_rule : List Str := ["value"]
theorem sc_check_rule : FnScope n_check_rule ["value"] (defScope s_check_rule) := ⟨rfl, rfl, rfl, by decide +kernel, rfl, by decide +kernel, by decide +kernel⟩
def n_check_person : List Str := ["rule", "person"]
theorem sc_check_person : FnScope n_check_person ["rule", "person"] (defScope s_check_person) := ⟨rfl, rfl, rfl, by decide +kernel, rfl, by decide +kernel, by decide +kernel⟩
def n_is_read_by : List Str := ["rule", "pair", "person", "members", "member"]
theorem sc_is_read_by : FnScope n_is_read_by ["rule", "pair", "person"] (defScope s_is_read_by) := ⟨rfl, rfl, rfl, by decide +kernel, rfl, by decide +kernel, by decide +kernel⟩
def n_rank_reads : List Str := ["rule", "person", "pair"]
theorem sc_rank_reads : FnScope n_rank_reads ["rule", "person"] (defScope s_rank_reads) := ⟨rfl, rfl, rfl, by decide +kernel, rfl, by decide +kernel, by decide +kernel⟩
def n_own_reads : List Str := ["rule", "person", "members", "pair"]
theorem sc_own_reads : FnScope n_own_reads ["rule", "person"] (defScope s_own_reads) := ⟨rfl, rfl, rfl, by decide +kernel, rfl, by decide +kernel, by decide +kernel⟩
def n_safe_people : List Str := ["rule", "person"]
theorem sc_safe_people : FnScope n_safe_people ["rule"] (defScope s_safe_people) := ⟨rfl, rfl, rfl, by decide +kernel, rfl, by decide +kernel, by decide +kernel⟩
def n_is_safe : List Str := ["rule"]
theorem sc_is_safe : FnScope n_is_safe ["rule"] (defScope s_is_safe) := ⟨rfl, rfl, rfl, by decide +kernel, rfl, by decide +kernel, by decide +kernel⟩
def n_ways : List Str := ["rule", "person", "pair"]
theorem sc_ways : GScope n_ways ["rule"] (defScope s_ways) := ⟨rfl, rfl, rfl, by decide +kernel, rfl, by decide +kernel, by decide +kernel⟩
def n_l_opened : List Str := ["_law_script", "_law_k", "_law_cell", "_law_great"]
theorem sc_l_opened : FnScope n_l_opened ["_law_script", "_law_k"] (defScope s_l_opened) := ⟨rfl, rfl, rfl, by decide +kernel, rfl, by decide +kernel, by decide +kernel⟩
def n_l_draw : List Str := ["_law_pool", "_law_many", "_law_found"]
theorem sc_l_draw : FnScope n_l_draw ["_law_pool", "_law_many"] (defScope s_l_draw) := ⟨rfl, rfl, rfl, by decide +kernel, rfl, by decide +kernel, by decide +kernel⟩
def n_l_pick : List Str := ["_law_pool", "_law_some"]
theorem sc_l_pick : FnScope n_l_pick ["_law_pool", "_law_some"] (defScope s_l_pick) := ⟨rfl, rfl, rfl, by decide +kernel, rfl, by decide +kernel, by decide +kernel⟩
def n_l_people : List Str := ["_law_pool", "_law_many", "_law_menu", "_law_found", "_law_step"]
theorem sc_l_people : FnScope n_l_people ["_law_pool", "_law_many"] (defScope s_l_people) := ⟨rfl, rfl, rfl, by decide +kernel, rfl, by decide +kernel, by decide +kernel⟩
def n_l_pairs : List Str := ["_law_people_here", "_law_found", "_law_one", "_law_other"]
theorem sc_l_pairs : FnScope n_l_pairs ["_law_people_here"] (defScope s_l_pairs) := ⟨rfl, rfl, rfl, by decide +kernel, rfl, by decide +kernel, by decide +kernel⟩
def n_l_parted : List Str := ["_law_pool", "_law_people_here", "_law_many", "_law_found", "_law_where", "_law_person", "_law_number", "_law_at"]
theorem sc_l_parted : FnScope n_l_parted ["_law_pool", "_law_people_here"] (defScope s_l_parted) := ⟨rfl, rfl, rfl, by decide +kernel, rfl, by decide +kernel, by decide +kernel⟩
def n_l_unlike : List Str := ["_law_some", "_law_at", "_law_one"]
theorem sc_l_unlike : FnScope n_l_unlike ["_law_some"] (defScope s_l_unlike) := ⟨rfl, rfl, rfl, by decide +kernel, rfl, by decide +kernel, by decide +kernel⟩
def n_l_readers : List Str := ["_law_plan_here", "_law_person", "_law_one"]
theorem sc_l_readers : FnScope n_l_readers ["_law_plan_here", "_law_person"] (defScope s_l_readers) := ⟨rfl, rfl, rfl, by decide +kernel, rfl, by decide +kernel, by decide +kernel⟩
def n_l_list : List Str := ["_law_plan_here", "_law_person", "_law_members"]
theorem sc_l_list : FnScope n_l_list ["_law_plan_here", "_law_person"] (defScope s_l_list) := ⟨rfl, rfl, rfl, by decide +kernel, rfl, by decide +kernel, by decide +kernel⟩
def n_l_plan : List Str := ["_law_pool", "_law_least", "_law_many", "_law_top", "_law_menu", "_law_people_here", "_law_plan_here", "_law_rarely", "_law_pair", "_law_members", "_law_person", "_law_one", "_law_kinds", "_law_counts"]
theorem sc_l_plan : FnScope n_l_plan ["_law_pool", "_law_least", "_law_many", "_law_top", "_law_menu"] (defScope s_l_plan) := ⟨rfl, rfl, rfl, by decide +kernel, rfl, by decide +kernel, by decide +kernel⟩
def n_l_made : List Str := ["_law_plan_here", "_law_one"]
theorem sc_l_made : FnScope n_l_made ["_law_plan_here"] (defScope s_l_made) := ⟨rfl, rfl, rfl, by decide +kernel, rfl, by decide +kernel, by decide +kernel⟩
def n_l_own : List Str := ["_law_plan_here", "_law_person", "_law_pair"]
theorem sc_l_own : FnScope n_l_own ["_law_plan_here", "_law_person"] (defScope s_l_own) := ⟨rfl, rfl, rfl, by decide +kernel, rfl, by decide +kernel, by decide +kernel⟩
def n_l_read_by_rank : List Str := ["_law_plan_here", "_law_person", "_law_members", "_law_pair", "_law_markers"]
theorem sc_l_read_by_rank : FnScope n_l_read_by_rank ["_law_plan_here", "_law_person"] (defScope s_l_read_by_rank) := ⟨rfl, rfl, rfl, by decide +kernel, rfl, by decide +kernel, by decide +kernel⟩
def n_law : List Str := ["_law_script", "_law_k", "_law_pool", "_law_plan_here", "_law_rule", "_law_every", "_law_person", "_law_due", "_law_own_here", "_law_told", "_law_mine", "_law_pair", "_law_free", "_law_way"]
theorem sc_law : FnScope n_law ["_law_script"] (defScope s_law) := ⟨rfl, rfl, rfl, by decide +kernel, rfl, by decide +kernel, by decide +kernel⟩

def turns : List Str := ["plain", "centred", "placed"]
def gathers : List Str := ["sum", "mean", "median", "trim", "least", "greatest"]
def turnedGathers : List Str := ["sum", "mean"]
/-- where everything stands -/
structure Adr where
  C : Addr
  R : Addr
  pp : Addr
  a_TURNS : Addr
  a_GATHERS : Addr
  a_TURNED_GATHERS : Addr
  f_is_count : Addr
  d_is_count : FuncData
  f_is_one_of : Addr
  d_is_one_of : FuncData
  f_is_word : Addr
  d_is_word : FuncData
  f_are_people : Addr
  d_are_people : FuncData
  f_C_init : Addr
  d_C_init : FuncData
  f_C_people : Addr
  d_C_people : FuncData
  f_C_len : Addr
  d_C_len : FuncData
  f_C_contains : Addr
  d_C_contains : FuncData
  f_C_iter : Addr
  d_C_iter : FuncData
  f_C_pairs : Addr
  d_C_pairs : FuncData
  f_C_is_pair : Addr
  d_C_is_pair : FuncData
  f_check_crowd : Addr
  d_check_crowd : FuncData
  f_are_reads : Addr
  d_are_reads : FuncData
  f_are_lists : Addr
  d_are_lists : FuncData
  f_R_init : Addr
  d_R_init : FuncData
  f_R_contains : Addr
  d_R_contains : FuncData
  f_R_iter : Addr
  d_R_iter : FuncData
  f_R_has_readers : Addr
  d_R_has_readers : FuncData
  f_R_list_of : Addr
  d_R_list_of : FuncData
  f_lists_in_order : Addr
  d_lists_in_order : FuncData
  f_first_of : Addr
  d_first_of : FuncData
  f_check_rule : Addr
  d_check_rule : FuncData
  f_check_person : Addr
  d_check_person : FuncData
  f_is_read_by : Addr
  d_is_read_by : FuncData
  f_rank_reads : Addr
  d_rank_reads : FuncData
  f_own_reads : Addr
  d_own_reads : FuncData
  f_safe_people : Addr
  d_safe_people : FuncData
  f_is_safe : Addr
  d_is_safe : FuncData
  f_ways : Addr
  d_ways : FuncData
  f_l_opened : Addr
  d_l_opened : FuncData
  f_l_draw : Addr
  d_l_draw : FuncData
  f_l_pick : Addr
  d_l_pick : FuncData
  f_l_people : Addr
  d_l_people : FuncData
  f_l_pairs : Addr
  d_l_pairs : FuncData
  f_l_parted : Addr
  d_l_parted : FuncData
  f_l_unlike : Addr
  d_l_unlike : FuncData
  f_l_readers : Addr
  d_l_readers : FuncData
  f_l_list : Addr
  d_l_list : FuncData
  f_l_plan : Addr
  d_l_plan : FuncData
  f_l_made : Addr
  d_l_made : FuncData
  f_l_own : Addr
  d_l_own : FuncData
  f_l_read_by_rank : Addr
  d_l_read_by_rank : FuncData
  f_law : Addr
  d_law : FuncData
/-- what the top has written -/
structure Txt (K : PySem.W.Frag) (mg : Str → Option Value) (A : Adr) : Prop where
  F_is_count : Fun K "is_count" "is_count" s_is_count A.f_is_count A.d_is_count
  g_is_count : mg "is_count" = some (.ref A.f_is_count)
  F_is_one_of : Fun K "is_one_of" "is_one_of" s_is_one_of A.f_is_one_of A.d_is_one_of
  g_is_one_of : mg "is_one_of" = some (.ref A.f_is_one_of)
  F_is_word : Fun K "is_word" "is_word" s_is_word A.f_is_word A.d_is_word
  g_is_word : mg "is_word" = some (.ref A.f_is_word)
  F_are_people : Fun K "are_people" "are_people" s_are_people A.f_are_people A.d_are_people
  g_are_people : mg "are_people" = some (.ref A.f_are_people)
  F_C_init : Fun K "__init__" "Crowd.__init__" s_C_init A.f_C_init A.d_C_init
  i_C_init : Mk K A.C A.f_C_init
  F_C_people : Fun K "people" "Crowd.people" s_C_people A.f_C_people A.d_C_people
  p_people : PropOf K A.C "people" A.pp A.f_C_people
  F_C_len : Fun K "__len__" "Crowd.__len__" s_C_len A.f_C_len A.d_C_len
  m_C_len : Meth K A.C "__len__" A.f_C_len
  F_C_contains : Fun K "__contains__" "Crowd.__contains__" s_C_contains A.f_C_contains A.d_C_contains
  m_C_contains : Meth K A.C "__contains__" A.f_C_contains
  F_C_iter : Fun K "__iter__" "Crowd.__iter__" s_C_iter A.f_C_iter A.d_C_iter
  m_C_iter : Meth K A.C "__iter__" A.f_C_iter
  F_C_pairs : Fun K "pairs" "Crowd.pairs" s_C_pairs A.f_C_pairs A.d_C_pairs
  m_C_pairs : Meth K A.C "pairs" A.f_C_pairs
  F_C_is_pair : Fun K "is_pair" "Crowd.is_pair" s_C_is_pair A.f_C_is_pair A.d_C_is_pair
  m_C_is_pair : Meth K A.C "is_pair" A.f_C_is_pair
  F_check_crowd : Fun K "check_crowd" "check_crowd" s_check_crowd A.f_check_crowd A.d_check_crowd
  g_check_crowd : mg "check_crowd" = some (.ref A.f_check_crowd)
  F_are_reads : Fun K "are_reads" "are_reads" s_are_reads A.f_are_reads A.d_are_reads
  g_are_reads : mg "are_reads" = some (.ref A.f_are_reads)
  F_are_lists : Fun K "are_lists" "are_lists" s_are_lists A.f_are_lists A.d_are_lists
  g_are_lists : mg "are_lists" = some (.ref A.f_are_lists)
  F_R_init : Fun K "__init__" "Rule.__init__" s_R_init A.f_R_init A.d_R_init
  i_R_init : Mk K A.R A.f_R_init
  F_R_contains : Fun K "__contains__" "Rule.__contains__" s_R_contains A.f_R_contains A.d_R_contains
  m_R_contains : Meth K A.R "__contains__" A.f_R_contains
  F_R_iter : Fun K "__iter__" "Rule.__iter__" s_R_iter A.f_R_iter A.d_R_iter
  m_R_iter : Meth K A.R "__iter__" A.f_R_iter
  F_R_has_readers : Fun K "has_readers" "Rule.has_readers" s_R_has_readers A.f_R_has_readers A.d_R_has_readers
  m_R_has_readers : Meth K A.R "has_readers" A.f_R_has_readers
  F_R_list_of : Fun K "list_of" "Rule.list_of" s_R_list_of A.f_R_list_of A.d_R_list_of
  m_R_list_of : Meth K A.R "list_of" A.f_R_list_of
  F_lists_in_order : Fun K "lists_in_order" "lists_in_order" s_lists_in_order A.f_lists_in_order A.d_lists_in_order
  g_lists_in_order : mg "lists_in_order" = some (.ref A.f_lists_in_order)
  F_first_of : Fun K "first_of" "first_of" s_first_of A.f_first_of A.d_first_of
  g_first_of : mg "first_of" = some (.ref A.f_first_of)
  F_check_rule : Fun K "check_rule" "check_rule" s_check_rule A.f_check_rule A.d_check_rule
  g_check_rule : mg "check_rule" = some (.ref A.f_check_rule)
  F_check_person : Fun K "check_person" "check_person" s_check_person A.f_check_person A.d_check_person
  g_check_person : mg "check_person" = some (.ref A.f_check_person)
  F_is_read_by : Fun K "is_read_by" "is_read_by" s_is_read_by A.f_is_read_by A.d_is_read_by
  g_is_read_by : mg "is_read_by" = some (.ref A.f_is_read_by)
  F_rank_reads : Fun K "rank_reads" "rank_reads" s_rank_reads A.f_rank_reads A.d_rank_reads
  g_rank_reads : mg "rank_reads" = some (.ref A.f_rank_reads)
  F_own_reads : Fun K "own_reads" "own_reads" s_own_reads A.f_own_reads A.d_own_reads
  g_own_reads : mg "own_reads" = some (.ref A.f_own_reads)
  F_safe_people : Fun K "safe_people" "safe_people" s_safe_people A.f_safe_people A.d_safe_people
  g_safe_people : mg "safe_people" = some (.ref A.f_safe_people)
  F_is_safe : Fun K "is_safe" "is_safe" s_is_safe A.f_is_safe A.d_is_safe
  g_is_safe : mg "is_safe" = some (.ref A.f_is_safe)
  F_ways : Fun K "ways" "ways" s_ways A.f_ways A.d_ways
  g_ways : mg "ways" = some (.ref A.f_ways)
  F_l_opened : Fun K "_law_opened" "_law_opened" s_l_opened A.f_l_opened A.d_l_opened
  g_l_opened : mg "_law_opened" = some (.ref A.f_l_opened)
  F_l_draw : Fun K "_law_draw" "_law_draw" s_l_draw A.f_l_draw A.d_l_draw
  g_l_draw : mg "_law_draw" = some (.ref A.f_l_draw)
  F_l_pick : Fun K "_law_pick" "_law_pick" s_l_pick A.f_l_pick A.d_l_pick
  g_l_pick : mg "_law_pick" = some (.ref A.f_l_pick)
  F_l_people : Fun K "_law_people" "_law_people" s_l_people A.f_l_people A.d_l_people
  g_l_people : mg "_law_people" = some (.ref A.f_l_people)
  F_l_pairs : Fun K "_law_pairs" "_law_pairs" s_l_pairs A.f_l_pairs A.d_l_pairs
  g_l_pairs : mg "_law_pairs" = some (.ref A.f_l_pairs)
  F_l_parted : Fun K "_law_parted" "_law_parted" s_l_parted A.f_l_parted A.d_l_parted
  g_l_parted : mg "_law_parted" = some (.ref A.f_l_parted)
  F_l_unlike : Fun K "_law_unlike" "_law_unlike" s_l_unlike A.f_l_unlike A.d_l_unlike
  g_l_unlike : mg "_law_unlike" = some (.ref A.f_l_unlike)
  F_l_readers : Fun K "_law_readers" "_law_readers" s_l_readers A.f_l_readers A.d_l_readers
  g_l_readers : mg "_law_readers" = some (.ref A.f_l_readers)
  F_l_list : Fun K "_law_list" "_law_list" s_l_list A.f_l_list A.d_l_list
  g_l_list : mg "_law_list" = some (.ref A.f_l_list)
  F_l_plan : Fun K "_law_plan" "_law_plan" s_l_plan A.f_l_plan A.d_l_plan
  g_l_plan : mg "_law_plan" = some (.ref A.f_l_plan)
  F_l_made : Fun K "_law_made" "_law_made" s_l_made A.f_l_made A.d_l_made
  g_l_made : mg "_law_made" = some (.ref A.f_l_made)
  F_l_own : Fun K "_law_own" "_law_own" s_l_own A.f_l_own A.d_l_own
  g_l_own : mg "_law_own" = some (.ref A.f_l_own)
  F_l_read_by_rank : Fun K "_law_read_by_rank" "_law_read_by_rank" s_l_read_by_rank A.f_l_read_by_rank A.d_l_read_by_rank
  g_l_read_by_rank : mg "_law_read_by_rank" = some (.ref A.f_l_read_by_rank)
  F_law : Fun K "law" "law" s_law A.f_law A.d_law
  g_law : mg "law" = some (.ref A.f_law)
  n_len : mg "len" = none
  n_int : mg "int" = none
  n_str : mg "str" = none
  n_list : mg "list" = none
  n_tuple : mg "tuple" = none
  n_bool : mg "bool" = none
  n_isinstance : mg "isinstance" = none
  n_all : mg "all" = none
  n_max : mg "max" = none
  n_min : mg "min" = none
  n_range : mg "range" = none
  n_enumerate : mg "enumerate" = none
  n_repr : mg "repr" = none
  n_iter : mg "iter" = none
  g_MOST_PEOPLE : ∃ u, mg "MOST_PEOPLE" = some (.int 8 u)
  g_MOST_MARK : ∃ u, mg "MOST_MARK" = some (.int 10 u)
  g_MOST_SIGNS : ∃ u, mg "MOST_SIGNS" = some (.int 8 u)
  g_MOST_TRIM : ∃ u, mg "MOST_TRIM" = some (.int 3 u)
  g_MOST_PRIZES : ∃ u, mg "MOST_PRIZES" = some (.int 8 u)
  g_LETTERS : ∃ u, mg "LETTERS" = some (.str "abcdefghijklmnopqrstuvwxyz" u)
  g_TURNS : mg "TURNS" = some (.ref A.a_TURNS)
  g_GATHERS : mg "GATHERS" = some (.ref A.a_GATHERS)
  g_TURNED_GATHERS : mg "TURNED_GATHERS" = some (.ref A.a_TURNED_GATHERS)
  q_TURNS : ∀ H, SqT K H A.a_TURNS (turns.map V.str)
  q_GATHERS : ∀ H, SqT K H A.a_GATHERS (gathers.map V.str)
  q_TURNED_GATHERS : ∀ H, SqT K H A.a_TURNED_GATHERS (turnedGathers.map V.str)
  g_Crowd : mg "Crowd" = some (.ref A.C)
  g_Rule : mg "Rule" = some (.ref A.R)
  cC : Cls K A.C
  naC_own_places : NoAttr K A.C "own_places"
  naC_most : NoAttr K A.C "most"
  ciC : PySem.W.findIn K (.ref A.C) "__class__" = some (some (.builtin "object.__class__"))
  moC : PySem.W.mroIn K A.C (.type "object") = some true
  kiC : PySem.W.kitOne K (.ref A.C) (.ref A.C) = some true
  cR : Cls K A.R
  naR_crowd : NoAttr K A.R "crowd"
  naR_turn : NoAttr K A.R "turn"
  naR_gather : NoAttr K A.R "gather"
  naR_trim : NoAttr K A.R "trim"
  naR_read_pairs : NoAttr K A.R "read_pairs"
  naR_list_rows : NoAttr K A.R "list_rows"
  naR_prizes : NoAttr K A.R "prizes"
  ciR : PySem.W.findIn K (.ref A.R) "__class__" = some (some (.builtin "object.__class__"))
  moR : PySem.W.mroIn K A.R (.type "object") = some true
  kiR : PySem.W.kitOne K (.ref A.R) (.ref A.R) = some true
  cn : PySem.W.specialIn K (.builtin "object.__class__") "__get__" = some (some (.builtin "getset_descriptor.__get__"))
  ct : PySem.W.takesIn K (.builtin "object.__class__") = some true

/-! ### the crowd, the rule -/
def fC (d : Addr) (m : Int) : List (Str × V) := [("own_places", .ref d), ("most", .int m)]
def fR (c : Addr) (t g : Str) (z : Int) (rp lr : Addr) (pz : Int) : List (Str × V) := [("crowd", .ref c), ("turn", .str t), ("gather", .str g), ("trim", .int z), ("read_pairs", .ref rp), ("list_rows", .ref lr), ("prizes", .int pz)]
structure CrowdAt (A : Adr) (H : Hp) (c : Addr) (ps : List Str) : Prop where
  ex : ∃ dx d m od kvs es ep, H c = some (.ins A.C dx (fC d m)) ∧ H d = some (.frz od (.dK kvs)) ∧ kvs.map (·.1) = ps.map Sum.inr ∧ od.data = .dict es ep ∧ es.size = kvs.length
theorem CrowdAt.stay {A : Adr} {H H' : Hp} {c : Addr} {ps : List Str} (e : Same H H') (h : CrowdAt A H c ps) : CrowdAt A H' c ps := by
  obtain ⟨dx, d, m, od, kvs, es, ep, h1, h2, h3, h4⟩ := h.ex
  exact ⟨dx, d, m, od, kvs, es, ep, e _ _ h1, e _ _ h2, h3, h4⟩
/-- a rule: its people, turn, lists, read pairs -/
structure RuleAt (A : Adr) (H : Hp) (r : Addr) (ps : List Str) (t : Str) (ls : List (List Str)) (rs : List (Str × Str)) : Prop where
  ex : ∃ dx c g z rp lr pz od kvs es ep, H r = some (.ins A.R dx (fR c t g z rp lr pz)) ∧ CrowdAt A H c ps ∧ H rp = some (.frz od (.dT kvs)) ∧ kvs.map (·.1) = rs.map keyP ∧ od.data = .dict es ep ∧ es.size = kvs.length ∧
    ∃ vs, H lr = some (.tup vs) ∧ Paired (RU H) vs ls
theorem RuleAt.stay {A : Adr} {H H' : Hp} {r : Addr} {ps : List Str} {t : Str} {ls : List (List Str)} {rs : List (Str × Str)} (e : Same H H') (h : RuleAt A H r ps t ls rs) : RuleAt A H' r ps t ls rs := by
  obtain ⟨dx, c, g, z, rp, lr, pz, od, kvs, es, ep, h1, h2, h3, h4, h5, h6, vs, h7, h8⟩ := h.ex
  exact ⟨dx, c, g, z, rp, lr, pz, od, kvs, es, ep, e _ _ h1, h2.stay e, e _ _ h3, h4, h5, h6, vs, e _ _ h7, paired_stays stays_RU e h8⟩
end Om
/-! A locked dict's len, list; uses of the text's own defs. -/
namespace Om
open PySem PySem.Spec PyProof.Rows L2 OmM
/-- len(d), d locked -/
def rLenF : List V → Hp → VK → Prop := fun xs H Q => ∃ d o kvs, xs = [V.ref d] ∧ H d = some (.frz o (.dK kvs)) ∧ Q (.int kvs.length) H
theorem call_lenF {X : Cx} : CallR X (.builtin "len") rLenF := by
  intro pins s σ H xs us Q I r h
  obtain ⟨a, o, kvs, rfl, ha, q⟩ := h
  obtain ⟨u, rfl, ru⟩ := vals1 r
  cases ru
  exact d_len I (.inr ⟨o, ha⟩) fun t s' I' => ⟨.int kvs.length, H, I', ⟨t, rfl⟩, q⟩
/-- list(d), d locked: its keys -/
def rListF : List V → Hp → VK → Prop := fun xs H Q => ∃ d o kvs, xs = [V.ref d] ∧ H d = some (.frz o (.dK kvs)) ∧ ∀ l, H l = none → Q (.ref l) (upd H l (.lst (kvs.map fun kv => kV kv.1)))
theorem call_listF {X : Cx} (hc : X.calm = true) : CallR X (.type "list") rListF := by
  intro pins s σ H xs us Q I r h
  obtain ⟨d, o, kvs, e, hd, q⟩ := h
  subst e
  obtain ⟨u, eu, rx⟩ := vals1 r
  subst eu
  obtain rfl : u = Value.ref d := rx
  obtain ⟨z, lo, vs, rk, hdct⟩ := (show ObjOk X.prog X.w H s.heap d (.dK kvs) from Rd.ok (.inr ⟨o, hd⟩) I.hok)
  obtain ⟨ep, hat⟩ := hdct.dictAt
  have hl : kvs.length = vs.length := Paired.length rk
  refine PySem.W.kdl_call (PySem.W.kdl_dict (knd := mixKind X.prog X.w) (kvs := vs) (ep := ep) lo) (I.ok.hd hc) hat (by rw [← hl]; exact z) fun h' tk acc' c' hkeep hS hacc => ?_
  have hz : s.heap.objs.size ≤ s.heap.objs.size := Nat.le_refl _
  refine ⟨.ref s.heap.objs.size, upd H s.heap.objs.size (.lst (kvs.map fun kv => kV kv.1)), I.laid hkeep hz ?_, rfl, q _ (I.hok.fresh hz)⟩
  refine ⟨by rw [List.length_map]; exact z, acc'.toList, c', vals_of_at (by simp [hacc.1, hl]) fun j x w h1 h2 => ?_, by rw [Array.toArray_toList]; exact hS⟩
  obtain ⟨k, y, hky, hi⟩ := hacc.2 j w (by rw [← Array.getElem?_toList]; exact h2)
  have e1 : (kvs.map (·.1))[j]? = some k := by rw [KV.keys rk, List.getElem?_map, hky]; rfl
  rw [List.getElem?_map] at e1 h1
  obtain ⟨p, hp, ep1⟩ := Option.map_eq_some_iff.mp e1
  rw [hp] at h1
  rw [← Option.some.inj h1]
  show RelV (kV p.1) w
  rw [ep1]
  exact keyIs_rel hi
/-- a property by its promise -/
structure UP (P : Program) (w : World) (K : PySem.W.Frag) (mg : Str → Option Value) (base : Heap) (k : Nat) (C : Addr) (f : Str) (sp : Sp) : Prop where
  ex : ∃ p g fd, FnOk P w K mg base CX0 k g fd ["self"] sp ∧ PropOf K C f p g ∧ Binds K fd ["self"] []
theorem pe_p {X : Cx} {k : Nat} {C : Addr} {f : Str} {sp : Sp} {e : Expr} {pos : Pos} {ta : TE} (U : UP X.prog X.w X.K X.mg X.base k C f sp) (c : Cls X.K C) (hr : Room (k + 1) X.A) (he : PE X e ta)
    (hab : attributeBase e f X.env (eval e X.env) = eval e X.env := by rfl) : PE X (.Attribute e f pos) (tProp C sp [] E0 ta) := by
  obtain ⟨p, g, fd, F, hp, hb⟩ := U.ex
  exact pe_prop he c hp F hr hb .nil pass0 hab
/-- keys that are texts -/
theorem keys_of {kvs : List (Key × V)} {ps : List Str} (h : kvs.map (·.1) = ps.map Sum.inr) : (kvs.map fun kv => kV kv.1) = ps.map V.str := by
  have e : (kvs.map fun kv => kV kv.1) = (kvs.map (·.1)).map kV := by rw [List.map_map]; rfl
  rw [e, h, List.map_map]
  rfl
theorem valV_str {kvs : List (Key × V)} {ps : List Str} (h : kvs.map (·.1) = ps.map Sum.inr) (s : Str) : (valV kvs (Sum.inr s : Key)).isSome = decide (s ∈ ps) := by
  rw [← valV_any]
  have e : (kvs.any fun kv => decide (kv.1 = (Sum.inr s : Key))) = (kvs.map (·.1)).any fun k => decide (k = Sum.inr s) := by rw [List.any_map]; rfl
  rw [e, h, List.any_map, Bool.eq_iff_iff, List.any_eq_true, decide_eq_true_iff]
  constructor
  · rintro ⟨x, hx, e⟩
    have : x = s := by simpa using e
    exact this ▸ hx
  · intro hs
    exact ⟨s, hs, by simp⟩
theorem valV_pair {kvs : List (List Key × V)} {ps : List (Str × Str)} (h : kvs.map (·.1) = ps.map keyP) (p : Str × Str) : (valV kvs (keyP p)).isSome = decide (p ∈ ps) := by
  rw [← valV_any]
  have e : (kvs.any fun kv => decide (kv.1 = keyP p)) = (kvs.map (·.1)).any fun k => decide (k = keyP p) := by rw [List.any_map]; rfl
  rw [e, h, List.any_map, Bool.eq_iff_iff, List.any_eq_true, decide_eq_true_iff]
  have inj : ∀ x, keyP x = keyP p → x = p := fun x e => by
    unfold keyP at e
    obtain ⟨a, b⟩ := x
    obtain ⟨c, d⟩ := p
    simp at e
    rw [e.1, e.2]
  constructor
  · rintro ⟨x, hx, e⟩
    exact inj x (by simpa using e) ▸ hx
  · intro hs
    exact ⟨p, hs, by simp⟩
end Om
/-! Dict comprehensions by their data; small things. -/
namespace Om
open PySem PySem.Spec PyProof.Rows L2 OmM
theorem blT {p : Prop} [Decidable p] (h : p) : V.bl (decide p) = .bl true := by rw [decide_eq_true h]
theorem blF {p : Prop} [Decidable p] (h : ¬ p) : V.bl (decide p) = .bl false := by rw [decide_eq_false h]
theorem yes {σ : L2.St} {H : Hp} {F G : Hp → Prop} (h : F H) : tYes σ H (fun b H3 => if b = true then F H3 else G H3) := h
/-- a list of trues -/
def RB : Rel Bool := fun _ v b => v = .bl b
theorem stays_RB : Stays RB := fun _ _ _ _ _ h => h
theorem paired_bl {H : Hp} : ∀ {vs : List V} {bs : List Bool}, Paired (RB H) vs bs → vs = bs.map V.bl
  | _, _, .nil => rfl
  | _, _, .cons h t => by rw [List.map_cons, ← paired_bl t, ← (show _ = V.bl _ from h)]
theorem paired_int {H : Hp} : ∀ {vs : List V} {bs : List Int}, Paired (RI H) vs bs → vs = bs.map V.int
  | _, _, .nil => rfl
  | _, _, .cons h t => by rw [List.map_cons, ← paired_int t, ← (show _ = V.int _ from h)]
theorem all_trues {δ : Type} (f : δ → Option Bool) (h : ∀ d, f d = some true ∨ f d = none) (ds : List δ) : (ds.filterMap f).all id = true := by
  rw [List.all_eq_true]
  intro b hb
  obtain ⟨d, _, e⟩ := List.mem_filterMap.mp hb
  rcases h d with z | z
  · rw [z] at e; cases e; rfl
  · rw [z] at e; cases e
theorem all_true {δ : Type} (ds : List δ) : (ds.filterMap fun _ => some true).all id = true := all_trues _ (fun _ => .inl rfl) ds
theorem fm_all {δ : Type} (ds : List δ) : (ds.filterMap fun d => some d) = ds := by
  induction ds with
  | nil => rfl
  | cons d ds ih => rw [List.filterMap_cons]; simp
theorem fm_if {δ : Type} (p : δ → Bool) (ds : List δ) : (ds.filterMap fun d => if p d = true then some d else none) = ds.filter p := by
  induction ds with
  | nil => rfl
  | cons d ds ih =>
    rw [List.filterMap_cons, List.filter_cons]
    cases h : p d
    · rw [if_neg (by simp), if_neg (by simp)]; simpa [h] using ih
    · rw [if_pos rfl, if_pos rfl]; simp [ih]
section
variable {δ : Type} {H1 : Hp} {J : It} {R : Rel δ} {ds : List δ} {g : TG} {tt : TT} {tk tv : TE} {vs : List Nat} {σ : L2.St} {D : Addr} {Qd : Hp → Prop}
/-- keys are texts, no key comes twice; nothing is changed -/
theorem dk_pure (S : Src J (fun _ => False) H1 R ds) (hD : H1 D = none) (hz : ds.length < sizeLine) (f : δ → Option Str) (hnd : (ds.filterMap f).Nodup)
    (turn : ∀ d x H (Ny : V → V → Hp → Prop) (Nn : Hp → Prop), d ∈ ds → Same H1 H → R H x d → (∀ z H5 e, Same H H5 → f d = some e → Ny (.str e) z H5) → (∀ H3, Same H H3 → f d = none → Nn H3) →
      g x (wipe σ vs) H fun σ2 H2 => wipe σ2 vs = wipe σ vs ∧ tt σ2 H2 fun b H3 => if b = true then tk σ2 H3 fun y H4 => tv σ2 H4 fun z H5 => Ny y z H5 else Nn H3)
    (done : ∀ H kvs, Same H1 H → H D = some (.dK kvs) → kvs.map (·.1) = (ds.filterMap f).map Sum.inr → Qd H) :
    ∃ W : Nat → Nat → Hp → Prop, (∃ m, W 0 m (upd H1 D (.dK []))) ∧ ∀ i m H, W i m H →
      (J.stop i H ∧ Qd H) ∨ (J.go i H ∧ ∃ Nx : Hp → Prop, (∀ H', Nx H' → ∃ m', m' < m ∧ W (i + 1) m' H') ∧ ∀ x H', J.yld i H x H' → g x (wipe σ vs) H' fun σ2 H2 => wipe σ2 vs = wipe σ vs ∧ tt σ2 H2 fun b H3 =>
        if b = true then tk σ2 H3 fun y H4 => tv σ2 H4 fun z H5 => ∃ kvs k, y = kV k ∧ H5 D = some (.dK kvs) ∧ kvs.length < sizeLine ∧ Nx (upd H5 D (.dK (putK kvs k z))) else Nx H3) := by
  refine ⟨fun i m H => i + m = ds.length ∧ Same H1 H ∧ ∃ kvs, H D = some (.dK kvs) ∧ kvs.map (·.1) = ((ds.take i).filterMap f).map Sum.inr, ⟨ds.length, Nat.zero_add _, same_upd hD, [], upd_same, by simp⟩, ?_⟩
  rintro i m H ⟨him, sb, kvs, hk, hkv⟩
  cases m with
  | zero =>
    have e : i = ds.length := by omega
    subst e
    rw [List.take_length] at hkv
    exact .inl ⟨S.stops H (.of sb), done H kvs sb hk hkv⟩
  | succ m =>
    have hlt : i < ds.length := by omega
    refine .inr ⟨S.goes i H hlt (.of sb), fun H' => i + 1 + m = ds.length ∧ Same H1 H' ∧ ∃ kvs, H' D = some (.dK kvs) ∧ kvs.map (·.1) = ((ds.take (i + 1)).filterMap f).map Sum.inr, fun H' p' => ⟨m, Nat.lt_succ_self m, p'⟩, fun x H' y => ?_⟩
    obtain ⟨hH', d, hd, hx⟩ := S.yields i H x H' hlt (.of sb) y
    have sb0 : Same H H' := by
      rcases hH' with rfl | ⟨T, o, hT, rfl⟩
      · exact fun _ _ h => h
      · exact same_upd hT
    have hdm : d ∈ ds := List.mem_of_getElem? hd
    have ht1 : ds.take (i + 1) = ds.take i ++ [d] := by rw [List.take_add_one, hd]; rfl
    have hsplit : ds = (ds.take i ++ [d]) ++ ds.drop (i + 1) := by rw [← ht1, List.take_append_drop]
    have s01 : Same H1 H' := fun b o e => sb0 _ _ (sb _ _ e)
    refine turn d x H' _ _ hdm s01 hx (fun z H5 e s5 hfe => ?_) (fun H3 s3 hfe => ?_)
    · have hfresh : valV kvs (Sum.inr e : Key) = none := by
        have h1 := valV_str hkv e
        cases hv : valV kvs (Sum.inr e : Key) with
        | none => rfl
        | some v =>
          rw [hv] at h1
          have hm : e ∈ (ds.take i).filterMap f := by simpa using h1.symm
          rw [hsplit, List.filterMap_append, List.filterMap_append] at hnd
          have h2 := (List.nodup_append.mp (List.nodup_append.mp hnd).1).2.2 e hm e (by simp [hfe])
          exact absurd rfl h2
      have hl : kvs.length ≤ ds.length := by
        have h1 := congrArg List.length hkv
        rw [List.length_map, List.length_map] at h1
        have h2 := List.length_filterMap_le f (ds.take i)
        rw [List.length_take] at h2
        omega
      refine ⟨kvs, Sum.inr e, rfl, s5 _ _ (sb0 _ _ hk), by omega, by omega, fun b o hb => ?_, _, upd_same, ?_⟩
      · rw [upd_ne (ne_of_none hb hD)]
        exact s5 _ _ (s01 _ _ hb)
      · rw [putK_new _ hfresh, List.map_append, hkv, ht1, List.filterMap_append]
        simp [hfe]
    · refine ⟨by omega, fun b o hb => s3 _ _ (s01 _ _ hb), kvs, s3 _ _ (sb0 _ _ hk), ?_⟩
      rw [ht1, List.filterMap_append, hkv]
      simp [hfe]
/-- keys are pairs of texts -/
theorem dt_pure (S : Src J (fun _ => False) H1 R ds) (hD : H1 D = none) (hz : ds.length < sizeLine) (f : δ → Option (Str × Str)) (hnd : (ds.filterMap f).Nodup)
    (turn : ∀ d x H (Ny : V → V → Hp → Prop) (Nn : Hp → Prop), d ∈ ds → Same H1 H → R H x d → (∀ y z H5 e, Same H H5 → RP H5 y e → f d = some e → Ny y z H5) → (∀ H3, Same H H3 → f d = none → Nn H3) →
      g x (wipe σ vs) H fun σ2 H2 => wipe σ2 vs = wipe σ vs ∧ tt σ2 H2 fun b H3 => if b = true then tk σ2 H3 fun y H4 => tv σ2 H4 fun z H5 => Ny y z H5 else Nn H3)
    (done : ∀ H kvs, Same H1 H → H D = some (.dT kvs) → kvs.map (·.1) = (ds.filterMap f).map keyP → Qd H) :
    ∃ W : Nat → Nat → Hp → Prop, (∃ m, W 0 m (upd H1 D (.dT []))) ∧ ∀ i m H, W i m H →
      (J.stop i H ∧ Qd H) ∨ (J.go i H ∧ ∃ Nx : Hp → Prop, (∀ H', Nx H' → ∃ m', m' < m ∧ W (i + 1) m' H') ∧ ∀ x H', J.yld i H x H' → g x (wipe σ vs) H' fun σ2 H2 => wipe σ2 vs = wipe σ vs ∧ tt σ2 H2 fun b H3 =>
        if b = true then tk σ2 H3 fun y H4 => tv σ2 H4 fun z H5 => ∃ H6, (∃ kvs k b, H5 D = some (.dT kvs) ∧ y = .ref b ∧ H5 b = some (.tup (k.map kV)) ∧ kvs.length < sizeLine ∧ H6 = upd H5 D (.dT (putK kvs k z))) ∧ Nx H6 else Nx H3) := by
  refine ⟨fun i m H => i + m = ds.length ∧ Same H1 H ∧ ∃ kvs, H D = some (.dT kvs) ∧ kvs.map (·.1) = ((ds.take i).filterMap f).map keyP, ⟨ds.length, Nat.zero_add _, same_upd hD, [], upd_same, by simp⟩, ?_⟩
  rintro i m H ⟨him, sb, kvs, hk, hkv⟩
  cases m with
  | zero =>
    have e : i = ds.length := by omega
    subst e
    rw [List.take_length] at hkv
    exact .inl ⟨S.stops H (.of sb), done H kvs sb hk hkv⟩
  | succ m =>
    have hlt : i < ds.length := by omega
    refine .inr ⟨S.goes i H hlt (.of sb), fun H' => i + 1 + m = ds.length ∧ Same H1 H' ∧ ∃ kvs, H' D = some (.dT kvs) ∧ kvs.map (·.1) = ((ds.take (i + 1)).filterMap f).map keyP, fun H' p' => ⟨m, Nat.lt_succ_self m, p'⟩, fun x H' y => ?_⟩
    obtain ⟨hH', d, hd, hx⟩ := S.yields i H x H' hlt (.of sb) y
    have sb0 : Same H H' := by
      rcases hH' with rfl | ⟨T, o, hT, rfl⟩
      · exact fun _ _ h => h
      · exact same_upd hT
    have hdm : d ∈ ds := List.mem_of_getElem? hd
    have ht1 : ds.take (i + 1) = ds.take i ++ [d] := by rw [List.take_add_one, hd]; rfl
    have hsplit : ds = (ds.take i ++ [d]) ++ ds.drop (i + 1) := by rw [← ht1, List.take_append_drop]
    have s01 : Same H1 H' := fun b o e => sb0 _ _ (sb _ _ e)
    refine turn d x H' _ _ hdm s01 hx (fun y2 z H5 e s5 hy2 hfe => ?_) (fun H3 s3 hfe => ?_)
    · obtain ⟨q, rfl, hq⟩ := hy2
      have hfresh : valV kvs (keyP e) = none := by
        have h1 := valV_pair hkv e
        cases hv : valV kvs (keyP e) with
        | none => rfl
        | some v =>
          rw [hv] at h1
          have hm : e ∈ (ds.take i).filterMap f := by simpa using h1.symm
          rw [hsplit, List.filterMap_append, List.filterMap_append] at hnd
          have h2 := (List.nodup_append.mp (List.nodup_append.mp hnd).1).2.2 e hm e (by simp [hfe])
          exact absurd rfl h2
      have hl : kvs.length ≤ ds.length := by
        have h1 := congrArg List.length hkv
        rw [List.length_map, List.length_map] at h1
        have h2 := List.length_filterMap_le f (ds.take i)
        rw [List.length_take] at h2
        omega
      refine ⟨_, ⟨kvs, keyP e, q, s5 _ _ (sb0 _ _ hk), rfl, hq, by omega, rfl⟩, by omega, fun b o hb => ?_, _, upd_same, ?_⟩
      · rw [upd_ne (ne_of_none hb hD)]
        exact s5 _ _ (s01 _ _ hb)
      · rw [putK_new _ hfresh, List.map_append, hkv, ht1, List.filterMap_append]
        simp [hfe]
    · refine ⟨by omega, fun b o hb => s3 _ _ (s01 _ _ hb), kvs, s3 _ _ (sb0 _ _ hk), ?_⟩
      rw [ht1, List.filterMap_append, hkv]
      simp [hfe]
end
end Om
/-! Comprehensions of two clauses, by their data. -/
namespace Om
open PySem PySem.Spec PyProof.Rows L2 OmM
theorem paired_append {α β : Type} {F : α → β → Prop} : ∀ {a b : List α} {c d : List β}, Paired F a c → Paired F b d → Paired F (a ++ b) (c ++ d)
  | _, _, _, _, .nil, q => q
  | _, _, _, _, .cons h t, q => .cons h (paired_append t q)
/-- a new dict is locked for good -/
def tFreezeK (t : TS) : TS := fun D σ H => ∃ d kvs, H d = some (.dK kvs) ∧ ∀ od es ep, od.data = .dict es ep → es.size = kvs.length → t D σ (upd H d (.frz od (.dK kvs)))
theorem pss_freezeK {X : Cx} {sts : List Stmt} {t : TS} (h : PSs X sts t) : PSs X sts (tFreezeK t) := by
  refine ⟨fun pins s σ H D I hw => ?_⟩
  obtain ⟨d, kvs, hd, hw⟩ := hw
  obtain ⟨od, I1⟩ := I.lock hd True.intro
  obtain ⟨_, _, _, es, ep, vs, hdt, hsz, kv, hm⟩ := I1.frzK upd_same
  exact h.run pins s σ _ D I1 (hw od es ep hdt hsz)
def tFreezeT (t : TS) : TS := fun D σ H => ∃ d kvs, H d = some (.dT kvs) ∧ ∀ od es ep, od.data = .dict es ep → es.size = kvs.length → t D σ (upd H d (.frz od (.dT kvs)))
theorem pss_freezeT {X : Cx} {sts : List Stmt} {t : TS} (h : PSs X sts t) : PSs X sts (tFreezeT t) := by
  refine ⟨fun pins s σ H D I hw => ?_⟩
  obtain ⟨d, kvs, hd, hw⟩ := hw
  obtain ⟨od, I1⟩ := I.lock hd True.intro
  obtain ⟨_, _, _, es, ep, hdt, hsz, ent⟩ := I1.frzT upd_same
  exact h.run pins s σ _ D I1 (hw od es ep hdt hsz)
section
variable {δ δ1 ε : Type} {H1 H4 : Hp} {J J1 : It} {R : Rel δ} {R1 : Rel δ1} {Ro : Rel ε} {ds : List δ} {es : List δ1} {g g1 : TG} {tt tt1 : TT} {te : TE} {vs vs1 : List Nat} {σ σ2 : L2.St} {D : Addr} {Qd Nx : Hp → Prop}
/-- the second clause: it adds to the list at D -/
theorem lc_inner {acc : List V} (S : Src J1 (fun b => b = D) H4 R1 es) (hacc : H4 D = some (.lst acc)) (hRo : Stays Ro) (f : δ1 → Option ε) (hb : acc.length + (es.filterMap f).length < sizeLine)
    (turn : ∀ d x H acc (Ny : V → Hp → Prop) (Nn : Hp → Prop), d ∈ es → SB (fun b => b = D) H4 H → H D = some (.lst acc) → R1 H x d →
      (∀ y H7 e, Same H H7 → (∀ o, Ro (upd H7 D o) y e) → f d = some e → Ny y H7) → (∀ H6, Same H H6 → f d = none → Nn H6) →
      g1 x (wipe σ2 vs1) H fun σ3 H5 => wipe σ3 vs1 = wipe σ2 vs1 ∧ tt1 σ3 H5 fun b H6 => if b = true then te σ3 H6 Ny else Nn H6)
    (done : ∀ H' acc', SB (fun b => b = D) H4 H' → H' D = some (.lst (acc ++ acc')) → Paired (fun v e => ∀ o, Ro (upd H' D o) v e) acc' (es.filterMap f) → Nx H') :
    ∃ W1 : Nat → Nat → Hp → Prop, (∃ m, W1 0 m H4) ∧ ∀ j k H, W1 j k H →
      (J1.stop j H ∧ Nx H) ∨ (J1.go j H ∧ ∃ Nx1 : Hp → Prop, (∀ H', Nx1 H' → ∃ k', k' < k ∧ W1 (j + 1) k' H') ∧ ∀ x H', J1.yld j H x H' → g1 x (wipe σ2 vs1) H' fun σ3 H5 => wipe σ3 vs1 = wipe σ2 vs1 ∧ tt1 σ3 H5 fun b H6 =>
        if b = true then te σ3 H6 fun y H7 => ∃ acc, H7 D = some (.lst acc) ∧ acc.length < sizeLine ∧ Nx1 (upd H7 D (.lst (acc ++ [y]))) else Nx1 H6) := by
  refine ⟨fun i m H => i + m = es.length ∧ SB (fun b => b = D) H4 H ∧ ∃ acc', H D = some (.lst (acc ++ acc')) ∧ Paired (fun v e => ∀ o, Ro (upd H D o) v e) acc' ((es.take i).filterMap f), ⟨es.length, Nat.zero_add _, SB.refl _, [], by simpa using hacc, .nil⟩, ?_⟩
  rintro i m H ⟨him, sb, acc', ha, pr⟩
  cases m with
  | zero =>
    have e : i = es.length := by omega
    subst e
    rw [List.take_length] at pr
    exact .inl ⟨S.stops H sb, done H acc' sb ha pr⟩
  | succ m =>
    have hlt : i < es.length := by omega
    refine .inr ⟨S.goes i H hlt sb, fun H' => i + 1 + m = es.length ∧ SB (fun b => b = D) H4 H' ∧ ∃ acc', H' D = some (.lst (acc ++ acc')) ∧ Paired (fun v e => ∀ o, Ro (upd H' D o) v e) acc' ((es.take (i + 1)).filterMap f), fun H' p' => ⟨m, Nat.lt_succ_self m, p'⟩, fun x H' y => ?_⟩
    obtain ⟨hH', d, hd, hx⟩ := S.yields i H x H' hlt sb y
    have sb0 : Same H H' := by
      rcases hH' with rfl | ⟨T, o, hT, rfl⟩
      · exact fun _ _ h => h
      · exact same_upd hT
    have ht1 : es.take (i + 1) = es.take i ++ [d] := by rw [List.take_add_one, hd]; rfl
    have hsplit : es = (es.take i ++ [d]) ++ es.drop (i + 1) := by rw [← ht1, List.take_append_drop]
    have prTo : ∀ {H' : Hp}, Same H H' → Paired (fun v e => ∀ o, Ro (upd H' D o) v e) acc' ((es.take i).filterMap f) := fun s => Paired.mono (fun v e h o => hRo _ _ _ _ (SB.updD (SB.of (P := fun _ => False) s)).same (h o)) pr
    refine turn d x H' _ _ _ (List.mem_of_getElem? hd) (sb.trans (.of sb0)) (sb0 _ _ ha) hx (fun y2 H7 e s7 he hfe => ?_) (fun H6 s6 hfe => ?_)
    · have hl : acc'.length = ((es.take i).filterMap f).length := pr.length
      have hl2 : ((es.take i).filterMap f).length < (es.filterMap f).length := by
        rw [show es.filterMap f = ((es.take i ++ [d]) ++ es.drop (i + 1)).filterMap f by rw [← hsplit], List.filterMap_append, List.filterMap_append]
        simp [hfe]
      refine ⟨acc ++ acc', s7 _ _ (sb0 _ _ ha), by rw [List.length_append]; omega, by omega, fun b o hb hp => ?_, acc' ++ [y2], by rw [upd_same, List.append_assoc], ?_⟩
      · rw [upd_ne hp]
        exact s7 _ _ ((sb.trans (.of sb0)) _ _ hb hp)
      · rw [ht1, List.filterMap_append]
        have : [d].filterMap f = [e] := by simp [hfe]
        rw [this]
        refine Paired.snoc (Paired.mono (fun v e h o => ?_) (prTo fun b o hb => s7 _ _ (sb0 _ _ hb))) fun o => ?_
        · rw [upd_upd]; exact h o
        · rw [upd_upd]; exact he o
    · refine ⟨by omega, fun b o hb hp => s6 _ _ ((sb.trans (.of sb0)) _ _ hb hp), acc', s6 _ _ (sb0 _ _ ha), ?_⟩
      rw [ht1, List.filterMap_append]
      have : [d].filterMap f = [] := by simp [hfe]
      rw [this, List.append_nil]
      exact prTo fun b o hb => s6 _ _ (sb0 _ _ hb)
/-- both clauses; nothing is changed -/
theorem lc2_pure {wi1 : TI} (S : Src J (fun _ => False) H1 R ds) (hD : H1 D = none) (hRo : Stays Ro) (fs : δ → List ε) (hb : (ds.flatMap fs).length < sizeLine)
    (turn : ∀ d x H acc (Nx : Hp → Prop), d ∈ ds → Same H1 H → H D = some (.lst acc) → acc.length + (fs d).length < sizeLine → R H x d → (∀ H3, Same H H3 → fs d = [] → Nx H3) →
      (∀ H0 H' acc', Same H H0 → SB (fun b => b = D) H0 H' → H' D = some (.lst (acc ++ acc')) → Paired (fun v e => ∀ o, Ro (upd H' D o) v e) acc' (fs d) → Nx H') →
      g x (wipe σ vs) H fun σ2 H2 => wipe σ2 vs = wipe σ vs ∧ tt σ2 H2 fun b H3 =>
        if b = true then wi1 σ2 H3 fun J1 H4 => ∃ W1 : Nat → Nat → Hp → Prop, (∃ m, W1 0 m H4) ∧ ∀ j k H, W1 j k H →
          (J1.stop j H ∧ Nx H) ∨ (J1.go j H ∧ ∃ Nx1 : Hp → Prop, (∀ H', Nx1 H' → ∃ k', k' < k ∧ W1 (j + 1) k' H') ∧ ∀ x H', J1.yld j H x H' → g1 x (wipe σ2 vs1) H' fun σ3 H5 => wipe σ3 vs1 = wipe σ2 vs1 ∧ tt1 σ3 H5 fun b H6 =>
            if b = true then te σ3 H6 fun y H7 => ∃ acc, H7 D = some (.lst acc) ∧ acc.length < sizeLine ∧ Nx1 (upd H7 D (.lst (acc ++ [y]))) else Nx1 H6)
        else Nx H3)
    (done : ∀ H acc, Same H1 H → H D = some (.lst acc) → Paired (Ro H) acc (ds.flatMap fs) → Qd H) :
    ∃ W : Nat → Nat → Hp → Prop, (∃ m, W 0 m (upd H1 D (.lst []))) ∧ ∀ i m H, W i m H →
      (J.stop i H ∧ Qd H) ∨ (J.go i H ∧ ∃ Nx : Hp → Prop, (∀ H', Nx H' → ∃ m', m' < m ∧ W (i + 1) m' H') ∧ ∀ x H', J.yld i H x H' → g x (wipe σ vs) H' fun σ2 H2 => wipe σ2 vs = wipe σ vs ∧ tt σ2 H2 fun b H3 =>
        if b = true then wi1 σ2 H3 fun J1 H4 => ∃ W1 : Nat → Nat → Hp → Prop, (∃ m, W1 0 m H4) ∧ ∀ j k H, W1 j k H →
          (J1.stop j H ∧ Nx H) ∨ (J1.go j H ∧ ∃ Nx1 : Hp → Prop, (∀ H', Nx1 H' → ∃ k', k' < k ∧ W1 (j + 1) k' H') ∧ ∀ x H', J1.yld j H x H' → g1 x (wipe σ2 vs1) H' fun σ3 H5 => wipe σ3 vs1 = wipe σ2 vs1 ∧ tt1 σ3 H5 fun b H6 =>
            if b = true then te σ3 H6 fun y H7 => ∃ acc, H7 D = some (.lst acc) ∧ acc.length < sizeLine ∧ Nx1 (upd H7 D (.lst (acc ++ [y]))) else Nx1 H6)
        else Nx H3) := by
  refine ⟨fun i m H => i + m = ds.length ∧ Same H1 H ∧ ∃ acc, H D = some (.lst acc) ∧ Paired (fun v e => ∀ o, Ro (upd H D o) v e) acc ((ds.take i).flatMap fs), ⟨ds.length, Nat.zero_add _, same_upd hD, [], upd_same, .nil⟩, ?_⟩
  rintro i m H ⟨him, sb, acc, ha, pr⟩
  cases m with
  | zero =>
    have e : i = ds.length := by omega
    subst e
    rw [List.take_length] at pr
    refine .inl ⟨S.stops H (.of sb), done H acc sb ha (Paired.mono (fun v e h => ?_) pr)⟩
    have := h (.lst acc)
    rw [upd_id ha] at this
    exact this
  | succ m =>
    have hlt : i < ds.length := by omega
    refine .inr ⟨S.goes i H hlt (.of sb), fun H' => i + 1 + m = ds.length ∧ Same H1 H' ∧ ∃ acc, H' D = some (.lst acc) ∧ Paired (fun v e => ∀ o, Ro (upd H' D o) v e) acc ((ds.take (i + 1)).flatMap fs), fun H' p' => ⟨m, Nat.lt_succ_self m, p'⟩, fun x H' y => ?_⟩
    obtain ⟨hH', d, hd, hx⟩ := S.yields i H x H' hlt (.of sb) y
    have sb0 : Same H H' := by
      rcases hH' with rfl | ⟨T, o, hT, rfl⟩
      · exact fun _ _ h => h
      · exact same_upd hT
    have s01 : Same H1 H' := fun b o hb => sb0 _ _ (sb _ _ hb)
    have ht1 : ds.take (i + 1) = ds.take i ++ [d] := by rw [List.take_add_one, hd]; rfl
    have hsplit : ds = (ds.take i ++ [d]) ++ ds.drop (i + 1) := by rw [← ht1, List.take_append_drop]
    have hl : acc.length = ((ds.take i).flatMap fs).length := pr.length
    have hl2 : ((ds.take i).flatMap fs).length + (fs d).length ≤ (ds.flatMap fs).length := by
      rw [show ds.flatMap fs = ((ds.take i ++ [d]) ++ ds.drop (i + 1)).flatMap fs by rw [← hsplit], List.flatMap_append, List.flatMap_append]
      simp
    have e1 : (ds.take (i + 1)).flatMap fs = (ds.take i).flatMap fs ++ fs d := by rw [ht1, List.flatMap_append]; simp
    have prTo : ∀ {H' : Hp}, SB (fun b => b = D) H H' → Paired (fun v e => ∀ o, Ro (upd H' D o) v e) acc ((ds.take i).flatMap fs) := fun s => Paired.mono (fun v e h o => hRo _ _ _ _ (fun b u hb => by
      by_cases hbd : b = D
      · rw [hbd, upd_same] at hb ⊢; exact hb
      · rw [upd_ne hbd] at hb ⊢; exact s _ _ hb hbd) (h o)) pr
    refine turn d x H' acc _ (List.mem_of_getElem? hd) s01 (sb0 _ _ ha) (by omega) hx (fun H3 s3 hfe => ?_) (fun H0 H3 acc' s0 s3 h3 p3 => ?_)
    · refine ⟨by omega, fun b o hb => s3 _ _ (s01 _ _ hb), acc, s3 _ _ (sb0 _ _ ha), ?_⟩
      rw [e1, hfe, List.append_nil]
      exact prTo (.of fun b o hb => s3 _ _ (sb0 _ _ hb))
    · refine ⟨by omega, fun b o hb => s3 _ _ (s0 _ _ (s01 _ _ hb)) (ne_of_none hb hD), acc ++ acc', h3, ?_⟩
      rw [e1]
      exact paired_append (prTo fun b o hb hp => s3 _ _ (s0 _ _ (sb0 _ _ hb)) hp) p3
end
end Om
/-! Rules with their fragment named: for what stands in a comprehension's block. -/
namespace Om
open PySem PySem.Spec PyProof.Rows L2 OmM
section
variable {X : Cx} {K : PySem.W.Frag}
theorem op_inK (h : X.K = K) : OpR X (compareOp .In) (rIn K false) := h ▸ op_in_seq
theorem op_notInK (h : X.K = K) : OpR X (compareOp .NotIn) (rIn K true) := h ▸ op_notIn_seq
theorem ix_tupK (h : X.K = K) : IxR X (rIxT K) := h ▸ ix_tup
theorem ix_listK (h : X.K = K) : IxR X (rIxL K) := h ▸ ix_list
theorem lenK (h : X.K = K) : CallR X (.builtin "len") (fun xs H Q => ∃ x n, xs = [x] ∧ LenV K x H n ∧ Q (.int n) H) := h ▸ call_len
theorem isiTK (h : X.K = K) : CallR X (.builtin "isinstance") (rIsiT K) := h ▸ call_isiT
theorem listK (h : X.K = K) : CallR X (.type "list") (fun xs H Q => ∃ p ys, xs = [.ref p] ∧ (SqL K H p ys ∨ SqT K H p ys) ∧ ∀ l, H l = none → Q (.ref l) (upd H l (.lst ys))) := h ▸ call_list_of
theorem inDK (h : X.K = K) (hu : X.A.units + 65 < cLine) : OpR X (compareOp .In) (rInD K) := h ▸ op_inD hu
theorem eqDK (h : X.K = K) (hu : X.A.units + 64 < cLine) : OpR X (compareOp .Eq) (rEqD K) := h ▸ op_eqD hu
theorem neDK (h : X.K = K) (hu : X.A.units + 64 < cLine) : OpR X (compareOp .NotEq) (rNeD K) := h ▸ op_neD hu
theorem fldK {e : Expr} {f : Str} {pos : Pos} {ta : TE} (h : X.K = K) (he : PE X e ta) (hb : attributeBase e f X.env (eval e X.env) = eval e X.env := by rfl) : PE X (.Attribute e f pos) (tFld K ta f) := h ▸ pe_fld he hb
theorem pi_listK {tg l : Expr} {tl : TE} (h : X.K = K) (hl : PE X l tl) : PI X tg l (iList K tl) := h ▸ pi_list hl
end
end Om
/-! Walks: is_count, is_one_of, is_word, are_people. -/
namespace Om
open PySem PySem.Spec PyProof.Rows L2 OmM
def spCount : Sp := fun vs H Q _ => ∃ v a b : Int, vs = [.int v, .int a, .int b] ∧ Q (.bl (decide (a ≤ v) && decide (v ≤ b))) H
def spOneOf (K : PySem.W.Frag) : Sp := fun vs H Q _ => ∃ (s : Str) (a : Addr) (ts : List Str), vs = [.str s, .ref a] ∧ SqT K H a (ts.map V.str) ∧ Q (.bl (decide (s ∈ ts))) H
def spWord : Sp := fun vs H Q _ => ∃ s : Str, vs = [.str s] ∧ Nm s ∧ ∀ H', Same H H' → Q (.bl true) H'
def spPeople : Sp := fun vs H Q _ => ∃ (a : Addr) (ps : List Str), vs = [.ref a] ∧ H a = some (.lst (ps.map V.str)) ∧ (∀ p ∈ ps, Nm p) ∧ ps.Nodup ∧ 1 ≤ ps.length ∧ ps.length ≤ 7 ∧ ∀ H', Same H H' → Q (.bl true) H'
section
variable {P : Program} {w : World} {K : PySem.W.Frag} {mg : Str → Option Value} {base : Heap} {A : Adr}
theorem u_is_count (T : Txt K mg A) : UF P w K mg base 1 "is_count" ["value", "least", "most"] spCount := by
  refine ⟨_, _, T.F_is_count.ok sc_is_count (fun vs H Q E h => ?_) (fun cdv A' outer s H vs Q E hr h => ?_), T.g_is_count, T.F_is_count.kp, T.F_is_count.binds fun _ _ _ _ _ _ us hl => match us, hl with | [_, _, _], _ => rfl⟩
  · obtain ⟨v, a, b, rfl, _⟩ := h
    rfl
  · obtain ⟨v, a, b, rfl, k⟩ := h
    refine ⟨_, (pss_one (ps_ret (pe_and (pe_b call_isi T.n_isinstance (pa_cons (pv 0) (pa_cons (ty_ (T := "int") T.n_int) pa_nil))) (pe_and (pe_not (pe_b call_isi T.n_isinstance (pa_cons (pv 0) (pa_cons (ty_ (T := "bool") T.n_bool) pa_nil)))) (pe_one (pe_chain op_le op_le (pv 1) (pv 0) (pv 2))))))), ?_⟩
    refine ⟨_, rfl, _, _, _, _, true, rfl, .ty _, .base (.int _), kit_ty (by decide +kernel), true, rfl, ?_⟩
    refine iteT ?_
    refine ⟨_, rfl, _, _, _, _, false, rfl, .ty _, .base (.int _), kit_ty (by decide +kernel), false, rfl, true, rfl, ?_⟩
    refine iteT ?_
    refine ⟨_, rfl, _, rfl, _, _, rfl, rfl, _, rfl, ?_⟩
    by_cases h1 : a ≤ v
    · rw [decide_eq_true h1] at k ⊢
      refine iteT ⟨_, rfl, _, _, rfl, rfl, ?_⟩
      rw [Bool.true_and] at k
      exact k
    · rw [decide_eq_false h1] at k ⊢
      refine iteF ?_
      rw [Bool.false_and] at k
      exact k
theorem u_is_one_of (T : Txt K mg A) : UF P w K mg base 1 "is_one_of" ["value", "texts"] (spOneOf K) := by
  refine ⟨_, _, T.F_is_one_of.ok sc_is_one_of (fun vs H Q E h => ?_) (fun cdv A' outer s H vs Q E hr h => ?_), T.g_is_one_of, T.F_is_one_of.kp, T.F_is_one_of.binds fun _ _ _ _ _ _ us hl => match us, hl with | [_, _], _ => rfl⟩
  · obtain ⟨v, a, b, rfl, _⟩ := h
    rfl
  · obtain ⟨v, a, ts, rfl, hT, k⟩ := h
    refine ⟨_, (pss_one (ps_ret (pe_and (pe_b call_isi T.n_isinstance (pa_cons (pv 0) (pa_cons (ty_ (T := "str") T.n_str) pa_nil))) (pe_one (pe_cmpR op_in_seq (pv 0) (pv 1) (by rfl)))))), ?_⟩
    refine ⟨_, rfl, _, _, _, _, true, rfl, .ty _, .base (.str _), kit_ty (by decide +kernel), true, rfl, ?_⟩
    refine iteT ?_
    refine ⟨_, rfl, _, rfl, a, _, rfl, .inr hT, rfl, flat_strs _, ?_⟩
    show Q (.bl (inV (.str v) (ts.map V.str))) H
    rw [inV_str]
    exact k
theorem u_is_word (T : Txt K mg A) : UF P w K mg base 1 "is_word" ["value"] spWord := by
  refine ⟨_, _, T.F_is_word.ok sc_is_word (fun vs H Q E h => ?_) (fun cdv A' outer s H vs Q E hr h => ?_), T.g_is_word, T.F_is_word.kp, T.F_is_word.binds fun _ _ _ _ _ _ us hl => match us, hl with | [_], _ => rfl⟩
  · obtain ⟨v, rfl, _⟩ := h
    rfl
  · obtain ⟨v, rfl, hn, k⟩ := h
    have hu := hu_of hr
    have nd := sc_is_word.nd
    obtain ⟨_, _, _, ml, l1, l2⟩ := menu_ok v hn
    refine ⟨_, (pss_cons (ps_if (PW.pt (pw_or (pt_not (pt_val (pe_b call_isi T.n_isinstance (pa_cons (pv 0) (pa_cons (ty_ (T := "str") T.n_str) pa_nil))))) (pw_or1 (pt_not (pt_chain op_le op_le pe_int (pe_b call_len T.n_len (pa_cons (pv 0) pa_nil)) (gl_int T.g_MOST_SIGNS)))))) (pss_one (ps_ret pe_bl)) pss_nil)
      (pss_one (ps_ret (pe_b (cr_all rfl) T.n_all (pa_cons (pe_lc (own := [("sign", 1)]) rfl nd (pi_str (pv 0)) (blkOk_by (N := n_is_word) (sc := defScope s_is_word) (by decide +kernel)) (fun _ _ _ _ _ => pg_name (i := 1) nd rfl (Or.inl rfl)) (fun _ _ _ _ _ => pts_nil) (fun _ _ _ _ _ => (pe_cmpR op_in_sign (pv 1) (gl_str T.g_LETTERS) (by rfl)))) pa_nil))))), ?_⟩
    refine ⟨_, rfl, _, _, _, _, true, rfl, .ty _, .base (.str _), kit_ty (by decide +kernel), true, rfl, ?_⟩
    refine iteF ⟨_, rfl, .str v, v.length, rfl, ⟨Nat.le_trans l2 (by decide), rfl⟩, _, _, rfl, rfl, true, (blT (show (1 : Int) ≤ (v.length : Nat) by omega)), ?_⟩
    refine iteT ⟨_, _, rfl, rfl, true, (blT (show ((v.length : Nat) : Int) ≤ 8 by omega)), ?_⟩
    refine iteF ?_
    refine ⟨_, rfl, v, rfl, fun D hD => lc_pure (R := fun _ x (c : Nat) => x = .str ⟨#[c]⟩) (Ro := RB) src_text hD (by rw [Array.length_toList]; exact Nat.lt_of_le_of_lt l2 (by decide)) stays_RB (fun _ => some true) ?_ ?_⟩
    · intro d x H2 acc Ny Nn hd e2 _ hx hy hn
      subst hx
      refine ⟨rfl, yes ?_⟩
      refine ⟨_, rfl, d, _, rfl, rfl, ?_⟩
      rw [decide_eq_true (ml d hd)]
      exact hy _ _ true (fun _ _ h => h) (fun _ => rfl) rfl
    · intro H2 acc e2 hacc pr
      refine ⟨D, _, rfl, .of (paired_bl pr ▸ hacc), ?_⟩
      rw [all_true]
      exact k _ e2
theorem u_are_people (T : Txt K mg A) : UF P w K mg base 2 "are_people" ["value"] spPeople := by
  refine ⟨_, _, T.F_are_people.ok sc_are_people (fun vs H Q E h => ?_) (fun cdv A' outer s H vs Q E hr h => ?_), T.g_are_people, T.F_are_people.kp, T.F_are_people.binds fun _ _ _ _ _ _ us hl => match us, hl with | [_], _ => rfl⟩
  · obtain ⟨v, ps, rfl, _⟩ := h
    rfl
  · obtain ⟨a, ps, rfl, ha, hN, hnd, l1, l7, k⟩ := h
    have nd := sc_are_people.nd
    refine ⟨_, (pss_cons (ps_if (PW.pt (pw_or (pt_not (pt_val (pe_b call_isiT T.n_isinstance (pa_cons (pv 0) (pa_cons (pe_tup (pa_cons (ty_ (T := "list") T.n_list) (pa_cons (ty_ (T := "tuple") T.n_tuple) pa_nil))) pa_nil))))) (pw_or1 (pt_not (pt_chain op_le op_le pe_int (pe_b call_len T.n_len (pa_cons (pv 0) pa_nil)) (gl_int T.g_MOST_PEOPLE)))))) (pss_one (ps_ret pe_bl)) pss_nil)
      (pss_one (ps_ret (pe_and (pe_b (cr_all rfl) T.n_all (pa_cons (pe_lc (own := [("one", 1)]) rfl nd (pi_list (pv 0)) (blkOk_by (N := n_are_people) (sc := defScope s_are_people) (by decide +kernel)) (fun _ _ _ _ _ => pg_name (i := 1) nd rfl (Or.inl rfl)) (fun _ _ _ _ _ => pts_nil) (fun _ _ _ _ _ => (pe_f (u_is_word T) (hr.mono (by decide)) (pa_cons (pv 1) pa_nil)))) pa_nil)) (pe_one (pe_cmpR op_eq (pe_b call_lenD T.n_len (pa_cons (pe_dc (own := [("one", 1)]) rfl nd (pi_list (pv 0)) (blkOk_by (N := n_are_people) (sc := defScope s_are_people) (by decide +kernel)) (fun _ _ _ _ _ => pg_name (i := 1) nd rfl (Or.inl rfl)) (fun _ _ _ _ _ => pts_nil) (fun _ _ _ _ _ => (pv 1)) (fun _ _ _ _ _ => pe_int)) pa_nil)) (pe_b call_len T.n_len (pa_cons (pv 0) pa_nil)) (nomark _))))))), ?_⟩
    refine ⟨_, rfl, (by show 2 ≤ sizeLine; decide), fun t ht => ?_⟩
    have nta : a ≠ t := ne_of_none ha ht
    have s1 : Same H (upd H t (.tup [.ty "list", .ty "tuple"])) := same_upd ht
    have ha1 := s1 _ _ ha
    refine ⟨_, t, _, _, _, true, rfl, upd_same, .cons (.ty _) (.cons (.ty _) .nil), .base (.lst ha1), kitAny_cons (b := true) (kit_ty (by decide +kernel)) (fun z => nomatch z) (fun _ => rfl), true, rfl, ?_⟩
    refine iteF ⟨_, rfl, .ref a, ps.length, rfl, .inl ⟨_, .of ha1, by rw [List.length_map]⟩, _, _, rfl, rfl, true, blT (by omega), ?_⟩
    refine iteT ⟨_, _, rfl, rfl, true, blT (by omega), ?_⟩
    refine iteF ?_
    refine ⟨_, rfl, a, rfl, ⟨_, .of ha1⟩, fun D hD => lc_pure (R := RS) (Ro := RB) (src_list (.of ha1) (fun z => z) (fun _ _ _ _ h => h) (paired_str ps _)) hD (Nat.lt_of_le_of_lt l7 (by decide)) stays_RB (fun _ => some true) ?_ ?_⟩
    · intro d x H2 acc Ny Nn hd e2 _ hx hy hn
      subst hx
      refine ⟨rfl, yes ?_⟩
      refine ⟨_, rfl, d, rfl, hN d hd, fun H3 e3 => hy _ _ true e3 (fun _ => rfl) rfl⟩
    · intro H2 acc e2 hacc pr
      refine ⟨D, _, rfl, .of (paired_bl pr ▸ hacc), true, by rw [all_true], ?_⟩
      refine iteT ?_
      have ha2 := e2 _ _ ha1
      refine ⟨_, rfl, a, rfl, ⟨_, .of ha2⟩, fun D2 hD2 => dk_pure (R := RS) (src_list (.of ha2) (fun z => z) (fun _ _ _ _ h => h) (paired_str ps _)) hD2 (Nat.lt_of_le_of_lt l7 (by decide)) (fun p => some p) (by rw [fm_all]; exact hnd) ?_ ?_⟩
      · intro d x H3 Ny Nn hd e3 hx hy hn
        subst hx
        exact ⟨rfl, yes ⟨_, rfl, hy _ _ d (fun _ _ h => h) rfl⟩⟩
      · intro H3 kvs e3 h3 hk
        rw [fm_all] at hk
        have ha3 := e3 _ _ ha2
        have hl : kvs.length = ps.length := by have := congrArg List.length hk; simpa using this
        refine ⟨D2, kvs, rfl, h3, _, rfl, .ref a, ps.length, rfl, .inl ⟨_, .of ha3, by rw [List.length_map]⟩, rfl, ?_⟩
        rw [hl]
        rw [show decide (V.int ((ps.length : Nat) : Int) = V.int ((ps.length : Nat) : Int)) = true from decide_eq_true rfl]
        refine k _ fun b o hb => e3 _ _ (e2 _ _ (s1 _ _ hb))
end
end Om
/-! Walks: the crowd. -/
namespace Om
open PySem PySem.Spec PyProof.Rows L2 OmM
theorem lk_same {x : Str} {v : V} {r : List (Str × V)} : ((x, v) :: r).lookup x = some v := by simp [List.lookup]
theorem lk_ne {x y : Str} {v : V} {r : List (Str × V)} (h : (y == x) = false) : ((x, v) :: r).lookup y = r.lookup y := by simp [List.lookup, h]
theorem lk_nil {y : Str} : ([] : List (Str × V)).lookup y = none := rfl
theorem pF_ne {x y : Str} {v u : V} {r : List (Str × V)} (h : ¬ x = y) : putF y v ((x, u) :: r) = (x, u) :: putF y v r := by
  show (if x = y then _ else _) = _
  rw [if_neg h]
theorem pF_nil {y : Str} {v : V} : putF y v [] = [(y, v)] := rfl
theorem fm_enum (ps : List Str) : (ps.zipIdx.map fun p => (p.2, p.1)).filterMap (fun q : Nat × Str => some q.2) = ps := by
  rw [show (fun q : Nat × Str => some q.2) = some ∘ Prod.snd from rfl, List.filterMap_eq_map, List.map_map]
  rw [show (Prod.snd ∘ fun p : Str × Nat => (p.2, p.1)) = Prod.fst from rfl, List.zipIdx_map_fst]
theorem fC_own {d : Addr} {m : Int} : (fC d m).lookup ("own_places" : Str) = some (.ref d) := lk_same
theorem fC_not {d : Addr} {m : Int} {y : Str} (h1 : (y == "own_places") = false) (h2 : (y == "most") = false) : (fC d m).lookup y = none := (lk_ne h1).trans ((lk_ne h2).trans lk_nil)
def spCInit (A : Adr) : Sp := fun vs H Q _ => ∃ (p dx a : Addr) (ps : List Str) (m : Int), vs = [.ref p, .ref a, .int m] ∧ H p = some (.ins A.C dx []) ∧ H a = some (.lst (ps.map V.str)) ∧ (∀ p ∈ ps, Nm p) ∧ ps.Nodup ∧ 1 ≤ ps.length ∧ ps.length ≤ 7 ∧ 1 ≤ m ∧ m ≤ 10 ∧
  ∀ H', SB (fun b => b = p) H H' → CrowdAt A H' p ps → Q .non H'
def spCPeople (A : Adr) : Sp := fun vs H Q _ => ∃ (c : Addr) (ps : List Str), vs = [.ref c] ∧ CrowdAt A H c ps ∧ ∀ l, H l = none → Q (.ref l) (upd H l (.lst (ps.map V.str)))
def spCLen (A : Adr) : Sp := fun vs H Q _ => ∃ (c : Addr) (ps : List Str), vs = [.ref c] ∧ CrowdAt A H c ps ∧ Q (.int (ps.length : Nat)) H
def spCHas (A : Adr) : Sp := fun vs H Q _ => ∃ (c : Addr) (ps : List Str) (s : Str), vs = [.ref c, .str s] ∧ CrowdAt A H c ps ∧ Nm s ∧ ∀ H', Same H H' → Q (.bl (decide (s ∈ ps))) H'
def spCPairs (A : Adr) : Sp := fun vs H Q _ => ∃ (c : Addr) (ps : List Str), vs = [.ref c] ∧ CrowdAt A H c ps ∧ ps.length ≤ 7 ∧ ∀ l H', Same H H' → H l = none → LAt RP H' l (pairs ps) → Q (.ref l) H'
def spCIs (A : Adr) : Sp := fun vs H Q _ => ∃ (c q : Addr) (ps : List Str) (x y : Str), vs = [.ref c, .ref q] ∧ CrowdAt A H c ps ∧ H q = some (.tup [.str x, .str y]) ∧ Nm x ∧ Nm y ∧ ∀ H', Same H H' → Q (.bl (decide (x ∈ ps) && (decide (y ∈ ps) && !decide (x = y)))) H'
def spCheckC (A : Adr) : Sp := fun vs H Q _ => ∃ c dx fs, vs = [.ref c] ∧ H c = some (.ins A.C dx fs) ∧ fs.lookup ("__class__" : Str) = none ∧ Q .non H
theorem len_pairsAt {ps : List Str} (a : Str) : (pairsAt ps a).length ≤ ps.length := by
  unfold pairsAt
  rw [List.length_map]
  exact List.length_filter_le _ _
theorem len_flat {α β : Type} {f : α → List β} {n : Nat} : ∀ {qs : List α}, (∀ q ∈ qs, (f q).length ≤ n) → (qs.flatMap f).length ≤ qs.length * n
  | [], _ => by simp
  | q :: qs, h => by
    have h1 := len_flat (qs := qs) fun x hx => h x (List.mem_cons_of_mem _ hx)
    have h2 := h q List.mem_cons_self
    rw [List.flatMap_cons, List.length_append, List.length_cons, Nat.succ_mul]
    omega
theorem len_pairs {ps : List Str} (h : ps.length ≤ 7) : (pairs ps).length ≤ 49 := by
  have := len_flat (f := pairsAt ps) (n := 7) (qs := ps) fun q _ => Nat.le_trans (len_pairsAt q) h
  unfold pairs
  omega
section
variable {P : Program} {w : World} {K : PySem.W.Frag} {mg : Str → Option Value} {base : Heap} {A : Adr}
theorem u_C_init (T : Txt K mg A) : FnOk P w K mg base CX0 3 A.f_C_init A.d_C_init ["self", "people", "most"] (spCInit A) := by
  refine T.F_C_init.ok sc_C_init (fun vs H Q E h => ?_) (fun cdv A' outer s H vs Q E hr h => ?_)
  · obtain ⟨p, dx, a, ps, m, rfl, _⟩ := h
    rfl
  · obtain ⟨p, dx, a, ps, m, rfl, hp, ha, hN, hnd, l1, l7, m1, m10, k⟩ := h
    have nd := sc_C_init.nd
    refine ⟨_, (pss_cons (ps_if (pt_not (pt_val (pe_f (u_are_people T) (hr.mono (by decide)) (pa_cons (pv 1) pa_nil)))) (pss_one ps_never) pss_nil)
      (pss_cons (ps_if (pt_not (pt_val (pe_f (u_is_count T) (hr.mono (by decide)) (pa_cons (pv 2) (pa_cons pe_int (pa_cons (gl_int T.g_MOST_MARK) pa_nil)))))) (pss_one ps_never) pss_nil)
      (pss_cons (ps_fld (pv 0) (pe_dc (own := [("at", 3), ("person", 4)]) (g := gTup K 2 (gCons (gName 3) (gCons (gName 4) gNil))) rfl nd (pi_enum rfl T.n_enumerate (pa_cons (pv 1) pa_nil)) (blkOk_by (N := n_C_init) (sc := defScope s_C_init) (by decide +kernel)) (fun _ _ _ _ _ => pg_tup rfl (pgs_cons (pg_name (i := 3) nd rfl (Or.inl rfl)) (pgs_cons (pg_name (i := 4) nd rfl (Or.inl rfl)) pgs_nil))) (fun _ _ _ _ _ => pts_nil) (fun _ _ _ _ _ => (pv 4)) (fun _ _ _ _ _ => (pv 3))) rfl)
      (pss_freezeK (pss_one (ps_fld (pv 0) (pv 2) rfl)))))), ?_⟩
    refine ⟨_, rfl, a, ps, rfl, ha, hN, hnd, l1, l7, fun H1 e1 => ⟨true, rfl, ?_⟩⟩
    refine iteF ?_
    have ha1 := e1 _ _ ha
    have hp1 := e1 _ _ hp
    refine ⟨_, rfl, m, 1, 10, rfl, true, (by rw [decide_eq_true m1, decide_eq_true m10]; rfl), ?_⟩
    refine iteF ?_
    refine ⟨_, rfl, a, _, rfl, .of ha1, fun D hD => dk_pure (src_enum (R := RS) (.of ha1) (fun z => z) (fun _ _ _ _ h => h) (fun _ _ _ _ _ _ h => h) (paired_str ps _)) hD (by simp; exact Nat.lt_of_le_of_lt l7 (by decide)) (fun q => some q.2) (by rw [fm_enum]; exact hnd) ?_ ?_⟩
    · intro d x H3 Ny Nn hd e3 hx hy hn
      obtain ⟨T0, z, rfl, hT0, rfl⟩ := hx
      exact ⟨T0, _, rfl, .of hT0, rfl, _, _, rfl, _, _, rfl, rfl, rfl, yes ⟨_, rfl, _, rfl, hy _ _ d.2 (fun _ _ h => h) rfl⟩⟩
    · intro H3 kvs e3 h3 hk
      rw [fm_enum] at hk
      have hp3 := e3 _ _ hp1
      have npD : p ≠ D := ne_of_none hp1 hD
      refine ⟨_, rfl, p, A.C, dx, [], rfl, hp3, T.cC, T.naC_own_places, (by show 0 < 1000; decide), D, kvs, (by rw [upd_ne npD.symm]; exact h3), fun od es ep hod hsz => ?_⟩
      refine ⟨_, rfl, _, rfl, p, A.C, dx, _, rfl, (by rw [upd_ne npD]; exact upd_same), T.cC, T.naC_most, (by show 1 < 1000; decide), ?_⟩
      refine k _ (fun b o hb hbp => ?_) ⟨dx, D, m, od, kvs, es, ep, ?_, ?_, hk, hod, hsz⟩
      · rw [upd_ne hbp, upd_ne (ne_of_none (e1 _ _ hb) hD), upd_ne hbp]
        exact e3 _ _ (e1 _ _ hb)
      · rw [upd_same, pF_nil, pF_ne (by decide +kernel), pF_nil]
        rfl
      · rw [upd_ne npD.symm, upd_same]
theorem u_C_people (T : Txt K mg A) : UP P w K mg base 1 A.C "people" (spCPeople A) := by
  refine ⟨_, _, _, T.F_C_people.ok sc_C_people (fun vs H Q E h => ?_) (fun cdv A' outer s H vs Q E hr h => ?_), T.p_people, T.F_C_people.binds fun _ _ _ _ _ _ us hl => match us, hl with | [_], _ => rfl⟩
  · obtain ⟨c, ps, rfl, _⟩ := h
    rfl
  · obtain ⟨c, ps, rfl, hc, k⟩ := h
    obtain ⟨dx, d, m, od, kvs, es, ep, h1, h2, h3, _⟩ := hc.ex
    refine ⟨_, (pss_one (ps_ret (pe_bt (call_listF rfl) T.n_list (pa_cons (pe_fld (pv 0) rfl) pa_nil)))), ?_⟩
    refine ⟨_, rfl, c, A.C, dx, _, _, rfl, h1, T.cC, T.naC_own_places, fC_own, d, od, kvs, rfl, h2, ?_⟩
    rw [keys_of h3]
    exact k
theorem u_C_len (T : Txt K mg A) : UM P w K mg base 1 A.C "__len__" ["self"] (spCLen A) := by
  refine ⟨_, _, T.F_C_len.ok sc_C_len (fun vs H Q E h => ?_) (fun cdv A' outer s H vs Q E hr h => ?_), T.m_C_len, T.F_C_len.binds fun _ _ _ _ _ _ us hl => match us, hl with | [_], _ => rfl⟩
  · obtain ⟨c, ps, rfl, _⟩ := h
    rfl
  · obtain ⟨c, ps, rfl, hc, k⟩ := h
    obtain ⟨dx, d, m, od, kvs, es, ep, h1, h2, h3, _⟩ := hc.ex
    refine ⟨_, (pss_one (ps_ret (pe_b call_lenF T.n_len (pa_cons (pe_fld (pv 0) rfl) pa_nil)))), ?_⟩
    refine ⟨_, rfl, c, A.C, dx, _, _, rfl, h1, T.cC, T.naC_own_places, fC_own, d, od, kvs, rfl, h2, ?_⟩
    rw [show kvs.length = ps.length by have := congrArg List.length h3; simpa using this]
    exact k
theorem u_C_has (T : Txt K mg A) : UM P w K mg base 2 A.C "__contains__" ["self", "person"] (spCHas A) := by
  refine ⟨_, _, T.F_C_contains.ok sc_C_contains (fun vs H Q E h => ?_) (fun cdv A' outer s H vs Q E hr h => ?_), T.m_C_contains, T.F_C_contains.binds fun _ _ _ _ _ _ us hl => match us, hl with | [_, _], _ => rfl⟩
  · obtain ⟨c, ps, z, rfl, _⟩ := h
    rfl
  · obtain ⟨c, ps, z, rfl, hc, hz, k⟩ := h
    have hu := hu_of hr
    refine ⟨_, (pss_one (ps_ret (pe_and (pe_f (u_is_word T) (hr.mono (by decide)) (pa_cons (pv 1) pa_nil)) (pe_one (pe_cmp (pc_din hu (pv 1) (pe_fld (pv 0) rfl))))))), ?_⟩
    refine ⟨_, rfl, z, rfl, hz, fun H1 e1 => ⟨true, rfl, ?_⟩⟩
    refine iteT ?_
    obtain ⟨dx, d, m, od, kvs, es, ep, h1, h2, h3, _⟩ := (hc.stay e1).ex
    refine ⟨_, rfl, _, rfl, c, A.C, dx, _, _, rfl, h1, T.cC, T.naC_own_places, fC_own, d, _, rfl, .inl ⟨kvs, Sum.inr z, .inr ⟨od, h2⟩, rfl, rfl⟩, ?_⟩
    rw [valV_str h3]
    exact k _ e1
theorem u_C_iter (T : Txt K mg A) : UI P w K mg base 1 A.C "own_places" := by
  refine ⟨_, _, fn_ofG T.F_C_iter sc_C_iter (fun _ _ vs H Q E h => ?_) (fun cdv A' outer s H vs Q E hr h => ?_), T.m_C_iter, T.F_C_iter.binds fun _ _ _ _ _ _ us hl => match us, hl with | [_], _ => rfl⟩
  · obtain ⟨a, dx, fs, d, o, es, ep, rfl, _⟩ := h
    rfl
  · obtain ⟨a, dx, fs, d, o, es, ep, rfl, h1, h2, h3, h4, k⟩ := h
    refine ⟨_, (pss_one (ps_ret (pe_b call_iterK T.n_iter (pa_cons (pe_fld (pv 0) rfl) pa_nil)))), ?_⟩
    exact ⟨_, rfl, a, A.C, dx, _, _, rfl, h1, T.cC, T.naC_own_places, h2, d, o, es, ep, rfl, h3, h4, k⟩
theorem u_C_pairs (T : Txt K mg A) : UM P w K mg base 1 A.C "pairs" ["self"] (spCPairs A) := by
  refine ⟨_, _, T.F_C_pairs.ok sc_C_pairs (fun vs H Q E h => ?_) (fun cdv A' outer s H vs Q E hr h => ?_), T.m_C_pairs, T.F_C_pairs.binds fun _ _ _ _ _ _ us hl => match us, hl with | [_], _ => rfl⟩
  · obtain ⟨c, ps, rfl, _⟩ := h
    rfl
  · obtain ⟨c, ps, rfl, hc, l7, k⟩ := h
    have nd := sc_C_pairs.nd
    obtain ⟨dx, d, m, od, kvs, es, ep, h1, h2, h3, _⟩ := hc.ex
    refine ⟨_, (pss_one (ps_ret (pe_lc2 (own := [("one", 1), ("other", 2)]) (vs1 := [2]) (wi1 := iKeys (tFld K (tVar 0) "own_places")) rfl nd (pi_keys (pe_fld (pv 0) rfl)) (blkOk_by (N := n_C_pairs) (sc := defScope s_C_pairs) (by decide +kernel)) (by decide) (fun _ _ _ _ _ => pg_name (i := 1) nd rfl (Or.inl rfl)) (fun _ _ _ _ _ => pts_nil) (fun _ _ _ _ _ => pi_keys (pe_fld (pv 0) rfl)) (fun _ _ _ _ _ => pg_name (i := 2) nd rfl (Or.inl rfl)) (fun _ _ _ _ _ => pts_one (pt_cmpR op_ne (pv 1) (pv 2) (nomark _))) (fun _ _ _ _ _ => (pe_tup (pa_cons (pv 1) (pa_cons (pv 2) pa_nil))))))), ?_⟩
    refine ⟨_, rfl, c, A.C, dx, _, _, rfl, h1, T.cC, T.naC_own_places, fC_own, d, od, rfl, .inl ⟨kvs, h2, fun D hD => lc2_pure (R := RS) (Ro := RP) (src_keys h2 (fun z => z) h3) hD stays_RP (pairsAt ps) (Nat.lt_of_le_of_lt (len_pairs l7) (by decide)) ?_ ?_⟩⟩
    · intro z x H2 acc Nx hz e2 hacc hb hx hn hy
      cases hx
      refine ⟨rfl, yes ⟨_, rfl, c, A.C, dx, _, _, rfl, e2 _ _ h1, T.cC, T.naC_own_places, fC_own, d, od, rfl, .inl ⟨kvs, e2 _ _ h2, ?_⟩⟩⟩
      have hdD : d ≠ D := ne_of_none h2 hD
      have hfm : ps.filterMap (fun b => if decide (b ≠ z) = true then some (z, b) else none) = pairsAt ps z := by
        unfold pairsAt
        rw [← List.filterMap_eq_map, ← List.filterMap_eq_filter, List.filterMap_filterMap]
        congr 1
        funext b
        by_cases hbz : b = z
        · simp [hbz, Option.guard]
        · simp [hbz, Option.guard]
      refine lc_inner (R1 := RS) (Ro := RP) (src_keys (e2 _ _ h2) hdD h3) hacc stays_RP (fun b => if decide (b ≠ z) = true then some (z, b) else none) (by rw [hfm]; exact hb) ?_ (fun H' acc' s' ha' pr' => hy _ H' acc' (fun _ _ h => h) s' ha' (hfm ▸ pr'))
      intro b x H3 acc3 Ny Nn hbm s3 ha3 hx3 hy3 hn3
      cases hx3
      refine ⟨rfl, _, rfl, _, rfl, rfl, _, rfl, ?_⟩
      by_cases hbz : b = z
      · subst hbz
        rw [show (!decide (V.str b = V.str b)) = false by simp]
        exact iteF (hn3 H3 (fun _ _ h => h) (by simp))
      · rw [show (!decide (V.str z = V.str b)) = true by simp; exact fun e => hbz e.symm]
        refine iteT ⟨_, rfl, _, rfl, (by show 2 ≤ sizeLine; decide), fun t ht => ?_⟩
        exact hy3 _ _ (z, b) (same_upd ht) (fun o => ⟨t, rfl, by rw [upd_ne (ne_of_none ha3 ht).symm]; exact upd_same⟩) (by simp [hbz])
    · intro H2 acc e2 hacc pr
      exact k D H2 e2 hD ⟨acc, hacc, pr⟩
theorem u_C_is_pair (T : Txt K mg A) : UM P w K mg base 3 A.C "is_pair" ["self", "value"] (spCIs A) := by
  refine ⟨_, _, T.F_C_is_pair.ok sc_C_is_pair (fun vs H Q E h => ?_) (fun cdv A' outer s H vs Q E hr h => ?_), T.m_C_is_pair, T.F_C_is_pair.binds fun _ _ _ _ _ _ us hl => match us, hl with | [_, _], _ => rfl⟩
  · obtain ⟨c, q, ps, x, y, rfl, _⟩ := h
    rfl
  · obtain ⟨c, q, ps, x, y, rfl, hc, hq, hx, hy, k⟩ := h
    refine ⟨_, (pss_cons (ps_if (PW.pt (pw_or (pt_not (pt_val (pe_b call_isi T.n_isinstance (pa_cons (pv 1) (pa_cons (ty_ (T := "tuple") T.n_tuple) pa_nil))))) (pw_or1 (pt_cmpR op_ne (pe_b call_len T.n_len (pa_cons (pv 1) pa_nil)) pe_int (nomark _))))) (pss_one (ps_ret pe_bl)) pss_nil)
      (pss_one (ps_ret (pe_and (pe_cmpR (op_inU (u_C_has T) (hr.mono (by decide))) (pe_ix ix_tup (pv 1) pe_int (fun _ _ => rfl)) (pv 0) (by rfl)) (pe_and (pe_cmpR (op_inU (u_C_has T) (hr.mono (by decide))) (pe_ix ix_tup (pv 1) pe_int (fun _ _ => rfl)) (pv 0) (by rfl)) (pe_one (pe_cmpR op_ne (pe_ix ix_tup (pv 1) pe_int (fun _ _ => rfl)) (pe_ix ix_tup (pv 1) pe_int (fun _ _ => rfl)) (nomark _)))))))), ?_⟩
    refine ⟨_, rfl, _, _, _, _, true, rfl, .ty _, .base (.tup hq), kit_ty (by decide +kernel), true, rfl, ?_⟩
    refine iteF ⟨_, rfl, .ref q, 2, rfl, .inr ⟨_, .of hq, rfl⟩, rfl, false, rfl, ?_⟩
    refine iteF ?_
    obtain ⟨dx, d, m, od, kvs, es, ep, h1, _⟩ := hc.ex
    refine ⟨_, rfl, q, _, _, _, rfl, rfl, .of hq, rfl, _, rfl, c, dx, _, rfl, h1, c, ps, x, rfl, hc, hx, fun H1 e1 => ⟨_, rfl, _, rfl, ?_⟩⟩
    by_cases hxp : x ∈ ps
    · rw [decide_eq_true hxp] at k ⊢
      refine iteT ?_
      refine ⟨_, rfl, q, _, _, _, rfl, rfl, .of (e1 _ _ hq), rfl, _, rfl, c, dx, _, rfl, e1 _ _ h1, c, ps, y, rfl, hc.stay e1, hy, fun H2 e2 => ⟨_, rfl, _, rfl, ?_⟩⟩
      have e12 : Same H H2 := fun _ _ h => e2 _ _ (e1 _ _ h)
      by_cases hyp : y ∈ ps
      · rw [decide_eq_true hyp] at k ⊢
        refine iteT ?_
        refine ⟨_, rfl, q, _, _, _, rfl, rfl, .of (e12 _ _ hq), rfl, _, rfl, q, _, _, _, rfl, rfl, .of (e12 _ _ hq), rfl, rfl, ?_⟩
        rw [show (!decide (V.str x = V.str y)) = !decide (x = y) by simp]
        exact k _ e12
      · rw [decide_eq_false hyp] at k ⊢
        exact iteF (k _ e12)
    · rw [decide_eq_false hxp] at k ⊢
      exact iteF (k _ e1)
end
end Om
/-! Walks: check_crowd, are_reads, first_of. -/
namespace Om
open PySem PySem.Spec PyProof.Rows L2 OmM
def spReads (A : Adr) : Sp := fun vs H Q _ => ∃ (c r : Addr) (ps : List Str) (rs : List (Str × Str)), vs = [.ref c, .ref r] ∧ CrowdAt A H c ps ∧ LAt RP H r rs ∧ (∀ p ∈ rs, p ∈ pairs ps) ∧ rs.Nodup ∧ rs.length ≤ 49 ∧ (∀ s ∈ ps, Nm s) ∧ ∀ H', Same H H' → Q (.bl true) H'
def spFirst (A : Adr) : Sp := fun vs H Q _ => ∃ (c l : Addr) (ps ss : List Str) (f : Str), vs = [.ref c, .ref l] ∧ CrowdAt A H c ps ∧ H l = some (.lst (ss.map V.str)) ∧ ps.length ≤ 7 ∧ firstOf ps ss = some f ∧ ∀ H', Same H H' → Q (.str f) H'
theorem tyC {K : PySem.W.Frag} {mg : Str → Option Value} {A : Adr} (T : Txt K mg A) {H : Hp} {a dx : Addr} {fs : List (Str × V)} (e : H a = some (.ins A.C dx fs)) : TyX K H (.ref a) (.ref A.C) := .base (.ins e T.cC T.ciC T.cn T.ct T.moC)
theorem tyR {K : PySem.W.Frag} {mg : Str → Option Value} {A : Adr} (T : Txt K mg A) {H : Hp} {a dx : Addr} {fs : List (Str × V)} (e : H a = some (.ins A.R dx fs)) : TyX K H (.ref a) (.ref A.R) := .base (.ins e T.cR T.ciR T.cn T.ct T.moR)
theorem SB.trans' {P : Addr → Prop} {H H1 H2 : Hp} (a : Same H H1) (b : Same H1 H2) : Same H H2 := fun c o h => b c o (a c o h)
section
variable {P : Program} {w : World} {K : PySem.W.Frag} {mg : Str → Option Value} {base : Heap} {A : Adr}
theorem u_check_crowd (T : Txt K mg A) : UF P w K mg base 1 "check_crowd" ["value"] (spCheckC A) := by
  refine ⟨_, _, T.F_check_crowd.ok sc_check_crowd (fun vs H Q E h => ?_) (fun cdv A' outer s H vs Q E hr h => ?_), T.g_check_crowd, T.F_check_crowd.kp, T.F_check_crowd.binds fun _ _ _ _ _ _ us hl => match us, hl with | [_], _ => rfl⟩
  · obtain ⟨c, dx, fs, rfl, _⟩ := h
    rfl
  · obtain ⟨c, dx, fs, rfl, h1, h2, k⟩ := h
    refine ⟨_, (pss_one (ps_if (pt_not (pt_val (pe_b call_isi T.n_isinstance (pa_cons (pv 0) (pa_cons (gl_ref T.g_Crowd) pa_nil))))) (pss_one ps_never) pss_nil)), ?_⟩
    refine ⟨_, rfl, _, _, _, _, true, rfl, .own _, tyC T h1, T.kiC, true, rfl, ?_⟩
    exact iteF k
theorem u_are_reads (T : Txt K mg A) : UF P w K mg base 4 "are_reads" ["crowd", "value"] (spReads A) := by
  refine ⟨_, _, T.F_are_reads.ok sc_are_reads (fun vs H Q E h => ?_) (fun cdv A' outer s H vs Q E hr h => ?_), T.g_are_reads, T.F_are_reads.kp, T.F_are_reads.binds fun _ _ _ _ _ _ us hl => match us, hl with | [_, _], _ => rfl⟩
  · obtain ⟨c, r, ps, rs, rfl, _⟩ := h
    rfl
  · obtain ⟨c, r, ps, rs, rfl, hc, ⟨vs, hr0, hpr⟩, hin, hnd, hl, hN, k⟩ := h
    have nd := sc_are_reads.nd
    have hu := hu_of hr
    refine ⟨_, (pss_cons (ps_if (PW.pt (pw_or (pt_not (pt_val (pe_b call_isiT T.n_isinstance (pa_cons (pv 1) (pa_cons (pe_tup (pa_cons (ty_ (T := "list") T.n_list) (pa_cons (ty_ (T := "tuple") T.n_tuple) pa_nil))) pa_nil))))) (pw_or1 (pt_not (pt_val (pe_b (cr_all rfl) T.n_all (pa_cons (pe_lc (own := [("one", 2)]) rfl nd (pi_list (pv 1)) (blkOk_by (N := n_are_reads) (sc := defScope s_are_reads) (by decide +kernel)) (fun _ _ _ _ _ => pg_name (i := 2) nd rfl (Or.inl rfl)) (fun _ _ _ _ _ => pts_nil) (fun _ _ _ _ _ => (pe_m (u_C_is_pair T) T.cC (hr.mono (by decide)) (pv 0) (pa_cons (pv 2) pa_nil)))) pa_nil))))))) (pss_one (ps_ret pe_bl)) pss_nil)
      (pss_one (ps_ret (pe_cmpR op_eq (pe_b call_len_dT T.n_len (pa_cons (pe_dcT hu (own := [("one", 2)]) rfl nd (pi_list (pv 1)) (blkOk_by (N := n_are_reads) (sc := defScope s_are_reads) (by decide +kernel)) (fun _ _ _ _ _ => pg_name (i := 2) nd rfl (Or.inl rfl)) (fun _ _ _ _ _ => pts_nil) (fun _ _ _ _ _ => (pv 2)) (fun _ _ _ _ _ => pe_int)) pa_nil)) (pe_b call_len T.n_len (pa_cons (pv 1) pa_nil)) (nomark _))))), ?_⟩
    refine ⟨_, rfl, (by show 2 ≤ sizeLine; decide), fun t ht => ?_⟩
    have s1 : Same H (upd H t (.tup [.ty "list", .ty "tuple"])) := same_upd ht
    have hr1 := s1 _ _ hr0
    have hp1 := paired_stays stays_RP s1 hpr
    have hsz : rs.length < sizeLine := Nat.lt_of_le_of_lt hl (by decide)
    refine ⟨_, t, _, _, _, true, rfl, upd_same, .cons (.ty _) (.cons (.ty _) .nil), .base (.lst hr1), kitAny_cons (b := true) (kit_ty (by decide +kernel)) (fun z => nomatch z) (fun _ => rfl), true, rfl, ?_⟩
    refine iteF ?_
    refine ⟨_, rfl, r, rfl, ⟨_, .of hr1⟩, fun D hD => lc_pure (R := RP) (Ro := RB) (src_list (.of hr1) (fun z => z) (fun _ _ _ _ e => stays_RP _ _ _ _ (SB.same ‹_›) e) hp1) hD hsz stays_RB (fun _ => some true) ?_ ?_⟩
    · intro d x H2 acc Ny Nn hd e2 _ hx hy hn
      obtain ⟨q, rfl, hq⟩ := hx
      have hc2 := hc.stay (SB.trans' (P := fun _ => False) s1 e2)
      obtain ⟨dx, _, _, _, _, _, _, hco, _⟩ := hc2.ex
      obtain ⟨m1, m2, m3⟩ := mem_pairs.mp (hin d hd)
      refine ⟨rfl, yes ?_⟩
      refine ⟨_, rfl, c, dx, _, rfl, hco, fC_not (by decide +kernel) (by decide +kernel), _, rfl, c, q, ps, d.1, d.2, rfl, hc2, hq, hN _ m1, hN _ m2, fun H3 e3 => ?_⟩
      rw [decide_eq_true m1, decide_eq_true m2, decide_eq_false (fun e => m3 e.symm)]
      exact hy _ _ true e3 (fun _ => rfl) rfl
    · intro H2 acc e2 hacc pr
      refine ⟨D, _, rfl, .of (paired_bl pr ▸ hacc), true, by rw [all_true], ?_⟩
      refine iteF ?_
      have hr2 := e2 _ _ hr1
      refine ⟨_, rfl, r, rfl, ⟨_, .of hr2⟩, fun D2 hD2 => dt_pure (R := RP) (src_list (.of hr2) (fun z => z) (fun _ _ _ _ e => stays_RP _ _ _ _ (SB.same ‹_›) e) (paired_stays stays_RP e2 hp1)) hD2 hsz (fun p => some p) (by rw [fm_all]; exact hnd) ?_ ?_⟩
      · intro d x H3 Ny Nn hd e3 hx hy hn
        exact ⟨rfl, yes ⟨_, rfl, hy _ _ _ d (fun _ _ h => h) hx rfl⟩⟩
      · intro H3 kvs e3 h3 hk
        rw [fm_all] at hk
        have hl1 : kvs.length = rs.length := by have := congrArg List.length hk; simpa using this
        refine ⟨D2, kvs, rfl, h3, _, rfl, .ref r, rs.length, rfl, .inl ⟨_, .of (e3 _ _ hr2), hpr.length.symm⟩, rfl, ?_⟩
        rw [hl1]
        rw [show decide (V.int ((rs.length : Nat) : Int) = V.int ((rs.length : Nat) : Int)) = true from decide_eq_true rfl]
        exact k _ fun b o hb => e3 _ _ (e2 _ _ (s1 _ _ hb))
theorem u_first_of (T : Txt K mg A) : UF P w K mg base 3 "first_of" ["crowd", "people"] (spFirst A) := by
  refine ⟨_, _, T.F_first_of.ok sc_first_of (fun vs H Q E h => ?_) (fun cdv A' outer s H vs Q E hr h => ?_), T.g_first_of, T.F_first_of.kp, T.F_first_of.binds fun _ _ _ _ _ _ us hl => match us, hl with | [_, _], _ => rfl⟩
  · obtain ⟨c, r, ps, rs, f, rfl, _⟩ := h
    rfl
  · obtain ⟨c, l, ps, ss, f, rfl, hc, hl, h7, hf, k⟩ := h
    have nd := sc_first_of.nd
    obtain ⟨dx, _, _, _, _, _, _, hco, _⟩ := hc.ex
    refine ⟨_, (pss_one (ps_ret (pe_ix ix_list (pe_lc (own := [("person", 2)]) rfl nd (pi_list (pe_p (u_C_people T) T.cC (hr.mono (by decide)) (pv 0))) (blkOk_by (N := n_first_of) (sc := defScope s_first_of) (by decide +kernel)) (fun _ _ _ _ _ => pg_name (i := 2) nd rfl (Or.inl rfl)) (fun _ _ _ _ _ => pts_one (pt_cmpR (op_inK (K := K) rfl) (pv 2) (pv 1) (by rfl))) (fun _ _ _ _ _ => (pv 2))) pe_int (fun _ _ => rfl)))), ?_⟩
    refine ⟨_, rfl, c, dx, _, rfl, hco, c, ps, rfl, hc, fun m hm => ⟨m, rfl, ⟨_, .of upd_same⟩, fun D hD => lc_pure (R := RS) (Ro := RS) (src_list (.of upd_same) (fun z => z) (fun _ _ _ _ h => h) (paired_str ps _)) hD (Nat.lt_of_le_of_lt h7 (by decide)) stays_RS (fun p => if decide (p ∈ ss) = true then some p else none) ?_ ?_⟩⟩
    · intro d x H2 acc Ny Nn hd e2 _ hx hy hn
      cases hx
      have hl2 := e2 _ _ (same_upd hm _ _ hl)
      refine ⟨rfl, _, rfl, _, rfl, l, _, rfl, .inl (.of hl2), rfl, flat_strs _, _, congrArg V.bl (inV_str d ss), ?_⟩
      by_cases h : d ∈ ss
      · rw [decide_eq_true h]
        exact iteT ⟨_, rfl, hy _ _ d (fun _ _ h => h) (fun _ => rfl) (by simp [h])⟩
      · rw [decide_eq_false h]
        exact iteF (hn _ (fun _ _ h => h) (by simp [h]))
    · intro H2 acc e2 hacc pr
      rw [fm_if, ] at pr
      have hacc' := paired_str_eq pr
      unfold firstOf at hf
      cases hps : ps.filter (fun p => decide (p ∈ ss)) with
      | nil => rw [hps] at hf; cases hf
      | cons g r =>
        rw [hps] at hf hacc'
        cases hf
        refine ⟨D, acc, 0, .str f, rfl, rfl, .of hacc, ?_, k _ fun b o hb => e2 _ _ (same_upd hm _ _ hb)⟩
        rw [hacc']
        exact atI_nat (j := 0) rfl
end
end Om
/-! Walk: lists_in_order. -/
namespace Om
open PySem PySem.Spec PyProof.Rows L2 OmM
def spLio (A : Adr) : Sp := fun vs H Q _ => ∃ (c l : Addr) (ps : List Str) (ls : List (List Str)), vs = [.ref c, .ref l] ∧ CrowdAt A H c ps ∧ LAt RL H l ls ∧ ps.length ≤ 7 ∧ ls.length ≤ 7 ∧ ∀ t H' us, Same H H' → H t = none → H' t = some (.tup us) → Paired (RU H') us (lio ps ls) → Q (.ref t) H'
theorem lioAt_snoc (ps : List Str) (ls : List (List Str)) (one : List Str) (p : Str) : lioAt ps (ls ++ [one]) p = lioAt ps ls p ++ (if (decide (p ∈ one) && decide (some p = firstOf ps one)) = true then [ps.filter fun q => decide (q ∈ one)] else []) := by
  unfold lioAt
  rw [List.filter_append, List.map_append]
  congr 1
  rw [List.filter_cons]
  by_cases h : (decide (p ∈ one) && decide (some p = firstOf ps one)) = true
  · rw [if_pos h, if_pos h]; rfl
  · rw [if_neg h, if_neg h]; rfl
theorem len_lioAt (ps : List Str) (ls : List (List Str)) (p : Str) : (lioAt ps ls p).length ≤ ls.length := by
  unfold lioAt
  rw [List.length_map]
  exact List.length_filter_le _ _
section
variable {P : Program} {w : World} {K : PySem.W.Frag} {mg : Str → Option Value} {base : Heap} {A : Adr}
theorem u_lists_in_order (T : Txt K mg A) : UF P w K mg base 4 "lists_in_order" ["crowd", "lists"] (spLio A) := by
  refine ⟨_, _, T.F_lists_in_order.ok sc_lists_in_order (fun vs H Q E h => ?_) (fun cdv A' outer s H vs Q E hr h => ?_), T.g_lists_in_order, T.F_lists_in_order.kp, T.F_lists_in_order.binds fun _ _ _ _ _ _ us hl => match us, hl with | [_, _], _ => rfl⟩
  · obtain ⟨c, r, ps, rs, rfl, _⟩ := h
    rfl
  · obtain ⟨c, l, ps, ls, rfl, hc, hl0, h7, hl7, k⟩ := h
    have nd := sc_lists_in_order.nd
    obtain ⟨dx, _, _, _, _, _, _, hco, _⟩ := hc.ex
    refine ⟨_, (pss_cons (ps_set (i := 2) nd rfl (Or.inl rfl) (pe_lst pa_nil))
      (pss_cons (ps_for PassesOwn.never rfl (pi_list (pe_p (u_C_people T) T.cC (hr.mono (by decide)) (pv 0))) (pg_name (i := 3) nd rfl (Or.inl rfl))
        (pss_one (ps_for PassesOwn.never rfl (pi_list (pv 1)) (pg_name (i := 4) nd rfl (Or.inr rfl))
          (pss_one (ps_if (PW.pt (pw_and (pt_cmpR op_in_seq (pv 3) (pv 4) (by rfl)) (pw_and1 (pt_cmpR op_eq (pv 3) (pe_f (u_first_of T) (hr.mono (by decide)) (pa_cons (pv 0) (pa_cons (pv 4) pa_nil))) (nomark _))))) (pss_one (ps_expr (pe_bm PySem.F.plainAttrs_list PySem.F.slot_list_append PySem.F.type_list_append mt_append (pv 2) (pa_cons (pe_bt call_tuple_of T.n_tuple (pa_cons (pe_lc (own := [("other", 5)]) rfl nd (pi_list (pe_p (u_C_people T) T.cC (hr.mono (by decide)) (pv 0))) (blkOk_by (N := n_lists_in_order) (sc := defScope s_lists_in_order) (by decide +kernel)) (fun _ _ _ _ _ => pg_name (i := 5) nd rfl (Or.inl rfl)) (fun _ _ _ _ _ => pts_one (pt_cmpR (op_inK (K := K) rfl) (pv 5) (pv 4) (by rfl))) (fun _ _ _ _ _ => (pv 5))) pa_nil)) pa_nil)))) pss_nil)))))
      (pss_one (ps_ret (pe_bt call_tuple_of T.n_tuple (pa_cons (pv 2) pa_nil)))))), ?_⟩
    refine ⟨Nat.zero_le _, fun f hf => ?_⟩
    have s1 : Same H (upd H f (.lst [])) := same_upd hf
    refine ⟨_, rfl, c, dx, _, rfl, s1 _ _ hco, c, ps, rfl, hc.stay s1, fun m hm => ⟨m, rfl, ⟨_, .of upd_same⟩, ?_⟩⟩
    have nmf : m ≠ f := (ne_of_none upd_same hm).symm
    have s2 : Same (upd H f (.lst [])) (upd (upd H f (.lst [])) m (.lst (ps.map V.str))) := same_upd hm
    have s12 := SB.trans' (P := fun _ => False) s1 s2
    generalize hH2 : (upd (upd H f (.lst [])) m (.lst (ps.map V.str))) = H2 at *
    have hm2 : H2 m = some (.lst (ps.map V.str)) := by rw [← hH2]; exact upd_same
    have hf2 : H2 f = some (.lst []) := s2 _ _ upd_same
    have keepRL : ∀ (H H' : Hp) v (d : List Str), SB (fun b => b = f) H H' → (∀ q, v = .ref q → q ≠ f) → RL H v d → RL H' v d := fun H H' v d e n ⟨q, a, b⟩ => ⟨q, a, e _ _ b (n q a)⟩
    refine for_src (P := fun b => b = f) (R := RS) (src_list (.of hm2) nmf (fun _ _ _ _ h => h) (paired_str ps _)) (fun pre σ H' => ∃ x3 x4 x5, σ = [some (.ref c), some (.ref l), some (.ref f), x3, x4, x5] ∧ SB (fun b => b = f) H2 H' ∧ ∃ acc, H' f = some (.lst acc) ∧ Paired (fun v e => ∀ o, RU (upd H' f o) v e) acc (pre.flatMap (lioAt ps ls)))
      ⟨none, none, none, rfl, SB.refl _, [], hf2, .nil⟩ (fun _ _ _ ⟨_, _, _, _, e, _⟩ => e) ?_ ?_
    · rintro pre p post x σ H3 H3' hsplit ⟨x3, x4, x5, rfl, e3, acc, hacc, pr⟩ hH3 hx
      cases hx
      obtain ⟨H3e, e3', hacc', pr'⟩ : Same H3 H3' ∧ SB (fun b => b = f) H2 H3' ∧ H3' f = some (.lst acc) ∧ Paired (fun v e => ∀ o, RU (upd H3' f o) v e) acc (pre.flatMap (lioAt ps ls)) := by
        rcases hH3 with rfl | ⟨T0, o, hT, rfl⟩
        · exact ⟨fun _ _ h => h, e3, hacc, pr⟩
        · exact ⟨same_upd hT, e3.trans (.of (same_upd hT)), same_upd hT _ _ hacc, Paired.mono (fun v e h o => stays_RU _ _ _ _ (SB.updD (SB.of (P := fun _ => False) (same_upd hT))).same (h o)) pr⟩
      obtain ⟨vs0, hvs0, hpvs⟩ := hl0
      have nlf : l ≠ f := ne_of_none hvs0 hf
      have hl3 : H3' l = some (.lst vs0) := e3' _ _ (s12 _ _ hvs0) nlf
      refine ⟨_, rfl, l, rfl, ⟨_, .of hl3⟩, ?_⟩
      have hpv3 : Paired (fun v (d : List Str) => RL H3' v d ∧ ∀ q, v = .ref q → q ≠ f) vs0 ls := Paired.mono (fun v d ⟨q, a, b⟩ => by
        have nq : q ≠ f := ne_of_none b hf
        exact ⟨⟨q, a, e3' _ _ (s12 _ _ b) nq⟩, fun q' h => by rw [a] at h; cases h; exact nq⟩) hpvs
      refine for_src (P := fun b => b = f) (R := fun H v d => RL H v d ∧ ∀ q, v = .ref q → q ≠ f) (ds := ls) (src_list (.of hl3) nlf (fun H v d e ⟨h, n⟩ => ⟨keepRL _ _ _ _ e n h, n⟩) hpv3) (fun pre2 σ H' => ∃ x4 x5, σ = [some (.ref c), some (.ref l), some (.ref f), some (.str p), x4, x5] ∧ SB (fun b => b = f) H3' H' ∧ ∃ acc, H' f = some (.lst acc) ∧ Paired (fun v e => ∀ o, RU (upd H' f o) v e) acc (pre.flatMap (lioAt ps ls) ++ lioAt ps pre2 p))
        ⟨x4, x5, rfl, SB.refl _, acc, hacc', by simpa [lioAt] using pr'⟩ (fun _ _ _ ⟨_, _, _, e, _⟩ => e) ?_ ?_
      · rintro pre2 one post2 x σ H4 H4' hsplit2 ⟨x4, x5, rfl, e4, acc2, hacc2, pr2⟩ hH4 ⟨⟨q, rfl, hq⟩, nq⟩
        have nqf : q ≠ f := nq q rfl
        obtain ⟨e4', hacc2', pr2'⟩ : SB (fun b => b = f) H3' H4' ∧ H4' f = some (.lst acc2) ∧ Paired (fun v e => ∀ o, RU (upd H4' f o) v e) acc2 (pre.flatMap (lioAt ps ls) ++ lioAt ps pre2 p) := by
          rcases hH4 with rfl | ⟨T0, o, hT, rfl⟩
          · exact ⟨e4, hacc2, pr2⟩
          · exact ⟨e4.trans (.of (same_upd hT)), same_upd hT _ _ hacc2, Paired.mono (fun v e h o => stays_RU _ _ _ _ (SB.updD (SB.of (P := fun _ => False) (same_upd hT))).same (h o)) pr2⟩
        have sAll : ∀ b o, H b = some o → H4' b = some o := fun b o hb => e4' _ _ (e3' _ _ (s12 _ _ hb) (ne_of_none hb hf)) (ne_of_none hb hf)
        have hlen : acc2.length ≤ 7 * 7 + 7 := by
          rw [pr2'.length, List.length_append]
          have a1 := len_flat (f := lioAt ps ls) (n := 7) (qs := pre) fun q _ => Nat.le_trans (len_lioAt _ _ _) hl7
          have a2 := len_lioAt ps pre2 p
          have a3 : pre.length ≤ 7 := by have := congrArg List.length hsplit; simp at this; omega
          have a4 : pre2.length ≤ 7 := by have := congrArg List.length hsplit2; simp at this; omega
          have : pre.length * 7 ≤ 49 := by omega
          omega
        refine ⟨_, rfl, _, rfl, q, _, rfl, .inl (.of hq), rfl, flat_strs _, _, congrArg V.bl (inV_str p one), ?_⟩
        have skip : (decide (p ∈ one) && decide (some p = firstOf ps one)) = false → ∃ y4 y5, [some (V.ref c), some (V.ref l), some (V.ref f), some (V.str p), some (V.ref q), x5] = [some (V.ref c), some (V.ref l), some (V.ref f), some (V.str p), y4, y5] ∧ SB (fun b => b = f) H3' H4' ∧ ∃ acc, H4' f = some (.lst acc) ∧ Paired (fun v e => ∀ o, RU (upd H4' f o) v e) acc (pre.flatMap (lioAt ps ls) ++ lioAt ps (pre2 ++ [one]) p) := fun hb => by
          refine ⟨_, _, rfl, e4', acc2, hacc2', ?_⟩
          rw [lioAt_snoc, if_neg (by rw [hb]; decide), List.append_nil]
          exact pr2'
        by_cases hpo : p ∈ one
        · rw [decide_eq_true hpo]
          refine iteT ?_
          have hpp : p ∈ ps := by rw [hsplit]; simp
          obtain ⟨g, hg⟩ : ∃ g, firstOf ps one = some g := by
            unfold firstOf
            have hm : p ∈ ps.filter fun p => decide (p ∈ one) := List.mem_filter.mpr ⟨hpp, by simpa using hpo⟩
            cases hh : ps.filter (fun p => decide (p ∈ one)) with
            | nil => rw [hh] at hm; cases hm
            | cons g r => exact ⟨g, rfl⟩
          refine ⟨_, rfl, _, rfl, _, rfl, c, q, ps, one, g, rfl, hc.stay sAll, hq, h7, hg, fun H5 e5 => ⟨rfl, decide (p = g), by simp, ?_⟩⟩
          by_cases hpg : p = g
          · subst hpg
            rw [decide_eq_true rfl]
            refine iteT ?_
            have hacc5 := e5 _ _ hacc2'
            refine ⟨_, rfl, .inl ⟨rfl, _, .of hacc5⟩, ?_⟩
            have s5 : ∀ b o, H b = some o → H5 b = some o := fun b o hb => e5 _ _ (sAll _ _ hb)
            refine ⟨_, rfl, c, dx, _, rfl, s5 _ _ hco, c, ps, rfl, hc.stay s5, fun m5 hm5 => ⟨m5, rfl, ⟨_, .of upd_same⟩, fun D hD => lc_pure (R := RS) (Ro := RS) (src_list (.of upd_same) (fun z => z) (fun _ _ _ _ h => h) (paired_str ps _)) hD (Nat.lt_of_le_of_lt h7 (by decide)) stays_RS (fun r => if decide (r ∈ one) = true then some r else none) ?_ ?_⟩⟩
            · intro d x H6 acc6 Ny Nn hd e6 _ hx hy hn
              cases hx
              have hq6 := e6 _ _ (same_upd hm5 _ _ (e5 _ _ hq))
              refine ⟨rfl, _, rfl, _, rfl, q, _, rfl, .inl (.of hq6), rfl, flat_strs _, _, congrArg V.bl (inV_str d one), ?_⟩
              by_cases h : d ∈ one
              · rw [decide_eq_true h]
                exact iteT ⟨_, rfl, hy _ _ d (fun _ _ h => h) (fun _ => rfl) (by simp [h])⟩
              · rw [decide_eq_false h]
                exact iteF (hn _ (fun _ _ h => h) (by simp [h]))
            · intro H6 acc6 e6 hacc6 pr6
              rw [fm_if] at pr6
              refine ⟨D, acc6, rfl, .inl ⟨.of hacc6, fun t6 ht6 => ?_⟩⟩
              have e56 : Same H5 H6 := SB.trans' (P := fun _ => False) (same_upd hm5) e6
              have s6 : Same H4' (upd H6 t6 (.tup acc6)) := SB.trans' (P := fun _ => False) (SB.trans' (P := fun _ => False) e5 e56) (same_upd ht6)
              have nft6 : t6 ≠ f := (ne_of_none (e56 _ _ hacc5) ht6).symm
              refine ⟨f, acc2, _, rfl, rfl, s6 _ _ hacc2', Nat.lt_of_le_of_lt hlen (by decide), some (.ref q), x5, rfl, fun b o hb hp => ?_, _, upd_same, ?_⟩
              · rw [upd_ne hp]
                exact s6 _ _ (e4' _ _ hb hp)
              · rw [lioAt_snoc, if_pos (by rw [hg, decide_eq_true hpo, decide_eq_true rfl]; rfl), ← List.append_assoc]
                refine Paired.snoc (Paired.mono (fun v e h o => ?_) pr2') fun o => ?_
                · rw [upd_upd]
                  exact stays_RU _ _ _ _ (SB.updD (SB.of (P := fun _ => False) s6)).same (h o)
                · refine ⟨t6, rfl, ?_⟩
                  rw [upd_ne nft6, upd_ne nft6, upd_same, paired_str_eq pr6]
          · rw [decide_eq_false hpg]
            refine iteF ?_
            have pr5 : Paired (fun v e => ∀ o, RU (upd H5 f o) v e) acc2 (pre.flatMap (lioAt ps ls) ++ lioAt ps (pre2 ++ [one]) p) := by
              rw [lioAt_snoc, if_neg (by rw [hg, decide_eq_true hpo, decide_eq_false (fun h => hpg (Option.some.inj h))]; decide), List.append_nil]
              exact Paired.mono (fun v e h o => stays_RU _ _ _ _ (SB.updD (SB.of (P := fun _ => False) e5)).same (h o)) pr2'
            exact ⟨_, _, rfl, e4'.trans (.of e5), acc2, e5 _ _ hacc2', pr5⟩
        · rw [decide_eq_false hpo]
          refine iteF ?_
          exact skip (by rw [decide_eq_false hpo]; rfl)
      · rintro σ H4 ⟨x4, x5, rfl, e4, acc4, hacc4, pr4⟩
        refine ⟨_, _, _, rfl, e3'.trans e4, acc4, hacc4, ?_⟩
        rw [List.flatMap_append]
        simpa using pr4
    · rintro σ H3 ⟨x3, x4, x5, rfl, e3, acc, hacc, pr⟩
      refine ⟨_, rfl, f, acc, rfl, .inl ⟨.of hacc, fun t ht => ?_⟩⟩
      have hft : t ≠ f := (ne_of_none hacc ht).symm
      refine k t _ acc (fun b o hb => ?_) ?_ upd_same ?_
      · exact same_upd ht _ _ (e3 _ _ (s12 _ _ hb) (ne_of_none hb hf))
      · cases hHt : H t with
        | none => rfl
        | some o =>
          have := e3 _ _ (s12 _ _ hHt) (ne_of_none hHt hf)
          rw [ht] at this; cases this
      · refine Paired.mono (fun v e h => ?_) pr
        have := h (.lst acc)
        rw [upd_id hacc] at this
        exact stays_RU _ _ _ _ (same_upd ht) this
end
end Om
/-! Walk: are_lists. -/
namespace Om
open PySem PySem.Spec PyProof.Rows L2 OmM
def spAreLists (A : Adr) : Sp := fun vs H Q _ => ∃ (c l : Addr) (ps : List Str) (ls : List (List Str)), vs = [.ref c, .ref l] ∧ CrowdAt A H c ps ∧ LAt RL H l ls ∧ Parting ps ls ∧ ps.Nodup ∧ ps.length ≤ 7 ∧ ls.length ≤ 7 ∧ (∀ s ∈ ps, Nm s) ∧ ∀ H', Same H H' → Q (.bl true) H'
/-- .. not the list at n -/
def RLn (n : Addr) : Rel (List Str) := fun H v d => RL H v d ∧ ∀ q, v = .ref q → q ≠ n
theorem paired_RLn {H : Hp} {n : Addr} (h : H n = none) {vs : List V} {ls : List (List Str)} (p : Paired (RL H) vs ls) : Paired (RLn n H) vs ls :=
  Paired.mono (fun v d ⟨q, a, b⟩ => ⟨⟨q, a, b⟩, fun q' z => by rw [a] at z; cases z; exact ne_of_none b h⟩) p
section
variable {P : Program} {w : World} {K : PySem.W.Frag} {mg : Str → Option Value} {base : Heap} {A : Adr}
theorem u_are_lists (T : Txt K mg A) : UF P w K mg base 3 "are_lists" ["crowd", "value"] (spAreLists A) := by
  refine ⟨_, _, T.F_are_lists.ok sc_are_lists (fun vs H Q E h => ?_) (fun cdv A' outer s H vs Q E hr h => ?_), T.g_are_lists, T.F_are_lists.kp, T.F_are_lists.binds fun _ _ _ _ _ _ us hl => match us, hl with | [_, _], _ => rfl⟩
  · obtain ⟨c, r, ps, rs, rfl, _⟩ := h
    rfl
  · obtain ⟨c, l, ps, ls, rfl, hc, ⟨vs, hl0, hpl⟩, hP, hnd, h7, hl7, hN, k⟩ := h
    have nd := sc_are_lists.nd
    have hmem : (ls.flatMap id).Perm ps := by rw [List.flatMap_id]; exact hP.perm
    have hml : (ls.flatMap id).length = ps.length := hmem.length_eq
    have hmn : (ls.flatMap id).Nodup := hmem.nodup_iff.mpr hnd
    have hmi : ∀ x ∈ ls.flatMap id, x ∈ ps := fun x hx => hmem.mem_iff.mp hx
    obtain ⟨dx, dd, mm, _, _, _, _, hco, _⟩ := id hc.ex
    refine ⟨_, (pss_cons (ps_if (pt_not (pt_val (pe_b call_isiT T.n_isinstance (pa_cons (pv 1) (pa_cons (pe_tup (pa_cons (ty_ (T := "list") T.n_list) (pa_cons (ty_ (T := "tuple") T.n_tuple) pa_nil))) pa_nil))))) (pss_one (ps_ret pe_bl)) pss_nil)
      (pss_cons (ps_if (pt_not (pt_val (pe_b (cr_all rfl) T.n_all (pa_cons (pe_lc (own := [("one", 2)]) rfl nd (pi_list (pv 1)) (blkOk_by (N := n_are_lists) (sc := defScope s_are_lists) (by decide +kernel)) (fun _ _ _ _ _ => pg_name (i := 2) nd rfl (Or.inl rfl)) (fun _ _ _ _ _ => pts_nil) (fun _ _ _ _ _ => (pe_and (pe_b (isiTK (K := K) rfl) T.n_isinstance (pa_cons (pv 2) (pa_cons (pe_tup (pa_cons (ty_ (T := "list") T.n_list) (pa_cons (ty_ (T := "tuple") T.n_tuple) pa_nil))) pa_nil))) (pe_one (pe_cmpR op_gt (pe_b (lenK (K := K) rfl) T.n_len (pa_cons (pv 2) pa_nil)) pe_int (nomark _)))))) pa_nil)))) (pss_one (ps_ret pe_bl)) pss_nil)
      (pss_cons (ps_setLc2 (i := 3) (own := [("one", 2), ("person", 4)]) (vs1 := [4]) (wi1 := iList K (tVar 2)) rfl nd rfl rfl (sw_true rfl rfl rfl (by decide +kernel)) (pi_list (pv 1)) (blkOk_by (N := n_are_lists) (sc := defScope s_are_lists) (by decide +kernel)) (by decide) (fun _ _ _ _ _ => pg_name (i := 2) nd rfl (Or.inl rfl)) (fun _ _ _ _ _ => pts_nil) (fun _ _ _ _ _ => (pi_listK (K := K) rfl (pv 2))) (fun _ _ _ _ _ => pg_name (i := 4) nd rfl (Or.inl rfl)) (fun _ _ _ _ _ => pts_nil) (fun _ _ _ _ _ => (pv 4)))
      (pss_cons (ps_if (PW.pt (pw_or (pt_not (pt_val (pe_b (cr_all rfl) T.n_all (pa_cons (pe_lc (own := [("person", 4)]) rfl nd (pi_list (pv 3)) (blkOk_by (N := n_are_lists) (sc := defScope s_are_lists) (by decide +kernel)) (fun _ _ _ _ _ => pg_name (i := 4) nd rfl (Or.inl rfl)) (fun _ _ _ _ _ => pts_nil) (fun _ _ _ _ _ => (pe_cmpR (op_inU (u_C_has T) (hr.mono (by decide))) (pv 4) (pv 0) (by rfl)))) pa_nil)))) (pw_or1 (pt_cmpR op_ne (pe_b call_len T.n_len (pa_cons (pv 3) pa_nil)) (pe_b (call_lenU (u_C_len T) (hr.mono (by decide))) T.n_len (pa_cons (pv 0) pa_nil)) (nomark _))))) (pss_one (ps_ret pe_bl)) pss_nil)
      (pss_one (ps_ret (pe_cmpR op_eq (pe_b call_lenD T.n_len (pa_cons (pe_dc (own := [("person", 4)]) rfl nd (pi_list (pv 3)) (blkOk_by (N := n_are_lists) (sc := defScope s_are_lists) (by decide +kernel)) (fun _ _ _ _ _ => pg_name (i := 4) nd rfl (Or.inl rfl)) (fun _ _ _ _ _ => pts_nil) (fun _ _ _ _ _ => (pv 4)) (fun _ _ _ _ _ => pe_int)) pa_nil)) (pe_b call_len T.n_len (pa_cons (pv 3) pa_nil)) (nomark _)))))))), ?_⟩
    refine ⟨_, rfl, (by show 2 ≤ sizeLine; decide), fun t ht => ?_⟩
    have s1 : Same H (upd H t (.tup [.ty "list", .ty "tuple"])) := same_upd ht
    have hl1 := s1 _ _ hl0
    have hp1 := paired_stays stays_RL s1 hpl
    refine ⟨_, t, _, _, _, true, rfl, upd_same, .cons (.ty _) (.cons (.ty _) .nil), .base (.lst hl1), kitAny_cons (b := true) (kit_ty (by decide +kernel)) (fun z => nomatch z) (fun _ => rfl), true, rfl, ?_⟩
    refine iteF ?_
    have hlsz : ls.length < sizeLine := Nat.lt_of_le_of_lt hl7 (by decide)
    refine ⟨_, rfl, l, rfl, ⟨_, .of hl1⟩, fun D hD => lc_pure (R := RL) (Ro := RB) (src_list (.of hl1) (fun z => z) (fun _ _ _ _ e => stays_RL _ _ _ _ (SB.same ‹_›) e) hp1) hD hlsz stays_RB (fun _ => some true) ?_ ?_⟩
    · intro d x H2 acc Ny Nn hd e2 _ hx hy hn
      obtain ⟨q, rfl, hq⟩ := hx
      refine ⟨rfl, yes ?_⟩
      refine ⟨_, rfl, (by show 2 ≤ sizeLine; decide), fun t2 ht2 => ?_⟩
      have hq2 := same_upd (o := .tup [.ty "list", .ty "tuple"]) ht2 _ _ hq
      refine ⟨_, t2, _, _, _, true, rfl, upd_same, .cons (.ty _) (.cons (.ty _) .nil), .base (.lst hq2), kitAny_cons (b := true) (kit_ty (by decide +kernel)) (fun z => nomatch z) (fun _ => rfl), true, rfl, ?_⟩
      refine iteT ⟨_, rfl, .ref q, d.length, rfl, .inl ⟨_, .of hq2, by rw [List.length_map]⟩, _, _, rfl, rfl, ?_⟩
      show Ny (V.bl (decide ((0 : Int) < (d.length : Nat)))) _
      rw [blT (show (0 : Int) < (d.length : Nat) by have := List.length_pos_iff.mpr (hP.ne d hd); omega)]
      exact hy _ _ true (same_upd ht2) (fun _ => rfl) rfl
    · intro H2 acc e2 hacc pr
      refine ⟨D, _, rfl, .of (paired_bl pr ▸ hacc), true, by rw [all_true], ?_⟩
      refine iteF ?_
      have hl2 := e2 _ _ hl1
      have e12 : Same H H2 := SB.trans' (P := fun _ => False) s1 e2
      refine ⟨_, rfl, l, rfl, ⟨_, .of hl2⟩, fun D2 hD2 => lc2_pure (R := RLn D2) (Ro := RS) (src_list (.of hl2) (fun z => z) (fun _ _ _ e h => ⟨stays_RL _ _ _ _ e.same h.1, h.2⟩) (paired_RLn hD2 (paired_stays stays_RL e2 hp1))) hD2 stays_RS id (by rw [hml]; exact Nat.lt_of_le_of_lt h7 (by decide)) ?_ ?_⟩
      · intro d x H3 acc3 Nx hd e3 hacc3 hb hx hn hy
        obtain ⟨⟨q, rfl, hq⟩, hnq⟩ := hx
        have nq : q ≠ D2 := hnq q rfl
        refine ⟨rfl, yes ⟨_, rfl, q, rfl, ⟨_, .of hq⟩, ?_⟩⟩
        refine lc_inner (R1 := RS) (Ro := RS) (src_list (.of hq) nq (fun _ _ _ _ h => h) (paired_str d _)) hacc3 stays_RS (fun b => some b) (by rw [fm_all]; exact hb) ?_ (fun H' acc' s' ha' pr' => hy _ H' acc' (fun _ _ h => h) s' ha' (by rw [fm_all] at pr'; exact pr'))
        intro b x H4 acc4 Ny Nn hbm s4 ha4 hx4 hy4 hn4
        cases hx4
        exact ⟨rfl, yes ⟨_, rfl, hy4 _ _ b (fun _ _ h => h) (fun _ => rfl) rfl⟩⟩
      · intro H3 acc3 e3 hacc3 pr3
        have hm3 := paired_str_eq pr3
        subst hm3
        have e13 : Same H H3 := SB.trans' (P := fun _ => False) e12 e3
        refine ⟨_, rfl, D2, rfl, ⟨_, .of hacc3⟩, fun D4 hD4 => lc_pure (R := RS) (Ro := RB) (src_list (.of hacc3) (fun z => z) (fun _ _ _ _ h => h) (paired_str _ _)) hD4 (by rw [hml]; exact Nat.lt_of_le_of_lt h7 (by decide)) stays_RB (fun _ => some true) ?_ ?_⟩
        · intro d x H4 acc4 Ny Nn hd e4 _ hx hy hn
          cases hx
          have e14 := SB.trans' (P := fun _ => False) e13 e4
          refine ⟨rfl, yes ⟨_, rfl, _, rfl, c, dx, _, rfl, e14 _ _ hco, c, ps, d, rfl, hc.stay e14, hN _ (hmi _ hd), fun H5 e5 => ⟨_, rfl, ?_⟩⟩⟩
          rw [decide_eq_true (hmi _ hd)]
          exact hy _ _ true e5 (fun _ => rfl) rfl
        · intro H4 acc4 e4 hacc4 pr4
          refine ⟨D4, _, rfl, .of (paired_bl pr4 ▸ hacc4), true, by rw [all_true], ?_⟩
          have e14 := SB.trans' (P := fun _ => False) e13 e4
          have hm4 := e4 _ _ hacc3
          refine iteF ?_
          refine ⟨_, rfl, .ref D2, ps.length, rfl, .inl ⟨_, .of hm4, by rw [List.length_map, hml]⟩, _, rfl, c, dx, _, rfl, e14 _ _ hco, c, ps, rfl, hc.stay e14, ps.length, rfl, Nat.lt_of_le_of_lt h7 (by decide), rfl, false, by simp, ?_⟩
          refine iteF ?_
          refine ⟨_, rfl, D2, rfl, ⟨_, .of hm4⟩, fun D5 hD5 => dk_pure (R := RS) (src_list (.of hm4) (fun z => z) (fun _ _ _ _ h => h) (paired_str _ _)) hD5 (by rw [hml]; exact Nat.lt_of_le_of_lt h7 (by decide)) (fun p => some p) (by rw [fm_all]; exact hmn) ?_ ?_⟩
          · intro d x H5 Ny Nn hd e5 hx hy hn
            cases hx
            exact ⟨rfl, yes ⟨_, rfl, hy _ _ d (fun _ _ h => h) rfl⟩⟩
          · intro H5 kvs e5 h5 hk
            rw [fm_all] at hk
            have hlk : kvs.length = ps.length := by have := congrArg List.length hk; simp only [List.length_map] at this; rw [this, hml]
            refine ⟨D5, kvs, rfl, h5, _, rfl, .ref D2, ps.length, rfl, .inl ⟨_, .of (e5 _ _ hm4), by rw [List.length_map, hml]⟩, rfl, ?_⟩
            rw [hlk, show decide (V.int ((ps.length : Nat) : Int) = V.int ((ps.length : Nat) : Int)) = true from decide_eq_true rfl]
            exact k _ fun b o hb => e5 _ _ (e14 _ _ hb)
end
end Om
/-! Walks: the rule's own methods. -/
namespace Om
open PySem PySem.Spec PyProof.Rows L2 OmM
section
variable {c : Addr} {t g : Str} {z : Int} {rp lr : Addr} {pz : Int}
theorem fR_crowd : (fR c t g z rp lr pz).lookup ("crowd" : Str) = some (.ref c) := lk_same
theorem fR_turn : (fR c t g z rp lr pz).lookup ("turn" : Str) = some (.str t) := (lk_ne (by decide +kernel)).trans lk_same
theorem fR_trim : (fR c t g z rp lr pz).lookup ("trim" : Str) = some (.int z) := (lk_ne (by decide +kernel)).trans ((lk_ne (by decide +kernel)).trans ((lk_ne (by decide +kernel)).trans lk_same))
theorem fR_reads : (fR c t g z rp lr pz).lookup ("read_pairs" : Str) = some (.ref rp) := (lk_ne (by decide +kernel)).trans ((lk_ne (by decide +kernel)).trans ((lk_ne (by decide +kernel)).trans ((lk_ne (by decide +kernel)).trans lk_same)))
theorem fR_rows : (fR c t g z rp lr pz).lookup ("list_rows" : Str) = some (.ref lr) := (lk_ne (by decide +kernel)).trans ((lk_ne (by decide +kernel)).trans ((lk_ne (by decide +kernel)).trans ((lk_ne (by decide +kernel)).trans ((lk_ne (by decide +kernel)).trans lk_same))))
theorem fR_not {y : Str} (h1 : (y == "crowd") = false) (h2 : (y == "turn") = false) (h3 : (y == "gather") = false) (h4 : (y == "trim") = false) (h5 : (y == "read_pairs") = false) (h6 : (y == "list_rows") = false) (h7 : (y == "prizes") = false) : (fR c t g z rp lr pz).lookup y = none :=
  (lk_ne h1).trans ((lk_ne h2).trans ((lk_ne h3).trans ((lk_ne h4).trans ((lk_ne h5).trans ((lk_ne h6).trans ((lk_ne h7).trans lk_nil))))))
end
def spHas (A : Adr) : Sp := fun vs H Q _ => ∃ (r dx rp : Addr) (fs : List (Str × V)) (od : Obj) (kvs : List (List Key × V)) (p : Str) (z : Int) (rs : List (Str × Str)), vs = [.ref r, .str p] ∧ H r = some (.ins A.R dx fs) ∧ fs.lookup ("read_pairs" : Str) = some (.ref rp) ∧ fs.lookup ("trim" : Str) = some (.int z) ∧ H rp = some (.frz od (.dT kvs)) ∧ kvs.map (·.1) = rs.map keyP ∧ rs.length ≤ 49 ∧
  ∀ H', Same H H' → Q (.bl (decide (2 * z < ((rs.filter fun q => decide (q.2 = p)).length : Nat)))) H'
def spRHas (A : Adr) : Sp := fun vs H Q _ => ∃ (r q : Addr) (ps : List Str) (t : Str) (ls : List (List Str)) (rs : List (Str × Str)) (x y : Str), vs = [.ref r, .ref q] ∧ RuleAt A H r ps t ls rs ∧ Reads ps rs ∧ H q = some (.tup [.str x, .str y]) ∧ Nm x ∧ Nm y ∧ ∀ H', Same H H' → Q (.bl (decide ((x, y) ∈ rs))) H'
def spRList (A : Adr) : Sp := fun vs H Q _ => ∃ (r : Addr) (ps : List Str) (t : Str) (ls : List (List Str)) (rs : List (Str × Str)) (p : Str), vs = [.ref r, .str p] ∧ RuleAt A H r ps t ls rs ∧ Parting ps ls ∧ p ∈ ps ∧ Nm p ∧ ls.length ≤ 7 ∧ ∀ m H', Same H H' → H' m = some (.lst ((listOf ls p).map V.str)) → Q (.ref m) H'
def spCheckR (A : Adr) : Sp := fun vs H Q _ => ∃ r dx fs, vs = [.ref r] ∧ H r = some (.ins A.R dx fs) ∧ Q .non H
def spCheckP (A : Adr) : Sp := fun vs H Q _ => ∃ (r : Addr) (ps : List Str) (t : Str) (ls : List (List Str)) (rs : List (Str × Str)) (p : Str), vs = [.ref r, .str p] ∧ RuleAt A H r ps t ls rs ∧ p ∈ ps ∧ Nm p ∧ ∀ H', Same H H' → Q .non H'
section
variable {P : Program} {w : World} {K : PySem.W.Frag} {mg : Str → Option Value} {base : Heap} {A : Adr}
theorem u_R_has_readers (T : Txt K mg A) : UM P w K mg base 1 A.R "has_readers" ["self", "person"] (spHas A) := by
  refine ⟨_, _, T.F_R_has_readers.ok sc_R_has_readers (fun vs H Q E h => ?_) (fun cdv A' outer s H vs Q E hr h => ?_), T.m_R_has_readers, T.F_R_has_readers.binds fun _ _ _ _ _ _ us hl => match us, hl with | [_, _], _ => rfl⟩
  · obtain ⟨r, dx, rp, fs, od, kvs, p, z, rs, rfl, _⟩ := h
    rfl
  · obtain ⟨r, dx, rp, fs, od, kvs, p, z, rs, rfl, hr0, hf1, hf2, hrp, hk, hl, k⟩ := h
    have nd := sc_R_has_readers.nd
    refine ⟨_, (pss_one (ps_ret (pe_cmpR op_gt (pe_b call_len T.n_len (pa_cons (pe_lc (own := [("pair", 2)]) rfl nd (pi_keys (pe_fld (pv 0) rfl)) (blkOk_by (N := n_R_has_readers) (sc := defScope s_R_has_readers) (by decide +kernel)) (fun _ _ _ _ _ => pg_name (i := 2) nd rfl (Or.inl rfl)) (fun _ _ _ _ _ => pts_one (pt_cmpR op_eq (pe_ix (ix_tupK (K := K) rfl) (pv 2) pe_int (fun _ _ => rfl)) (pv 1) (nomark _))) (fun _ _ _ _ _ => pe_int)) pa_nil)) (pe_op op_mul pe_int (pe_fld (pv 0) rfl)) (nomark _)))), ?_⟩
    refine ⟨_, rfl, r, A.R, dx, _, _, rfl, hr0, T.cR, T.naR_read_pairs, hf1, rp, od, rfl, .inr ⟨kvs, hrp, fun D hD => lc_pure (R := RP) (Ro := RI) (src_keysT hrp (fun z => z) hk) hD (Nat.lt_of_le_of_lt hl (by decide)) (fun _ _ _ _ _ h => h) (fun q => if decide (q.2 = p) = true then some (1 : Int) else none) ?_ ?_⟩⟩
    · intro d x H2 acc Ny Nn hd e2 _ hx hy hn
      obtain ⟨q, rfl, hq⟩ := hx
      refine ⟨rfl, _, rfl, q, _, _, _, rfl, rfl, .of hq, atI_nat (j := 1) rfl, _, rfl, rfl, decide (d.2 = p), by simp, ?_⟩
      by_cases h : d.2 = p
      · rw [decide_eq_true h]
        exact iteT (hy _ _ (1 : Int) (fun _ _ h => h) (fun _ => rfl) (by simp [h]))
      · rw [decide_eq_false h]
        exact iteF (hn _ (fun _ _ h => h) (by simp [h]))
    · intro H2 acc e2 hacc pr
      have hlen : acc.length = (rs.filter fun q => decide (q.2 = p)).length := by
        rw [pr.length]
        generalize rs = l
        induction l with
        | nil => rfl
        | cons a l ih =>
          by_cases h : a.2 = p
          · simp [h] at ih ⊢; exact ih
          · simp [h] at ih ⊢; exact ih
      refine ⟨.ref D, acc.length, rfl, .inl ⟨_, .of hacc, rfl⟩, _, rfl, r, A.R, dx, _, _, rfl, e2 _ _ hr0, T.cR, T.naR_trim, hf2, _, _, rfl, rfl, .inl ⟨by decide, by decide⟩, _, _, rfl, rfl, ?_⟩
      rw [hlen]
      exact k _ e2
theorem u_R_has (T : Txt K mg A) : UM P w K mg base 4 A.R "__contains__" ["self", "pair"] (spRHas A) := by
  refine ⟨_, _, T.F_R_contains.ok sc_R_contains (fun vs H Q E h => ?_) (fun cdv A' outer s H vs Q E hr h => ?_), T.m_R_contains, T.F_R_contains.binds fun _ _ _ _ _ _ us hl => match us, hl with | [_, _], _ => rfl⟩
  · obtain ⟨r, q, ps, t, ls, rs, x, y, rfl, _⟩ := h
    rfl
  · obtain ⟨r, q, ps, t, ls, rs, x, y, rfl, hR, hS, hq, hx, hy, k⟩ := h
    have hu := hu_of hr
    obtain ⟨dx, c, g, z, rp, lr, pz, od, kvs, es, ep, h1, h2, h3, h4, _⟩ := hR.ex
    obtain ⟨dxc, _, _, _, _, _, _, hco, _⟩ := id h2.ex
    refine ⟨_, (pss_one (ps_ret (pe_and (pe_m (u_C_is_pair T) T.cC (hr.mono (by decide)) (pe_fld (pv 0) rfl) (pa_cons (pv 1) pa_nil)) (pe_one (pe_cmp (pc_din hu (pv 1) (pe_fld (pv 0) rfl))))))), ?_⟩
    refine ⟨_, rfl, r, A.R, dx, _, _, rfl, h1, T.cR, T.naR_crowd, fR_crowd, c, dxc, _, rfl, hco, fC_not (by decide +kernel) (by decide +kernel), _, rfl, c, q, ps, x, y, rfl, h2, hq, hx, hy, fun H1 e1 => ⟨_, rfl, ?_⟩⟩
    by_cases hin : x ∈ ps ∧ y ∈ ps ∧ ¬ x = y
    · rw [decide_eq_true hin.1, decide_eq_true hin.2.1, decide_eq_false hin.2.2]
      refine iteT ?_
      refine ⟨_, rfl, _, rfl, r, A.R, dx, _, _, rfl, e1 _ _ h1, T.cR, T.naR_read_pairs, fR_reads, rp, _, rfl, .inr ⟨kvs, keyP (x, y), q, .inr ⟨od, e1 _ _ h3⟩, rfl, e1 _ _ hq, rfl⟩, ?_⟩
      rw [valV_pair h4]
      exact k _ e1
    · have hb : (decide (x ∈ ps) && (decide (y ∈ ps) && !decide (x = y))) = false := by
        by_cases a : x ∈ ps
        · by_cases b : y ∈ ps
          · have : x = y := Decidable.byContradiction fun e => hin ⟨a, b, e⟩
            simp [this]
          · simp [b]
        · simp [a]
      rw [hb]
      refine iteF ?_
      have := k _ e1
      rw [decide_eq_false (fun hm => hin (by obtain ⟨a, b, e⟩ := mem_pairs.mp (hS.mem hm); exact ⟨a, b, fun z => e z.symm⟩))] at this
      exact this
theorem u_R_iter (T : Txt K mg A) : UI P w K mg base 1 A.R "read_pairs" := by
  refine ⟨_, _, fn_ofG T.F_R_iter sc_R_iter (fun _ _ vs H Q E h => ?_) (fun cdv A' outer s H vs Q E hr h => ?_), T.m_R_iter, T.F_R_iter.binds fun _ _ _ _ _ _ us hl => match us, hl with | [_], _ => rfl⟩
  · obtain ⟨a, dx, fs, d, o, es, ep, rfl, _⟩ := h
    rfl
  · obtain ⟨a, dx, fs, d, o, es, ep, rfl, h1, h2, h3, h4, k⟩ := h
    refine ⟨_, (pss_one (ps_ret (pe_b call_iterK T.n_iter (pa_cons (pe_fld (pv 0) rfl) pa_nil)))), ?_⟩
    exact ⟨_, rfl, a, A.R, dx, _, _, rfl, h1, T.cR, T.naR_read_pairs, h2, d, o, es, ep, rfl, h3, h4, k⟩
theorem u_R_list_of (T : Txt K mg A) : UM P w K mg base 3 A.R "list_of" ["self", "person"] (spRList A) := by
  refine ⟨_, _, T.F_R_list_of.ok sc_R_list_of (fun vs H Q E h => ?_) (fun cdv A' outer s H vs Q E hr h => ?_), T.m_R_list_of, T.F_R_list_of.binds fun _ _ _ _ _ _ us hl => match us, hl with | [_, _], _ => rfl⟩
  · obtain ⟨r, ps, t, ls, rs, p, rfl, _⟩ := h
    rfl
  · obtain ⟨r, ps, t, ls, rs, p, rfl, hR, hP, hp, hN, hl7, k⟩ := h
    have nd := sc_R_list_of.nd
    obtain ⟨dx, c, g, z, rp, lr, pz, od, kvs, es, ep, h1, h2, h3, h4, h5, h6, vs, h7, h8⟩ := hR.ex
    obtain ⟨dxc, _, _, _, _, _, _, hco, _⟩ := id h2.ex
    refine ⟨_, (pss_cons (ps_if (pt_cmpR (op_notInU (u_C_has T) (hr.mono (by decide))) (pv 1) (pe_fld (pv 0) rfl) (by rfl)) (pss_one ps_never) pss_nil)
      (pss_one (ps_ret (pe_ix ix_list (pe_lc (own := [("one", 2)]) rfl nd (pi_tup (pe_fld (pv 0) rfl)) (blkOk_by (N := n_R_list_of) (sc := defScope s_R_list_of) (by decide +kernel)) (fun _ _ _ _ _ => pg_name (i := 2) nd rfl (Or.inl rfl)) (fun _ _ _ _ _ => pts_one (pt_cmpR (op_inK (K := K) rfl) (pv 1) (pv 2) (by rfl))) (fun _ _ _ _ _ => (pe_bt (listK (K := K) rfl) T.n_list (pa_cons (pv 2) pa_nil)))) pe_int (fun _ _ => rfl))))), ?_⟩
    refine ⟨_, rfl, _, rfl, r, A.R, dx, _, _, rfl, h1, T.cR, T.naR_crowd, fR_crowd, c, dxc, _, rfl, hco, c, ps, p, rfl, h2, hN, fun H1 e1 => ⟨_, rfl, false, by rw [decide_eq_true hp]; rfl, ?_⟩⟩
    refine iteF ?_
    have h71 := e1 _ _ h7
    refine ⟨_, rfl, r, A.R, dx, _, _, rfl, e1 _ _ h1, T.cR, T.naR_list_rows, fR_rows, lr, rfl, ⟨_, .of h71⟩, fun D hD => lc_pure (R := RU) (Ro := RL) (src_tup (.of h71) (fun z => z) (fun _ _ _ e h => stays_RU _ _ _ _ e.same h) (paired_stays stays_RU e1 h8)) hD (Nat.lt_of_le_of_lt hl7 (by decide)) stays_RL (fun one => if decide (p ∈ one) = true then some one else none) ?_ ?_⟩
    · intro d x H2 acc Ny Nn hd e2 hacc hx hy hn
      obtain ⟨q, rfl, hq⟩ := hx
      refine ⟨rfl, _, rfl, _, rfl, q, _, rfl, .inr (.of hq), rfl, flat_strs _, _, congrArg V.bl (inV_str p d), ?_⟩
      by_cases h : p ∈ d
      · rw [decide_eq_true h]
        refine iteT ⟨_, rfl, q, _, rfl, .inr (.of hq), fun m hm => ?_⟩
        exact hy _ _ d (same_upd hm) (fun o => ⟨m, rfl, by rw [upd_ne (ne_of_none hacc hm).symm]; exact upd_same⟩) (by simp [h])
      · rw [decide_eq_false h]
        exact iteF (hn _ (fun _ _ h => h) (by simp [h]))
    · intro H2 acc e2 hacc pr
      rw [fm_if] at pr
      obtain ⟨rest, hrest⟩ := hP.listOf_some hp
      rw [hrest] at pr
      cases pr with
      | cons hv ht =>
        obtain ⟨m, rfl, hm⟩ := hv
        exact ⟨D, _, 0, .ref m, rfl, rfl, .of hacc, atI_nat (j := 0) rfl, k m _ (fun b o hb => e2 _ _ (e1 _ _ hb)) hm⟩
theorem u_check_rule (T : Txt K mg A) : UF P w K mg base 1 "check_rule" ["value"] (spCheckR A) := by
  refine ⟨_, _, T.F_check_rule.ok sc_check_rule (fun vs H Q E h => ?_) (fun cdv A' outer s H vs Q E hr h => ?_), T.g_check_rule, T.F_check_rule.kp, T.F_check_rule.binds fun _ _ _ _ _ _ us hl => match us, hl with | [_], _ => rfl⟩
  · obtain ⟨c, dx, fs, rfl, _⟩ := h
    rfl
  · obtain ⟨c, dx, fs, rfl, h1, k⟩ := h
    refine ⟨_, (pss_one (ps_if (pt_not (pt_val (pe_b call_isi T.n_isinstance (pa_cons (pv 0) (pa_cons (gl_ref T.g_Rule) pa_nil))))) (pss_one ps_never) pss_nil)), ?_⟩
    refine ⟨_, rfl, _, _, _, _, true, rfl, .own _, tyR T h1, T.kiR, true, rfl, ?_⟩
    exact iteF k
theorem u_check_person (T : Txt K mg A) : UF P w K mg base 3 "check_person" ["rule", "person"] (spCheckP A) := by
  refine ⟨_, _, T.F_check_person.ok sc_check_person (fun vs H Q E h => ?_) (fun cdv A' outer s H vs Q E hr h => ?_), T.g_check_person, T.F_check_person.kp, T.F_check_person.binds fun _ _ _ _ _ _ us hl => match us, hl with | [_, _], _ => rfl⟩
  · obtain ⟨r, ps, t, ls, rs, p, rfl, _⟩ := h
    rfl
  · obtain ⟨r, ps, t, ls, rs, p, rfl, hR, hp, hN, k⟩ := h
    obtain ⟨dx, c, g, z, rp, lr, pz, od, kvs, es, ep, h1, h2, _⟩ := hR.ex
    obtain ⟨dxc, _, _, _, _, _, _, hco, _⟩ := id h2.ex
    refine ⟨_, (pss_one (ps_if (pt_cmpR (op_notInU (u_C_has T) (hr.mono (by decide))) (pv 1) (pe_fld (pv 0) rfl) (by rfl)) (pss_one ps_never) pss_nil)), ?_⟩
    refine ⟨_, rfl, _, rfl, r, A.R, dx, _, _, rfl, h1, T.cR, T.naR_crowd, fR_crowd, c, dxc, _, rfl, hco, c, ps, p, rfl, h2, hN, fun H1 e1 => ⟨_, rfl, false, by rw [decide_eq_true hp]; rfl, ?_⟩⟩
    exact iteF (k _ e1)
end
end Om
/-! Walk: Rule.__init__. -/
namespace Om
open PySem PySem.Spec PyProof.Rows L2 OmM
theorem few {f : Str} {v : V} {fs : List (Str × V)} {n : Nat} (h : fs.length < n) : (putF f v fs).length < n + 1 := by
  have : ∀ fs : List (Str × V), (putF f v fs).length ≤ fs.length + 1 := by
    intro fs
    induction fs with
    | nil => simp [putF]
    | cons p r ih =>
      obtain ⟨g, x⟩ := p
      unfold putF
      split
      · simp
      · simp; exact ih
  have := this fs
  omega
theorem fR_mk {c : Addr} {t g : Str} {z : Int} {rp lr : Addr} {pz : Int} : putF "prizes" (.int pz) (putF "list_rows" (.ref lr) (putF "read_pairs" (.ref rp) (putF "trim" (.int z) (putF "gather" (.str g) (putF "turn" (.str t) (putF "crowd" (.ref c) [])))))) = fR c t g z rp lr pz := by
  simp only [pF_nil, pF_ne (show ¬ ("crowd" : Str) = "turn" by decide +kernel), pF_ne (show ¬ ("crowd" : Str) = "gather" by decide +kernel), pF_ne (show ¬ ("turn" : Str) = "gather" by decide +kernel), pF_ne (show ¬ ("crowd" : Str) = "trim" by decide +kernel), pF_ne (show ¬ ("turn" : Str) = "trim" by decide +kernel), pF_ne (show ¬ ("gather" : Str) = "trim" by decide +kernel), pF_ne (show ¬ ("crowd" : Str) = "read_pairs" by decide +kernel), pF_ne (show ¬ ("turn" : Str) = "read_pairs" by decide +kernel), pF_ne (show ¬ ("gather" : Str) = "read_pairs" by decide +kernel), pF_ne (show ¬ ("trim" : Str) = "read_pairs" by decide +kernel), pF_ne (show ¬ ("crowd" : Str) = "list_rows" by decide +kernel), pF_ne (show ¬ ("turn" : Str) = "list_rows" by decide +kernel), pF_ne (show ¬ ("gather" : Str) = "list_rows" by decide +kernel), pF_ne (show ¬ ("trim" : Str) = "list_rows" by decide +kernel), pF_ne (show ¬ ("read_pairs" : Str) = "list_rows" by decide +kernel), pF_ne (show ¬ ("crowd" : Str) = "prizes" by decide +kernel), pF_ne (show ¬ ("turn" : Str) = "prizes" by decide +kernel), pF_ne (show ¬ ("gather" : Str) = "prizes" by decide +kernel), pF_ne (show ¬ ("trim" : Str) = "prizes" by decide +kernel), pF_ne (show ¬ ("read_pairs" : Str) = "prizes" by decide +kernel), pF_ne (show ¬ ("list_rows" : Str) = "prizes" by decide +kernel)]
  rfl
/-- stays where only objects of another kind are changed -/
theorem CrowdAt.keep {A : Adr} {P : Addr → Prop} {H H' : Hp} {c : Addr} {ps : List Str} (e : SB P H H') (hc : ¬ P c) (hf : ∀ b o u, H b = some (.frz o u) → ¬ P b) (h : CrowdAt A H c ps) : CrowdAt A H' c ps := by
  obtain ⟨dx, d, m, od, kvs, es, ep, h1, h2, h3, h4⟩ := h.ex
  exact ⟨dx, d, m, od, kvs, es, ep, e _ _ h1 hc, e _ _ h2 (hf _ _ _ h2), h3, h4⟩
def gatherOk (t g : Str) : Prop := g ∈ (if t = "plain" then gathers else turnedGathers)
def trimOk (g : Str) (z : Int) : Prop := if g = "trim" then 1 ≤ z ∧ z ≤ 3 else z = 0
def cnt (rs : List (Str × Str)) (p : Str) : Nat := (rs.filter fun q => decide (q.2 = p)).length
def spRInit (A : Adr) : Sp := fun vs H Q _ => ∃ (p dx c r l : Addr) (ps : List Str) (t g : Str) (rs : List (Str × Str)) (ls : List (List Str)) (z pz : Int), vs = [.ref p, .ref c, .str t, .ref r, .str g, .int z, .ref l, .int pz] ∧ H p = some (.ins A.R dx []) ∧
  CrowdAt A H c ps ∧ (∀ s ∈ ps, Nm s) ∧ ps.Nodup ∧ ps.length ≤ 7 ∧ t ∈ turns ∧ LAt RP H r rs ∧ Reads ps rs ∧ gatherOk t g ∧ trimOk g z ∧ LAt RL H l ls ∧ Parting ps ls ∧ ls.length ≤ 7 ∧ (∀ one ∈ ls, 1 < one.length → ∀ m ∈ one, 2 * z < (cnt rs m : Nat)) ∧ 0 ≤ pz ∧ pz ≤ 8 ∧
  ∀ H', SB (fun b => b = p) H H' → RuleAt A H' p ps t ls rs → Q .non H'
section
variable {P : Program} {w : World} {K : PySem.W.Frag} {mg : Str → Option Value} {base : Heap} {A : Adr}
theorem u_R_init (T : Txt K mg A) : FnOk P w K mg base CX0 5 A.f_R_init A.d_R_init ["self", "crowd", "turn", "reads", "gather", "trim", "lists", "prizes"] (spRInit A) := by
  refine T.F_R_init.ok sc_R_init (fun vs H Q E h => ?_) (fun cdv A' outer s H vs Q E hr h => ?_)
  · obtain ⟨p, dx, c, r, l, ps, t, g, rs, ls, z, pz, rfl, _⟩ := h
    rfl
  · obtain ⟨p, dx, c, r, l, ps, t, g, rs, ls, z, pz, rfl, hp, hc, hN, hnd, h7, ht, hr0, hR, hg, hz, hl0, hP, hl7, hrd, pz0, pz8, k⟩ := h
    have nd := sc_R_init.nd
    have hu := hu_of hr
    obtain ⟨dxc, dd, mm, _, _, _, _, hco, _⟩ := id hc.ex
    have ncp : c ≠ p := ne_of hco hp (by intro z; injection z with _ _ z; cases z)
    refine ⟨_, (pss_cons (ps_expr (pe_f (u_check_crowd T) (hr.mono (by decide)) (pa_cons (pv 1) pa_nil)))
      (pss_cons (ps_if (pt_not (pt_val (pe_f (u_is_one_of T) (hr.mono (by decide)) (pa_cons (pv 2) (pa_cons (gl_ref T.g_TURNS) pa_nil))))) (pss_one ps_never) pss_nil)
      (pss_cons (ps_if (PW.pt (pw_and (pt_cmp (pc_notN (pv 3))) (pw_and1 (pt_not (pt_val (pe_f (u_are_reads T) (hr.mono (by decide)) (pa_cons (pv 1) (pa_cons (pv 3) pa_nil)))))))) (pss_one ps_never) pss_nil)
      (pss_cons (ps_if (pt_not (pt_val (pe_f (u_is_one_of T) (hr.mono (by decide)) (pa_cons (pv 4) (pa_cons (pe_ifExp (pt_cmpR op_eq (pv 2) pe_str (nomark _)) (gl_ref T.g_GATHERS) (gl_ref T.g_TURNED_GATHERS)) pa_nil))))) (pss_one ps_never) pss_nil)
      (pss_cons (ps_if (pt_not (pt_val (pe_f (u_is_count T) (hr.mono (by decide)) (pa_cons (pv 5) (pa_cons (pe_ifExp (pt_cmpR op_eq (pv 4) pe_str (nomark _)) pe_int pe_int) (pa_cons (pe_ifExp (pt_cmpR op_eq (pv 4) pe_str (nomark _)) (gl_int T.g_MOST_TRIM) pe_int) pa_nil)))))) (pss_one ps_never) pss_nil)
      (pss_cons (ps_if (PW.pt (pw_and (pt_cmp (pc_notN (pv 6))) (pw_and1 (pt_not (pt_val (pe_f (u_are_lists T) (hr.mono (by decide)) (pa_cons (pv 1) (pa_cons (pv 6) pa_nil)))))))) (pss_one ps_never) pss_nil)
      (pss_cons (ps_fld (pv 0) (pv 1) rfl)
      (pss_cons (ps_fld (pv 0) (pv 2) rfl)
      (pss_cons (ps_fld (pv 0) (pv 4) rfl)
      (pss_cons (ps_fld (pv 0) (pv 5) rfl)
      (pss_cons (ps_fld (pv 0) (pe_dcT hu (own := [("pair", 8)]) rfl nd (pi_list (pe_m0 (u_C_pairs T) T.cC (hr.mono (by decide)) (pv 1))) (blkOk_by (N := n_R_init) (sc := defScope s_R_init) (by decide +kernel)) (fun _ _ _ _ _ => pg_name (i := 8) nd rfl (Or.inl rfl)) (fun _ _ _ _ _ => pts_one (PW.pt (pw_or (pt_cmp (pc_isN (pv 3))) (pw_or1 (pt_cmpR (inDK (K := K) rfl (by have := hr.un; show A'.units + 3 + 65 < _; change A'.units + 3 + _ + 200 < _ at this; omega)) (pv 8) (pv 3) (by rfl)))))) (fun _ _ _ _ _ => (pv 8)) (fun _ _ _ _ _ => pe_int)) rfl)
      (pss_freezeT (pss_cons (ps_fld (pv 0) (pe_f (u_lists_in_order T) (hr.mono (by decide)) (pa_cons (pv 1) (pa_cons (pe_ifExp (pt_cmp (pc_isN (pv 6))) (pe_lst (pa_cons (pe_p (u_C_people T) T.cC (hr.mono (by decide)) (pv 1)) pa_nil)) (pv 6)) pa_nil))) rfl)
      (pss_cons (ps_if (pt_not (pt_val (pe_b (cr_all rfl) T.n_all (pa_cons (pe_lc2 (own := [("one", 9), ("person", 10)]) (vs1 := [10]) (wi1 := iTup K (tVar 9)) rfl nd (pi_tup (pe_fld (pv 0) rfl)) (blkOk_by (N := n_R_init) (sc := defScope s_R_init) (by decide +kernel)) (by decide) (fun _ _ _ _ _ => pg_name (i := 9) nd rfl (Or.inl rfl)) (fun _ _ _ _ _ => pts_one (pt_cmpR op_gt (pe_b (lenK (K := K) rfl) T.n_len (pa_cons (pv 9) pa_nil)) pe_int (nomark _))) (fun _ _ _ _ _ => (pi_tup (pv 9))) (fun _ _ _ _ _ => pg_name (i := 10) nd rfl (Or.inl rfl)) (fun _ _ _ _ _ => pts_nil) (fun _ _ _ _ _ => (pe_m (u_R_has_readers T) T.cR (hr.mono (by decide)) (pv 0) (pa_cons (pv 10) pa_nil)))) pa_nil)))) (pss_one ps_never) pss_nil)
      (pss_cons (ps_if (pt_not (pt_val (pe_f (u_is_count T) (hr.mono (by decide)) (pa_cons (pv 7) (pa_cons pe_int (pa_cons (gl_int T.g_MOST_PRIZES) pa_nil)))))) (pss_one ps_never) pss_nil)
      (pss_one (ps_fld (pv 0) (pv 7) rfl))))))))))))))))), ?_⟩
    refine ⟨_, rfl, c, dxc, _, rfl, hco, fC_not (by decide +kernel) (by decide +kernel), ?_⟩
    refine ⟨_, rfl, t, _, turns, rfl, T.q_TURNS _, true, blT ht, ?_⟩
    refine iteF ?_
    refine ⟨_, rfl, true, congrArg V.bl (by simp), ?_⟩
    refine iteT ⟨_, rfl, _, rfl, c, r, ps, rs, rfl, hc, hr0, fun q hq => hR.mem hq, hR.nodup hnd, ?_, hN, fun H1 e1 => ⟨true, rfl, ?_⟩⟩
    · have := len_pairs h7
      have h2 : rs.length ≤ (pairs ps).length := by
        rw [hR.eq]
        exact List.length_filter_le _ _
      omega
    refine iteF ?_
    refine ⟨_, rfl, _, rfl, rfl, _, rfl, ?_⟩
    have hg1 : t = "plain" → g ∈ gathers := fun h => by unfold gatherOk at hg; rw [if_pos h] at hg; exact hg
    have hg2 : ¬ t = "plain" → g ∈ turnedGathers := fun h => by unfold gatherOk at hg; rw [if_neg h] at hg; exact hg
    refine (fun hmain => ite2 (fun h => ⟨g, _, gathers, rfl, T.q_GATHERS _, true, blT (hg1 (by simpa using h)), iteF hmain⟩) (fun h => ⟨g, _, turnedGathers, rfl, T.q_TURNED_GATHERS _, true, blT (hg2 (by simpa using h)), iteF hmain⟩)) ?_
    refine ⟨_, rfl, _, rfl, rfl, _, rfl, ?_⟩
    have hz1 : g = "trim" → V.bl (decide ((1 : Int) ≤ z) && decide (z ≤ 3)) = .bl true := fun h => by unfold trimOk at hz; rw [if_pos h] at hz; rw [decide_eq_true hz.1, decide_eq_true hz.2]; rfl
    have hz2 : ¬ g = "trim" → V.bl (decide ((0 : Int) ≤ z) && decide (z ≤ 0)) = .bl true := fun h => by unfold trimOk at hz; rw [if_neg h] at hz; rw [hz]; rfl
    refine (fun hmain => ite2 (fun h => ⟨_, rfl, rfl, _, rfl, ite2 (fun h' => ⟨z, 1, 3, rfl, true, hz1 (by simpa using h), iteF hmain⟩) (fun h' => absurd h h')⟩) (fun h => ⟨_, rfl, rfl, _, rfl, ite2 (fun h' => absurd h' h) (fun h' => ⟨z, 0, 0, rfl, true, hz2 (by simpa using h), iteF hmain⟩)⟩)) ?_
    refine ⟨_, rfl, true, congrArg V.bl (by simp), ?_⟩
    refine iteT ⟨_, rfl, _, rfl, c, l, ps, ls, rfl, hc.stay e1, hl0.stay stays_RL e1, hP, hnd, h7, hl7, hN, fun H2 e2 => ⟨true, rfl, ?_⟩⟩
    refine iteF ?_
    have e12 : Same H H2 := SB.trans' (P := fun _ => False) e1 e2
    have hp2 := e12 _ _ hp
    -- the four plain attributes
    refine ⟨_, rfl, _, rfl, p, A.R, dx, [], rfl, hp2, T.cR, T.naR_crowd, (by show 0 < 1000; decide), ?_⟩
    refine ⟨_, rfl, _, rfl, p, A.R, dx, _, rfl, upd_same, T.cR, T.naR_turn, few (by show 0 < 999; decide), ?_⟩
    refine ⟨_, rfl, _, rfl, p, A.R, dx, _, rfl, upd_same, T.cR, T.naR_gather, few (few (by show 0 < 998; decide)), ?_⟩
    refine ⟨_, rfl, _, rfl, p, A.R, dx, _, rfl, upd_same, T.cR, T.naR_trim, few (few (few (by show 0 < 997; decide))), ?_⟩
    rw [upd_upd, upd_upd, upd_upd]
    generalize hf4 : putF ("trim" : Str) (V.int z) (putF ("gather" : Str) (.str g) (putF ("turn" : Str) (.str t) (putF ("crowd" : Str) (.ref c) []))) = f4
    have hl4 : f4.length < 994 := by rw [← hf4]; exact few (few (few (few (by show 0 < 990; decide))))
    have s3 : SB (fun b => b = p) H (upd H2 p (.ins A.R dx f4)) := fun b o hb hbp => by rw [upd_ne hbp]; exact e12 _ _ hb
    have hp3 : (upd H2 p (.ins A.R dx f4)) p = some (.ins A.R dx f4) := upd_same
    generalize (upd H2 p (.ins A.R dx f4)) = H3 at *
    have hfz : ∀ b o u, H b = some (.frz o u) → ¬ b = p := fun b o u hb z => by rw [z, hp] at hb; cases hb
    have hc3 : CrowdAt A H3 c ps := hc.keep s3 ncp hfz
    have hco3 := s3 _ _ hco ncp
    obtain ⟨vr, hvr, hpr⟩ := id hr0
    have nrp : r ≠ p := ne_of hvr hp (by intro z; cases z)
    have hr3 : LAt RP H3 r rs := ⟨vr, s3 _ _ hvr nrp, Paired.mono (fun v d ⟨q, a, b⟩ => ⟨q, a, s3 _ _ b (ne_of b hp (by intro z; cases z))⟩) hpr⟩
    obtain ⟨vl, hvl, hpl⟩ := id hl0
    have nlp : l ≠ p := ne_of hvl hp (by intro z; cases z)
    have hl3 : LAt RL H3 l ls := ⟨vl, s3 _ _ hvl nlp, Paired.mono (fun v d ⟨q, a, b⟩ => ⟨q, a, s3 _ _ b (ne_of b hp (by intro z; cases z))⟩) hpl⟩
    -- the read pairs
    refine ⟨_, rfl, c, dxc, _, rfl, hco3, fC_not (by decide +kernel) (by decide +kernel), c, ps, rfl, hc3, h7, fun l4 H4 e4 hl4n ⟨v4, hv4, hp4⟩ => ⟨l4, rfl, ⟨_, .of hv4⟩, fun D hD => dt_pure (R := RP) (src_list (.of hv4) (fun z => z) (fun _ _ _ e h => stays_RP _ _ _ _ e.same h) hp4) hD (Nat.lt_of_le_of_lt (len_pairs h7) (by decide)) (fun q => if decide (q ∈ rs) = true then some q else none) (by rw [fm_if, ← hR.eq]; exact hR.nodup hnd) ?_ ?_⟩⟩
    · intro d x H5 Ny Nn hd e5 hx hy hn
      have hrs5 := (hr3.stay stays_RP e4).stay stays_RP e5
      have nm : ∀ q ∈ rs, Nm q.1 ∧ Nm q.2 := fun q hq => by obtain ⟨a, b, _⟩ := mem_pairs.mp (hR.mem hq); exact ⟨hN _ a, hN _ b⟩
      have nmd : Nm d.1 ∧ Nm d.2 := by obtain ⟨a, b, _⟩ := mem_pairs.mp hd; exact ⟨hN _ a, hN _ b⟩
      refine ⟨rfl, _, rfl, false, congrArg V.bl (by simp), ?_⟩
      refine iteF ⟨_, rfl, _, rfl, dP d, rs.map dP, dp_pair hx, dp_pairs hrs5, shaped_dP nmd.1 nmd.2, shaped_pairs nm, decide (d ∈ rs), by rw [any_dP], ?_⟩
      by_cases h : d ∈ rs
      · rw [decide_eq_true h]
        exact iteT ⟨_, rfl, hy _ _ _ d (fun _ _ h => h) hx (by simp [h])⟩
      · rw [decide_eq_false h]
        exact iteF (hn _ (fun _ _ h => h) (by simp [h]))
    · intro H5 kvs e5 h5 hk
      rw [fm_if, ← hR.eq] at hk
      have hp5 := e5 _ _ (e4 _ _ hp3)
      have e35 : Same H3 H5 := SB.trans' (P := fun _ => False) e4 e5
      have npD : p ≠ D := ne_of_none (e4 _ _ hp3) hD
      refine ⟨_, rfl, p, A.R, dx, _, rfl, hp5, T.cR, T.naR_read_pairs, Nat.lt_trans hl4 (by decide), D, kvs, (by rw [upd_ne npD.symm]; exact h5), fun od es ep hod hsz => ?_⟩
      generalize hf5 : putF ("read_pairs" : Str) (V.ref D) f4 = f5
      have hl5 : f5.length < 995 := by rw [← hf5]; exact few hl4
      have s6 : SB (fun b => b = p) H3 (upd (upd H5 p (.ins A.R dx f5)) D (.frz od (.dT kvs))) := fun b o hb hbp => by
        rw [upd_ne (ne_of_none (e4 _ _ hb) hD), upd_ne hbp]
        exact e35 _ _ hb
      have hp6 : (upd (upd H5 p (.ins A.R dx f5)) D (.frz od (.dT kvs))) p = some (.ins A.R dx f5) := by rw [upd_ne npD]; exact upd_same
      have hD6 : (upd (upd H5 p (.ins A.R dx f5)) D (.frz od (.dT kvs))) D = some (.frz od (.dT kvs)) := upd_same
      generalize (upd (upd H5 p (.ins A.R dx f5)) D (.frz od (.dT kvs))) = H6 at *
      have hfz3 : ∀ b o u, H3 b = some (.frz o u) → ¬ b = p := fun b o u hb z => by rw [z, hp3] at hb; cases hb
      have hc6 : CrowdAt A H6 c ps := hc3.keep s6 ncp hfz3
      have hl6 : LAt RL H6 l ls := by
        obtain ⟨v, h1, h2⟩ := hl3
        exact ⟨v, s6 _ _ h1 nlp, Paired.mono (fun v d ⟨q, a, b⟩ => ⟨q, a, s6 _ _ b (ne_of b hp3 (by intro z; cases z))⟩) h2⟩
      -- the lists
      refine ⟨_, rfl, _, rfl, false, congrArg V.bl (by simp), ?_⟩
      refine iteF ⟨_, rfl, c, l, ps, ls, rfl, hc6, hl6, h7, hl7, fun t7 H7 us e7 ht7 hus hpus => ?_⟩
      rw [hP.lio hnd] at hpus
      have hp7 := e7 _ _ hp6
      refine ⟨_, rfl, p, A.R, dx, _, rfl, hp7, T.cR, T.naR_list_rows, Nat.lt_trans hl5 (by decide), ?_⟩
      generalize hf6 : putF ("list_rows" : Str) (V.ref t7) f5 = f6
      have hl6' : f6.length < 996 := by rw [← hf6]; exact few hl5
      have npt : t7 ≠ p := (ne_of_none hp6 ht7).symm
      have npD' : D ≠ p := npD.symm
      have s8 : SB (fun b => b = p) H6 (upd H7 p (.ins A.R dx f6)) := fun b o hb hbp => by rw [upd_ne hbp]; exact e7 _ _ hb
      have hp8 : (upd H7 p (.ins A.R dx f6)) p = some (.ins A.R dx f6) := upd_same
      have ht8 : (upd H7 p (.ins A.R dx f6)) t7 = some (.tup us) := by rw [upd_ne npt]; exact hus
      have hD8 := s8 _ _ hD6 npD'
      have hu8 : Paired (RU (upd H7 p (.ins A.R dx f6))) us ls := Paired.mono (fun v d ⟨q, a, b⟩ => ⟨q, a, by rw [upd_ne (ne_of b hp7 (by intro z; cases z))]; exact b⟩) hpus
      have hc8 : CrowdAt A (upd H7 p (.ins A.R dx f6)) c ps := hc6.keep s8 ncp fun b o u hb z => by rw [z, hp6] at hb; cases hb
      have s08 : SB (fun b => b = p) H (upd H7 p (.ins A.R dx f6)) := (s3.trans s6).trans s8
      generalize (upd H7 p (.ins A.R dx f6)) = H8 at *
      have hlk1 : f6.lookup ("read_pairs" : Str) = some (.ref D) := by
        rw [← hf6, ← hf5, lookup_putF, if_neg (by decide +kernel), lookup_putF, if_pos rfl]
      have hlk2 : f6.lookup ("list_rows" : Str) = some (.ref t7) := by
        rw [← hf6, lookup_putF, if_pos rfl]
      have hlk3 : f6.lookup ("trim" : Str) = some (.int z) := by
        rw [← hf6, ← hf5, ← hf4, lookup_putF, if_neg (by decide +kernel), lookup_putF, if_neg (by decide +kernel), lookup_putF, if_pos rfl]
      have hlk4 : f6.lookup ("has_readers" : Str) = none := by
        rw [← hf6, ← hf5, ← hf4, lookup_putF, if_neg (by decide +kernel), lookup_putF, if_neg (by decide +kernel), lookup_putF, if_neg (by decide +kernel), lookup_putF, if_neg (by decide +kernel), lookup_putF, if_neg (by decide +kernel), lookup_putF, if_neg (by decide +kernel)]
        rfl
      -- everybody has readers
      refine ⟨_, rfl, p, A.R, dx, _, _, rfl, hp8, T.cR, T.naR_list_rows, hlk2, t7, rfl, ⟨_, .of ht8⟩, fun D9 hD9 => lc2_pure (R := RU) (Ro := RB) (src_tup (.of ht8) (fun z => z) (fun _ _ _ e h => stays_RU _ _ _ _ e.same h) hu8) hD9 stays_RB (fun one => if decide (1 < one.length) = true then one.map fun _ => true else []) ?_ ?_ ?_⟩
      · have hfl : ls.flatten.length = ps.length := hP.perm.length_eq
        have : ∀ ls : List (List Str), (ls.flatMap fun one => if decide (1 < one.length) = true then one.map fun _ => true else []).length ≤ ls.flatten.length := by
          intro ls
          induction ls with
          | nil => simp
          | cons one ls ih =>
            rw [List.flatMap_cons, List.length_append, List.flatten_cons, List.length_append]
            by_cases h : 1 < one.length
            · rw [if_pos (by simpa using h), List.length_map]; omega
            · rw [if_neg (by simpa using h), List.length_nil]; omega
        exact Nat.lt_of_le_of_lt (Nat.le_trans (this ls) (Nat.le_trans (Nat.le_of_eq hfl) h7)) (by decide)
      · intro d x H9 acc Nx hd e9 hacc hb hx hn hy
        obtain ⟨q, rfl, hq⟩ := hx
        refine ⟨rfl, _, rfl, .ref q, d.length, rfl, .inr ⟨_, .of hq, by rw [List.length_map]⟩, _, _, rfl, rfl, decide (1 < d.length), congrArg V.bl (decide_eq_decide.mpr (by omega)), ?_⟩
        by_cases h : 1 < d.length
        · rw [decide_eq_true h]
          have hfs : (if decide (1 < d.length) = true then d.map fun _ => true else []) = d.map fun _ => true := by rw [if_pos (by simpa using h)]
          rw [hfs] at hy hb
          refine iteT ⟨_, rfl, q, rfl, ⟨_, .of hq⟩, ?_⟩
          have nq : q ≠ D9 := ne_of hq hacc (by intro z; cases z)
          refine lc_inner (R1 := RS) (Ro := RB) (src_tup (.of hq) nq (fun _ _ _ _ h => h) (paired_str d _)) hacc stays_RB (fun _ => some true) (by rw [show (d.filterMap fun _ => some true) = d.map fun _ => true by rw [← List.filterMap_eq_map]; rfl]; exact hb) ?_ (fun H' acc' s' ha' pr' => hy _ H' acc' (fun _ _ h => h) s' ha' (by rw [show (d.map fun _ => true) = d.filterMap fun _ => some true by rw [← List.filterMap_eq_map]; rfl]; exact pr'))
          intro m x H10 acc4 Ny Nn hbm s10 ha4 hx4 hy4 hn4
          cases hx4
          have s810 : ∀ b o, H8 b = some o → H10 b = some o := fun b o hb => s10 _ _ (e9 _ _ hb) (ne_of_none hb hD9)
          refine ⟨rfl, yes ⟨_, rfl, p, dx, _, rfl, s810 _ _ hp8, hlk4, _, rfl, p, dx, D, f6, od, kvs, m, z, rs, rfl, s810 _ _ hp8, hlk1, hlk3, s810 _ _ hD8, hk, ?_, fun H11 e11 => ?_⟩⟩
          · have := len_pairs h7
            have h2 : rs.length ≤ (pairs ps).length := by
              rw [hR.eq]
              exact List.length_filter_le _ _
            omega
          · have hcm : 2 * z < (((rs.filter fun q => decide (q.2 = m)).length : Nat) : Int) := hrd d hd h m hbm
            rw [decide_eq_true hcm]
            exact hy4 _ _ true e11 (fun _ => rfl) rfl
        · rw [decide_eq_false h]
          exact iteF (hn _ (fun _ _ h => h) (by rw [if_neg (by simpa using h)]))
      · intro H9 acc e9 hacc pr
        refine ⟨D9, _, rfl, .of (paired_bl pr ▸ hacc), true, ?_, ?_⟩
        · congr 1
          rw [List.all_eq_true]
          intro b hb
          obtain ⟨one, _, ho⟩ := List.mem_flatMap.mp hb
          by_cases h : 1 < one.length
          · rw [if_pos (by simpa using h)] at ho
            obtain ⟨_, _, rfl⟩ := List.mem_map.mp ho
            rfl
          · rw [if_neg (by simpa using h)] at ho
            cases ho
        refine iteF ?_
        refine ⟨_, rfl, pz, 0, 8, rfl, true, (by rw [decide_eq_true pz0, decide_eq_true pz8]; rfl), ?_⟩
        refine iteF ?_
        refine ⟨_, rfl, _, rfl, p, A.R, dx, _, rfl, e9 _ _ hp8, T.cR, T.naR_prizes, Nat.lt_trans hl6' (by decide), ?_⟩
        have sp : SB (fun b => b = p) H8 (upd H9 p (.ins A.R dx (putF ("prizes" : Str) (.int pz) f6))) := fun b o hb hbp => by rw [upd_ne hbp]; exact e9 _ _ hb
        refine k _ (s08.trans sp) ⟨dx, c, g, z, D, t7, pz, od, kvs, es, ep, ?_, hc8.keep sp ncp (fun b o u hb z => by rw [z, hp8] at hb; cases hb), sp _ _ hD8 npD', hk, hod, hsz, us, sp _ _ ht8 npt, Paired.mono (fun v d ⟨q, a, b⟩ => ⟨q, a, sp _ _ b (ne_of b hp8 (by intro z; cases z))⟩) hu8⟩
        rw [upd_same, ← fR_mk, ← hf6, ← hf5, ← hf4]
end
end Om
/-! Walks: is_read_by, rank_reads, own_reads, safe_people, is_safe. -/
namespace Om
open PySem PySem.Spec PyProof.Rows L2 OmM
/-- people, lists, reads that fit together -/
structure Good (ps : List Str) (ls : List (List Str)) (rs : List (Str × Str)) : Prop where
  nm : ∀ s ∈ ps, Nm s
  nd : ps.Nodup
  l7 : ps.length ≤ 7
  ll7 : ls.length ≤ 7
  par : Parting ps ls
  rd : Reads ps rs
def readBy (t : Str) (ls : List (List Str)) (rs : List (Str × Str)) (p : Str) (q : Str × Str) : Bool :=
  if (listOf ls p).length < 2 then false else if t = "plain" then decide (q ∈ rs) && decide (q.2 ∈ listOf ls p) else !decide ((listOf ls p).filter (fun m => decide ((q.1, m) ∈ rs)) = [])
def ranked (ps : List Str) (t : Str) (ls : List (List Str)) (rs : List (Str × Str)) (p : Str) : List (Str × Str) := (pairs ps).filter (readBy t ls rs p)
def owned (ls : List (List Str)) (rs : List (Str × Str)) (p : Str) : List (Str × Str) := rs.filter fun q => decide (q.1 = p) && decide (q.2 ∈ listOf ls p)
def safes (ps : List Str) (ls : List (List Str)) (rs : List (Str × Str)) : List Str := ps.filter fun p => decide (owned ls rs p = [])
theorem Good.rl {ps : List Str} {ls : List (List Str)} {rs : List (Str × Str)} (G : Good ps ls rs) : rs.length ≤ 49 := by
  have := len_pairs G.l7
  have h2 : rs.length ≤ (pairs ps).length := by
    rw [G.rd.eq]
    exact List.length_filter_le _ _
  omega
theorem Good.nmr {ps : List Str} {ls : List (List Str)} {rs : List (Str × Str)} (G : Good ps ls rs) : ∀ q ∈ rs, Nm q.1 ∧ Nm q.2 := fun q hq => by
  obtain ⟨a, b, _⟩ := mem_pairs.mp (G.rd.mem hq)
  exact ⟨G.nm _ a, G.nm _ b⟩
theorem Good.nml {ps : List Str} {ls : List (List Str)} {rs : List (Str × Str)} (G : Good ps ls rs) {p : Str} (hp : p ∈ ps) : ∀ s ∈ listOf ls p, s ∈ ps := fun s hs => G.par.mem (G.par.listOf_mem hp).1 hs
theorem Good.lol {ps : List Str} {ls : List (List Str)} {rs : List (Str × Str)} (G : Good ps ls rs) {p : Str} (hp : p ∈ ps) : (listOf ls p).length ≤ 7 := by
  have h := G.par.same _ (G.par.listOf_mem hp).1
  have h2 := List.length_filter_le (fun q => decide (q ∈ listOf ls p)) ps
  rw [h] at h2
  exact Nat.le_trans h2 G.l7
theorem eqv_nil (l : List Str) : PyData.eqv (dStrs l) (.list []) = decide (l = []) := by
  have := eqv_strs l []
  show PyData.eqv (.list (l.map .str)) (.list []) = _
  rw [← this]
  simp only [PyData.eqv, List.map_nil]
theorem eqv_nilP (l : List (Str × Str)) : PyData.eqv (.list (l.map dP)) (.list []) = decide (l = []) := by
  have := eqv_pairs l []
  rw [← this]
  simp only [PyData.eqv, List.map_nil]
theorem sh_nil : SeqAt.shaped (.list []) = true := by decide +kernel
def spReadBy (A : Adr) : Sp := fun vs H Q _ => ∃ (r q : Addr) (ps : List Str) (t : Str) (ls : List (List Str)) (rs : List (Str × Str)) (p : Str) (d : Str × Str), vs = [.ref r, .ref q, .str p] ∧ RuleAt A H r ps t ls rs ∧ Good ps ls rs ∧ H q = some (.tup [.str d.1, .str d.2]) ∧ d ∈ pairs ps ∧ p ∈ ps ∧ ∀ H', Same H H' → Q (.bl (readBy t ls rs p d)) H'
def spRank (A : Adr) : Sp := fun vs H Q _ => ∃ (r : Addr) (ps : List Str) (t : Str) (ls : List (List Str)) (rs : List (Str × Str)) (p : Str), vs = [.ref r, .str p] ∧ RuleAt A H r ps t ls rs ∧ Good ps ls rs ∧ p ∈ ps ∧ ∀ D H', Same H H' → H D = none → LAt RP H' D (ranked ps t ls rs p) → Q (.ref D) H'
def spOwn (A : Adr) : Sp := fun vs H Q _ => ∃ (r : Addr) (ps : List Str) (t : Str) (ls : List (List Str)) (rs : List (Str × Str)) (p : Str), vs = [.ref r, .str p] ∧ RuleAt A H r ps t ls rs ∧ Good ps ls rs ∧ p ∈ ps ∧ ∀ D H', Same H H' → H D = none → LAt RP H' D (owned ls rs p) → Q (.ref D) H'
def spSafe (A : Adr) : Sp := fun vs H Q _ => ∃ (r : Addr) (ps : List Str) (t : Str) (ls : List (List Str)) (rs : List (Str × Str)), vs = [.ref r] ∧ RuleAt A H r ps t ls rs ∧ Good ps ls rs ∧ ∀ D H', Same H H' → H D = none → H' D = some (.lst ((safes ps ls rs).map V.str)) → Q (.ref D) H'
def spIsSafe (A : Adr) : Sp := fun vs H Q _ => ∃ (r : Addr) (ps : List Str) (t : Str) (ls : List (List Str)) (rs : List (Str × Str)), vs = [.ref r] ∧ RuleAt A H r ps t ls rs ∧ Good ps ls rs ∧ ∀ H', Same H H' → Q (.bl (decide ((safes ps ls rs).length = ps.length))) H'
section
variable {P : Program} {w : World} {K : PySem.W.Frag} {mg : Str → Option Value} {base : Heap} {A : Adr}
theorem u_is_read_by (T : Txt K mg A) : UF P w K mg base 5 "is_read_by" ["rule", "pair", "person"] (spReadBy A) := by
  refine ⟨_, _, T.F_is_read_by.ok sc_is_read_by (fun vs H Q E h => ?_) (fun cdv A' outer s H vs Q E hr h => ?_), T.g_is_read_by, T.F_is_read_by.kp, T.F_is_read_by.binds fun _ _ _ _ _ _ us hl => match us, hl with | [_, _, _], _ => rfl⟩
  · obtain ⟨r, q, ps, t, ls, rs, p, d, rfl, _⟩ := h
    rfl
  · obtain ⟨r, q, ps, t, ls, rs, p, d, rfl, hR, G, hq, hd, hp, k⟩ := h
    have nd := sc_is_read_by.nd
    obtain ⟨dx, c, g, z, rp, lr, pz, od, kvs, es, ep, h1, h2, _⟩ := id hR.ex
    obtain ⟨d1, d2, d3⟩ := mem_pairs.mp hd
    refine ⟨_, (pss_cons (ps_set (i := 3) nd rfl (Or.inl rfl) (pe_m (u_R_list_of T) T.cR (hr.mono (by decide)) (pv 0) (pa_cons (pv 2) pa_nil)))
      (pss_cons (ps_if (pt_cmpR op_lt (pe_b call_len T.n_len (pa_cons (pv 3) pa_nil)) pe_int (nomark _)) (pss_one (ps_ret pe_bl)) pss_nil)
      (pss_cons (ps_if (pt_cmpR op_eq (pe_fld (pv 0) rfl) pe_str (nomark _)) (pss_one (ps_ret (pe_and (pe_cmpR (op_inU (u_R_has T) (hr.mono (by decide))) (pv 1) (pv 0) (by rfl)) (pe_one (pe_cmpR op_in_seq (pe_ix ix_tup (pv 1) pe_int (fun _ _ => rfl)) (pv 3) (by rfl)))))) pss_nil)
      (pss_one (ps_ret (pe_cmpR (op_neD hr.units) (pe_lc (own := [("member", 4)]) rfl nd (pi_list (pv 3)) (blkOk_by (N := n_is_read_by) (sc := defScope s_is_read_by) (by decide +kernel)) (fun _ _ _ _ _ => pg_name (i := 4) nd rfl (Or.inl rfl)) (fun _ _ _ _ _ => pts_one (pt_cmpR (op_inU (u_R_has T) (hr.mono (by decide))) (pe_tup (pa_cons (pe_ix (ix_tupK (K := K) rfl) (pv 1) pe_int (fun _ _ => rfl)) (pa_cons (pv 4) pa_nil))) (pv 0) (by rfl))) (fun _ _ _ _ _ => (pv 4))) (pe_lst pa_nil) (nomark _))))))), ?_⟩
    refine ⟨_, rfl, r, dx, _, rfl, h1, fR_not (by decide +kernel) (by decide +kernel) (by decide +kernel) (by decide +kernel) (by decide +kernel) (by decide +kernel) (by decide +kernel), _, rfl, r, ps, t, ls, rs, p, rfl, hR, G.par, hp, G.nm _ hp, G.ll7, fun m H1 e1 hm => ?_⟩
    refine ⟨_, rfl, .ref m, (listOf ls p).length, rfl, .inl ⟨_, .of hm, by rw [List.length_map]⟩, _, _, rfl, rfl, decide ((listOf ls p).length < 2), congrArg V.bl (decide_eq_decide.mpr (by omega)), ?_⟩
    by_cases hl : (listOf ls p).length < 2
    · rw [decide_eq_true hl]
      refine iteT ?_
      have := k _ e1
      unfold readBy at this
      rw [if_pos hl] at this
      exact this
    rw [decide_eq_false hl]
    refine iteF ?_
    refine ⟨_, rfl, r, A.R, dx, _, _, rfl, e1 _ _ h1, T.cR, T.naR_turn, fR_turn, rfl, decide (t = "plain"), by simp, ?_⟩
    by_cases ht : t = "plain"
    · rw [decide_eq_true ht]
      refine iteT ?_
      have k' : ∀ H', Same H H' → Q (.bl (decide (d ∈ rs) && decide (d.2 ∈ listOf ls p))) H' := fun H' e => by
        have := k _ e
        unfold readBy at this
        rw [if_neg hl, if_pos ht] at this
        exact this
      refine ⟨_, rfl, _, rfl, r, dx, _, rfl, e1 _ _ h1, r, q, ps, t, ls, rs, d.1, d.2, rfl, hR.stay e1, G.rd, e1 _ _ hq, G.nm _ d1, G.nm _ d2, fun H2 e2 => ⟨_, rfl, _, rfl, ?_⟩⟩
      have e12 := SB.trans' (P := fun _ => False) e1 e2
      by_cases hdr : d ∈ rs
      · rw [decide_eq_true hdr] at k'
        rw [decide_eq_true (show (d.1, d.2) ∈ rs from hdr)]
        refine iteT ⟨_, rfl, q, _, _, _, rfl, rfl, .of (e12 _ _ hq), atI_nat (j := 1) rfl, _, rfl, m, _, rfl, .inl (.of (e2 _ _ hm)), rfl, flat_strs _, ?_⟩
        show Q (.bl (inV (.str d.2) ((listOf ls p).map V.str))) _
        rw [inV_str]
        exact k' _ e12
      · rw [decide_eq_false hdr] at k'
        rw [decide_eq_false (show ¬ (d.1, d.2) ∈ rs from hdr)]
        exact iteF (k' _ e12)
    · rw [decide_eq_false ht]
      refine iteF ?_
      have k' : ∀ H', Same H H' → Q (.bl (!decide ((listOf ls p).filter (fun m => decide ((d.1, m) ∈ rs)) = []))) H' := fun H' e => by
        have := k _ e
        unfold readBy at this
        rw [if_neg hl, if_neg ht] at this
        exact this
      refine ⟨_, rfl, m, rfl, ⟨_, .of hm⟩, fun D hD => lc_pure (R := RS) (Ro := RS) (src_list (.of hm) (fun z => z) (fun _ _ _ _ h => h) (paired_str _ _)) hD (Nat.lt_of_le_of_lt (G.lol hp) (by decide)) stays_RS (fun s => if decide ((d.1, s) ∈ rs) = true then some s else none) ?_ ?_⟩
      · intro s x H2 acc Ny Nn hs e2 _ hx hy hn
        cases hx
        have e12 := SB.trans' (P := fun _ => False) e1 e2
        refine ⟨rfl, _, rfl, q, _, _, _, rfl, rfl, .of (e12 _ _ hq), atI_nat (j := 0) rfl, _, rfl, (by show 2 ≤ sizeLine; decide), fun t2 ht2 => ?_⟩
        have e2t : Same H2 (upd H2 t2 (.tup [.str d.1, .str s])) := same_upd ht2
        have e12t := SB.trans' (P := fun _ => False) e12 e2t
        refine ⟨_, rfl, r, dx, _, rfl, e12t _ _ h1, r, t2, ps, t, ls, rs, d.1, s, rfl, hR.stay e12t, G.rd, upd_same, G.nm _ d1, G.nm _ (G.nml hp _ hs), fun H3 e3 => ⟨_, rfl, _, rfl, ?_⟩⟩
        have e23 := SB.trans' (P := fun _ => False) e2t e3
        by_cases h : (d.1, s) ∈ rs
        · rw [decide_eq_true h]
          exact iteT ⟨_, rfl, hy _ _ s e23 (fun _ => rfl) (by simp [h])⟩
        · rw [decide_eq_false h]
          exact iteF (hn _ e23 (by simp [h]))
      · intro H2 acc e2 hacc pr
        rw [fm_if] at pr
        refine ⟨Nat.zero_le _, fun n hn => ?_⟩
        have hn2 : Same H2 (upd H2 n (.lst [])) := same_upd hn
        refine ⟨dStrs ((listOf ls p).filter fun s => decide ((d.1, s) ∈ rs)), .list [], dp_strs (hn2 _ _ (LAt.str ⟨_, hacc, pr⟩)), .lst (.of upd_same) .nil, shaped_strs fun s hs => G.nm _ (G.nml hp _ (List.mem_filter.mp hs).1), sh_nil, ?_⟩
        rw [eqv_nil]
        exact k' _ fun b o hb => hn2 _ _ (e2 _ _ (e1 _ _ hb))
theorem u_rank_reads (T : Txt K mg A) : UF P w K mg base 6 "rank_reads" ["rule", "person"] (spRank A) := by
  refine ⟨_, _, T.F_rank_reads.ok sc_rank_reads (fun vs H Q E h => ?_) (fun cdv A' outer s H vs Q E hr h => ?_), T.g_rank_reads, T.F_rank_reads.kp, T.F_rank_reads.binds fun _ _ _ _ _ _ us hl => match us, hl with | [_, _], _ => rfl⟩
  · obtain ⟨r, ps, t, ls, rs, p, rfl, _⟩ := h
    rfl
  · obtain ⟨r, ps, t, ls, rs, p, rfl, hR, G, hp, k⟩ := h
    have nd := sc_rank_reads.nd
    obtain ⟨dx, c, g, z, rp, lr, pz, od, kvs, es, ep, h1, h2, _⟩ := id hR.ex
    refine ⟨_, (pss_cons (ps_expr (pe_f (u_check_rule T) (hr.mono (by decide)) (pa_cons (pv 0) pa_nil)))
      (pss_cons (ps_expr (pe_f (u_check_person T) (hr.mono (by decide)) (pa_cons (pv 0) (pa_cons (pv 1) pa_nil))))
      (pss_one (ps_ret (pe_lc (own := [("pair", 2)]) rfl nd (pi_list (pe_m0 (u_C_pairs T) T.cC (hr.mono (by decide)) (pe_fld (pv 0) rfl))) (blkOk_by (N := n_rank_reads) (sc := defScope s_rank_reads) (by decide +kernel)) (fun _ _ _ _ _ => pg_name (i := 2) nd rfl (Or.inl rfl)) (fun _ _ _ _ _ => pts_one (pt_val (pe_f (u_is_read_by T) (hr.mono (by decide)) (pa_cons (pv 0) (pa_cons (pv 2) (pa_cons (pv 1) pa_nil)))))) (fun _ _ _ _ _ => (pv 2))))))), ?_⟩
    refine ⟨_, rfl, r, dx, _, rfl, h1, ?_⟩
    refine ⟨_, rfl, _, rfl, r, ps, t, ls, rs, p, rfl, hR, hp, G.nm _ hp, fun H1 e1 => ?_⟩
    have hR1 := hR.stay e1
    obtain ⟨dxc, _, _, _, _, _, _, hco, _⟩ := id (h2.stay e1).ex
    refine ⟨_, rfl, r, A.R, dx, _, _, rfl, e1 _ _ h1, T.cR, T.naR_crowd, fR_crowd, c, dxc, _, rfl, hco, fC_not (by decide +kernel) (by decide +kernel), c, ps, rfl, h2.stay e1, G.l7, fun l2 H2 e2 hl2 ⟨v2, hv2, hp2⟩ => ⟨l2, rfl, ⟨_, .of hv2⟩, fun D hD => lc_pure (R := RP) (Ro := RP) (src_list (.of hv2) (fun z => z) (fun _ _ _ e h => stays_RP _ _ _ _ e.same h) hp2) hD (Nat.lt_of_le_of_lt (len_pairs G.l7) (by decide)) stays_RP (fun q => if readBy t ls rs p q = true then some q else none) ?_ ?_⟩⟩
    · intro d x H3 acc Ny Nn hd e3 hacc hx hy hn
      obtain ⟨q, rfl, hq⟩ := hx
      have e13 : Same H H3 := fun b o hb => e3 _ _ (e2 _ _ (e1 _ _ hb))
      refine ⟨rfl, _, rfl, _, rfl, _, rfl, r, q, ps, t, ls, rs, p, d, rfl, hR.stay e13, G, hq, hd, hp, fun H4 e4 => ⟨_, rfl, ?_⟩⟩
      cases hb : readBy t ls rs p d
      · exact iteF (hn _ e4 (by simp [hb]))
      · exact iteT ⟨_, rfl, hy _ _ d e4 (fun o => ⟨q, rfl, by rw [upd_ne (ne_of hq hacc (by intro z; cases z))]; exact e4 _ _ hq⟩) (by simp [hb])⟩
    · intro H3 acc e3 hacc pr
      rw [fm_if] at pr
      refine k D H3 (fun b o hb => e3 _ _ (e2 _ _ (e1 _ _ hb))) ?_ ⟨acc, hacc, pr⟩
      cases hHD : H D with
      | none => rfl
      | some o => rw [e2 _ _ (e1 _ _ hHD)] at hD; cases hD
theorem u_own_reads (T : Txt K mg A) : UF P w K mg base 4 "own_reads" ["rule", "person"] (spOwn A) := by
  refine ⟨_, _, T.F_own_reads.ok sc_own_reads (fun vs H Q E h => ?_) (fun cdv A' outer s H vs Q E hr h => ?_), T.g_own_reads, T.F_own_reads.kp, T.F_own_reads.binds fun _ _ _ _ _ _ us hl => match us, hl with | [_, _], _ => rfl⟩
  · obtain ⟨r, ps, t, ls, rs, p, rfl, _⟩ := h
    rfl
  · obtain ⟨r, ps, t, ls, rs, p, rfl, hR, G, hp, k⟩ := h
    have nd := sc_own_reads.nd
    obtain ⟨dx, c, g, z, rp, lr, pz, od, kvs, es, ep, h1, h2, h3, h4, _⟩ := id hR.ex
    refine ⟨_, (pss_cons (ps_expr (pe_f (u_check_rule T) (hr.mono (by decide)) (pa_cons (pv 0) pa_nil)))
      (pss_cons (ps_expr (pe_f (u_check_person T) (hr.mono (by decide)) (pa_cons (pv 0) (pa_cons (pv 1) pa_nil))))
      (pss_cons (ps_set (i := 2) nd rfl (Or.inr rfl) (pe_m (u_R_list_of T) T.cR (hr.mono (by decide)) (pv 0) (pa_cons (pv 1) pa_nil)))
      (pss_one (ps_ret (pe_lc (own := [("pair", 3)]) rfl nd (pi_ownU (u_R_iter T) (hr.mono (by decide)) (pv 0)) (blkOk_by (N := n_own_reads) (sc := defScope s_own_reads) (by decide +kernel)) (fun _ _ _ _ _ => pg_name (i := 3) nd rfl (Or.inl rfl)) (fun _ _ _ _ _ => pts_one (PW.pt (pw_and (pt_cmpR op_eq (pe_ix (ix_tupK (K := K) rfl) (pv 3) pe_int (fun _ _ => rfl)) (pv 1) (nomark _)) (pw_and1 (pt_cmpR (op_inK (K := K) rfl) (pe_ix (ix_tupK (K := K) rfl) (pv 3) pe_int (fun _ _ => rfl)) (pv 2) (by rfl)))))) (fun _ _ _ _ _ => (pv 3)))))))), ?_⟩
    refine ⟨_, rfl, r, dx, _, rfl, h1, ?_⟩
    refine ⟨_, rfl, _, rfl, r, ps, t, ls, rs, p, rfl, hR, hp, G.nm _ hp, fun H1 e1 => ?_⟩
    refine ⟨_, rfl, r, dx, _, rfl, e1 _ _ h1, fR_not (by decide +kernel) (by decide +kernel) (by decide +kernel) (by decide +kernel) (by decide +kernel) (by decide +kernel) (by decide +kernel), _, rfl, r, ps, t, ls, rs, p, rfl, hR.stay e1, G.par, hp, G.nm _ hp, G.ll7, fun m H2 e2 hm => ?_⟩
    have e12 := SB.trans' (P := fun _ => False) e1 e2
    refine ⟨_, rfl, r, dx, _, rp, od, rfl, e12 _ _ h1, fR_reads, .inr ⟨kvs, e12 _ _ h3, fun D hD => lc_pure (R := RP) (Ro := RP) (src_keysT (e12 _ _ h3) (fun z => z) h4) hD (Nat.lt_of_le_of_lt G.rl (by decide)) stays_RP (fun q => if (decide (q.1 = p) && decide (q.2 ∈ listOf ls p)) = true then some q else none) ?_ ?_⟩⟩
    · intro d x H3 acc Ny Nn hd e3 hacc hx hy hn
      obtain ⟨q, rfl, hq⟩ := hx
      refine ⟨rfl, _, rfl, q, _, _, _, rfl, rfl, .of hq, atI_nat (j := 0) rfl, _, rfl, rfl, decide (d.1 = p), by simp, ?_⟩
      by_cases h : d.1 = p
      · rw [decide_eq_true h]
        refine iteT ⟨_, rfl, q, _, _, _, rfl, rfl, .of hq, atI_nat (j := 1) rfl, _, rfl, m, _, rfl, .inl (.of (e3 _ _ hm)), rfl, flat_strs _, _, congrArg V.bl (inV_str d.2 _), ?_⟩
        by_cases h2 : d.2 ∈ listOf ls p
        · rw [decide_eq_true h2]
          exact iteT ⟨_, rfl, hy _ _ d (fun _ _ h => h) (fun o => ⟨q, rfl, by rw [upd_ne (ne_of hq hacc (by intro z; cases z))]; exact hq⟩) (by simp [h, h2])⟩
        · rw [decide_eq_false h2]
          exact iteF (hn _ (fun _ _ h => h) (by simp [h2]))
      · rw [decide_eq_false h]
        exact iteF (hn _ (fun _ _ h => h) (by simp [h]))
    · intro H3 acc e3 hacc pr
      rw [fm_if] at pr
      refine k D H3 (fun b o hb => e3 _ _ (e12 _ _ hb)) ?_ ⟨acc, hacc, pr⟩
      cases hHD : H D with
      | none => rfl
      | some o => rw [e12 _ _ hHD] at hD; cases hD
theorem u_safe_people (T : Txt K mg A) : UF P w K mg base 5 "safe_people" ["rule"] (spSafe A) := by
  refine ⟨_, _, T.F_safe_people.ok sc_safe_people (fun vs H Q E h => ?_) (fun cdv A' outer s H vs Q E hr h => ?_), T.g_safe_people, T.F_safe_people.kp, T.F_safe_people.binds fun _ _ _ _ _ _ us hl => match us, hl with | [_], _ => rfl⟩
  · obtain ⟨r, ps, t, ls, rs, rfl, _⟩ := h
    rfl
  · obtain ⟨r, ps, t, ls, rs, rfl, hR, G, k⟩ := h
    have nd := sc_safe_people.nd
    obtain ⟨dx, c, g, z, rp, lr, pz, od, kvs, es, ep, h1, h2, _⟩ := id hR.ex
    obtain ⟨dxc, dd, mm, odd, kvc, _, _, hco, hdd, hkc, _⟩ := id h2.ex
    refine ⟨_, (pss_cons (ps_expr (pe_f (u_check_rule T) (hr.mono (by decide)) (pa_cons (pv 0) pa_nil)))
      (pss_one (ps_ret (pe_lc (own := [("person", 1)]) rfl nd (pi_ownU (u_C_iter T) (hr.mono (by decide)) (pe_fld (pv 0) rfl)) (blkOk_by (N := n_safe_people) (sc := defScope s_safe_people) (by decide +kernel)) (fun _ _ _ _ _ => pg_name (i := 1) nd rfl (Or.inl rfl)) (fun _ _ _ _ _ => pts_one (pt_cmpR (eqDK (K := K) rfl hr.units) (pe_f (u_own_reads T) (hr.mono (by decide)) (pa_cons (pv 0) (pa_cons (pv 1) pa_nil))) (pe_lst pa_nil) (nomark _))) (fun _ _ _ _ _ => (pv 1)))))), ?_⟩
    refine ⟨_, rfl, r, dx, _, rfl, h1, ?_⟩
    refine ⟨_, rfl, r, A.R, dx, _, _, rfl, h1, T.cR, T.naR_crowd, fR_crowd, c, dxc, _, dd, odd, rfl, hco, fC_own, .inl ⟨kvc, hdd, fun D hD => lc_pure (R := RS) (Ro := RS) (src_keys hdd (fun z => z) hkc) hD (Nat.lt_of_le_of_lt G.l7 (by decide)) stays_RS (fun p => if decide (owned ls rs p = []) = true then some p else none) ?_ ?_⟩⟩
    · intro d x H3 acc Ny Nn hd e3 hacc hx hy hn
      cases hx
      refine ⟨rfl, _, rfl, _, rfl, r, ps, t, ls, rs, d, rfl, hR.stay e3, G, hd, fun l4 H4 e4 hl4 hL4 => ⟨Nat.zero_le _, fun n hn4 => ?_⟩⟩
      have e5 : Same H4 (upd H4 n (.lst [])) := same_upd hn4
      refine ⟨.list ((owned ls rs d).map dP), .list [], dp_pairs (hL4.stay stays_RP e5), .lst (.of upd_same) .nil, shaped_pairs fun q hq => G.nmr q (List.mem_filter.mp hq).1, sh_nil, decide (owned ls rs d = []), by rw [eqv_nilP], ?_⟩
      have e35 := SB.trans' (P := fun _ => False) e4 e5
      by_cases h : owned ls rs d = []
      · rw [decide_eq_true h]
        exact iteT ⟨_, rfl, hy _ _ d e35 (fun _ => rfl) (by simp [h])⟩
      · rw [decide_eq_false h]
        exact iteF (hn _ e35 (by simp [h]))
    · intro H3 acc e3 hacc pr
      rw [fm_if] at pr
      exact k D H3 e3 hD (LAt.str ⟨acc, hacc, pr⟩)
theorem u_is_safe (T : Txt K mg A) : UF P w K mg base 6 "is_safe" ["rule"] (spIsSafe A) := by
  refine ⟨_, _, T.F_is_safe.ok sc_is_safe (fun vs H Q E h => ?_) (fun cdv A' outer s H vs Q E hr h => ?_), T.g_is_safe, T.F_is_safe.kp, T.F_is_safe.binds fun _ _ _ _ _ _ us hl => match us, hl with | [_], _ => rfl⟩
  · obtain ⟨r, ps, t, ls, rs, rfl, _⟩ := h
    rfl
  · obtain ⟨r, ps, t, ls, rs, rfl, hR, G, k⟩ := h
    obtain ⟨dx, c, g, z, rp, lr, pz, od, kvs, es, ep, h1, h2, _⟩ := id hR.ex
    obtain ⟨dxc, dd, mm, odd, kvc, _, _, hco, hdd, hkc, _⟩ := id h2.ex
    refine ⟨_, (pss_one (ps_ret (pe_cmpR op_eq (pe_b call_len T.n_len (pa_cons (pe_f (u_safe_people T) (hr.mono (by decide)) (pa_cons (pv 0) pa_nil)) pa_nil)) (pe_b (call_lenU (u_C_len T) (hr.mono (by decide))) T.n_len (pa_cons (pe_fld (pv 0) rfl) pa_nil)) (nomark _)))), ?_⟩
    refine ⟨_, rfl, r, ps, t, ls, rs, rfl, hR, G, fun D H1 e1 hD hD1 => ⟨.ref D, (safes ps ls rs).length, rfl, .inl ⟨_, .of hD1, by rw [List.length_map]⟩, _, rfl, r, A.R, dx, _, _, rfl, e1 _ _ h1, T.cR, T.naR_crowd, fR_crowd, c, dxc, _, rfl, e1 _ _ hco, c, ps, rfl, h2.stay e1, ps.length, rfl, Nat.lt_of_le_of_lt G.l7 (by decide), rfl, ?_⟩⟩
    rw [show decide (V.int (((safes ps ls rs).length : Nat) : Int) = V.int ((ps.length : Nat) : Int)) = decide ((safes ps ls rs).length = ps.length) from decide_eq_decide.mpr (by simp; omega)]
    exact k _ e1
end
end Om
/-! Walks of the law's helpers: opened, draw, pick, people, pairs. -/
namespace Om
open PySem PySem.Spec PyProof.Rows L2 OmM
/-- the pool of draws -/
def Pool (H : Hp) (a : Addr) : Prop := ∃ p0 p1 : Int, H a = some (.lst [.int p0, .int p1]) ∧ 0 ≤ p1 ∧ p1 < 2147483647
theorem Pool.stay {H H' : Hp} {a : Addr} (e : Same H H') (h : Pool H a) : Pool H' a := let ⟨p, q, h1, h2⟩ := h; ⟨p, q, e _ _ h1, h2⟩
theorem Pool.new {H : Hp} {a : Addr} {p0 p1 : Int} (h1 : 0 ≤ p1) (h2 : p1 < 2147483647) : Pool (upd H a (.lst [.int p0, .int p1])) a := ⟨p0, p1, upd_same, h1, h2⟩
def spOpened (K : PySem.W.Frag) : Sp := fun vs H Q _ => ∃ (a : Addr) (ns : List Int) (k : Nat), vs = [.ref a, .int k] ∧ SqL K H a (ns.map V.int) ∧ ∀ l H', Same H H' → H l = none → Pool H' l → Q (.ref l) H'
def spDraw : Sp := fun vs H Q _ => ∃ (a : Addr) (m : Int), vs = [.ref a, .int m] ∧ Pool H a ∧ 0 < m ∧ m < 1000 ∧ ∀ (r : Int) H', 0 ≤ r → r < m → SB (fun b => b = a) H H' → Pool H' a → Q (.int r) H'
def spPick : Sp := fun vs H Q _ => ∃ (a l : Addr) (ss : List Str), vs = [.ref a, .ref l] ∧ Pool H a ∧ H l = some (.lst (ss.map V.str)) ∧ ss ≠ [] ∧ ss.length < 1000 ∧ ∀ s H', s ∈ ss → SB (fun b => b = a) H H' → Pool H' a → Q (.str s) H'
def spLPeople : Sp := fun vs H Q _ => ∃ (a : Addr) (n : Nat), vs = [.ref a, .int n] ∧ Pool H a ∧ n ≤ 7 ∧ ∀ l H' (ps : List Str), SB (fun b => b = a) H H' → Pool H' a → H l = none → H' l = some (.lst (ps.map V.str)) → (∀ p ∈ ps, Nm p) → ps.Nodup → ps.length = n → Q (.ref l) H'
def spLPairs : Sp := fun vs H Q _ => ∃ (l : Addr) (ps : List Str), vs = [.ref l] ∧ H l = some (.lst (ps.map V.str)) ∧ ps.length ≤ 7 ∧ ∀ D H', Same H H' → H D = none → LAt RP H' D (pairs ps) → Q (.ref D) H'
theorem src_range {P : Addr → Prop} {H1 : Hp} {n : Nat} : Src (Itr 0 n) P H1 (fun _ v (i : Nat) => v = .int i) (List.range n) where
  goes := fun i H hi e => by show i < n; simpa using hi
  stops := fun H e => by show n ≤ _; simp
  yields := fun i H x H' hi e y => by
    obtain ⟨rfl, rfl⟩ := y
    exact ⟨.inl rfl, i, by simp at hi; simp [hi], by simp⟩
theorem b01 (b : Bool) : -(2 ^ 64) < (if b = true then (1 : Int) else 0) ∧ (if b = true then (1 : Int) else 0) < 2 ^ 64 := by cases b <;> decide
theorem er_map {α β : Type} (f : α → β) : ∀ (l : List α) (j : Nat), (l.map f).eraseIdx j = (l.eraseIdx j).map f
  | [], j => by simp
  | x :: l, 0 => by simp
  | x :: l, j + 1 => by simp [er_map f l j]
theorem er_perm {α : Type} : ∀ {l : List α} {j : Nat} (h : j < l.length), (l[j] :: l.eraseIdx j).Perm l
  | x :: l, 0, _ => by simp
  | x :: l, j + 1, h => by
    simp only [List.getElem_cons_succ, List.eraseIdx_cons_succ]
    exact (List.Perm.swap _ _ _).trans (List.Perm.cons _ (er_perm (by simpa using h)))
theorem none_of_sb {P : Addr → Prop} {H H' : Hp} {D : Addr} (e : SB P H H') (h : H' D = none) (n : ¬ P D) : H D = none := by
  cases hD : H D with
  | none => rfl
  | some o => rw [e _ _ hD n] at h; cases h
section
variable {P : Program} {w : World} {K : PySem.W.Frag} {mg : Str → Option Value} {base : Heap} {A : Adr}
theorem u_l_opened (T : Txt K mg A) : UF P w K mg base 1 "_law_opened" ["_law_script", "_law_k"] (spOpened K) := by
  refine ⟨_, _, T.F_l_opened.ok sc_l_opened (fun vs H Q E h => ?_) (fun cdv A' outer s H vs Q E hr h => ?_), T.g_l_opened, T.F_l_opened.kp, T.F_l_opened.binds fun _ _ _ _ _ _ us hl => match us, hl with | [_, _], _ => rfl⟩
  · obtain ⟨a, ns, k, rfl, _⟩ := h
    rfl
  · obtain ⟨a, ns, i, rfl, hS, k⟩ := h
    have nd := sc_l_opened.nd
    refine ⟨_, (pss_cons (ps_set (i := 2) nd rfl (Or.inl rfl) (pe_ifExp (pt_cmpR op_lt (pv 1) (pe_b call_len T.n_len (pa_cons (pv 0) pa_nil)) (nomark _)) (pe_ix ix_list (pv 0) (pv 1) (fun _ _ => rfl)) pe_int))
      (pss_cons (ps_set (i := 3) nd rfl (Or.inl rfl) (pe_b (call_max2 rfl) T.n_max (pa_cons (pe_bt call_int1 T.n_int (pa_cons (pv 2) pa_nil)) (pa_cons (pe_bt call_int1 T.n_int (pa_cons (pe_op op_sub (pe_un un_neg pe_int) (pv 2)) pa_nil)) pa_nil))))
      (pss_one (ps_ret (pe_lst (pa_cons (pe_op op_mul (pv 3) (pe_bt call_int1 T.n_int (pa_cons (pe_cmpR op_ge (pv 3) (pe_op op_pow pe_int pe_int) (nomark _)) pa_nil))) (pa_cons (pe_op op_mod (pe_bt call_int1 T.n_int (pa_cons (pe_op op_mul (pe_op op_add (pe_op op_add (pe_op op_mod (pv 3) pe_int) (pe_op op_mul pe_int (pv 1))) pe_int) pe_int) pa_nil)) pe_int) pa_nil))))))), ?_⟩
    refine ⟨_, rfl, _, rfl, .ref a, ns.length, rfl, .inl ⟨_, hS, by rw [List.length_map]⟩, _, _, rfl, rfl, decide (i < ns.length), congrArg V.bl (decide_eq_decide.mpr (by omega)), ?_⟩
    refine ite2 (fun h => ⟨_, rfl, _, rfl, a, _, i, .int (ns[i]'(by simpa using h)), rfl, rfl, hS, atI_nat (by simp), ?_⟩) (fun h => ?_)
    all_goals
      refine ⟨_, rfl, .inl ⟨_, rfl, _, rfl, _, rfl, _, _, rfl, rfl, .inl ⟨_, rfl, _, _, rfl, ?_⟩⟩⟩
      refine ⟨_, rfl, _, rfl, _, _, rfl, rfl, ⟨by decide, by decide, by decide⟩, _, _, rfl, rfl, .inr ⟨_, rfl, _, _, rfl, rfl, .inr (b01 _), ?_⟩⟩
      refine ⟨_, rfl, _, _, rfl, rfl, (by show (0 : Int) < 2147483629; decide), _, rfl, _, _, rfl, rfl, .inl ⟨by decide, by decide⟩, _, _, rfl, rfl, _, _, rfl, rfl, _, _, rfl, rfl, .inr ⟨by decide, by decide⟩, .inl ⟨_, rfl, _, _, rfl, rfl, (by show (0 : Int) < 2147483647; decide), ?_⟩⟩
      refine ⟨(by show 2 ≤ sizeLine; decide), fun l hl => ?_⟩
      exact k l _ (same_upd hl) hl (Pool.new (Int.emod_nonneg _ (by decide)) (Int.emod_lt_of_pos _ (by decide)))
theorem u_l_draw (T : Txt K mg A) : UF P w K mg base 1 "_law_draw" ["_law_pool", "_law_many"] spDraw := by
  refine ⟨_, _, T.F_l_draw.ok sc_l_draw (fun vs H Q E h => ?_) (fun cdv A' outer s H vs Q E hr h => ?_), T.g_l_draw, T.F_l_draw.kp, T.F_l_draw.binds fun _ _ _ _ _ _ us hl => match us, hl with | [_, _], _ => rfl⟩
  · obtain ⟨a, m, rfl, _⟩ := h
    rfl
  · obtain ⟨a, m, rfl, ⟨p0, p1, ha, h1, h2⟩, m0, m1, k⟩ := h
    have nd := sc_l_draw.nd
    refine ⟨_, (pss_cons (ps_if (pt_cmpR op_gt (pe_ix ix_list (pv 0) pe_int (fun _ _ => rfl)) pe_int (nomark _)) (pss_cons (ps_set (i := 2) nd rfl (Or.inl rfl) (pe_op op_mod (pe_bt call_int1 T.n_int (pa_cons (pe_ix ix_list (pv 0) pe_int (fun _ _ => rfl)) pa_nil)) (pv 1)))
        (pss_cons (ps_asg (pe_op op_fdiv (pe_ix ix_list (pv 0) pe_int (fun _ _ => rfl)) (pv 1)) (pg_sub (pv 0) pe_int set_list))
        (pss_one (ps_ret (pv 2))))) pss_nil)
      (pss_cons (ps_asg (pe_op op_mod (pe_bt call_int1 T.n_int (pa_cons (pe_op op_add (pe_op op_mul (pe_ix ix_list (pv 0) pe_int (fun _ _ => rfl)) pe_int) pe_int) pa_nil)) pe_int) (pg_sub (pv 0) pe_int set_list))
      (pss_one (ps_ret (pe_op op_mod (pe_op op_fdiv (pe_op op_mod (pe_bt call_int1 T.n_int (pa_cons (pe_op op_mul (pe_ix ix_list (pv 0) pe_int (fun _ _ => rfl)) (pe_ix ix_list (pv 0) pe_int (fun _ _ => rfl))) pa_nil)) pe_int) pe_int) (pv 1)))))), ?_⟩
    have sbu : ∀ o, SB (fun b => b = a) H (upd H a o) := fun o b u hb hn => by rw [upd_ne hn]; exact hb
    refine ⟨_, rfl, a, _, 0, _, rfl, rfl, .of ha, atI_nat (j := 0) rfl, _, _, rfl, rfl, _, rfl, ?_⟩
    refine ite2 (fun h => ?_) (fun h => ?_)
    · refine ⟨_, rfl, a, _, 0, _, rfl, rfl, .of ha, atI_nat (j := 0) rfl, .inl ⟨_, rfl, _, rfl, _, _, rfl, rfl, m0, ?_⟩⟩
      refine ⟨_, rfl, a, _, 0, _, rfl, rfl, .of ha, atI_nat (j := 0) rfl, _, rfl, _, _, rfl, rfl, ⟨m0, by omega⟩, ?_⟩
      refine ⟨_, rfl, a, _, 0, 0, rfl, rfl, ha, rfl, ?_⟩
      exact ⟨_, rfl, k _ _ (Int.emod_nonneg _ (by omega)) (Int.emod_lt_of_pos _ m0) (sbu _) (Pool.new h1 h2)⟩
    · refine ⟨_, rfl, a, _, 1, _, rfl, rfl, .of ha, atI_nat (j := 1) rfl, _, _, rfl, rfl, .inr ⟨by decide, by decide⟩, _, _, rfl, rfl, .inl ⟨_, rfl, _, _, rfl, rfl, (by show (0 : Int) < 2147483647; decide), ?_⟩⟩
      refine ⟨_, rfl, a, _, 1, 1, rfl, rfl, ha, rfl, ?_⟩
      refine ⟨_, rfl, a, _, 1, _, rfl, rfl, .of upd_same, atI_nat (j := 1) rfl, _, rfl, a, _, 1, _, rfl, rfl, .of upd_same, atI_nat (j := 1) rfl, _, _, rfl, rfl, .inl ⟨by omega, by omega⟩, .inl ⟨_, rfl, _, _, rfl, rfl, (by show (0 : Int) < 2147483629; decide), _, _, rfl, rfl, ⟨by decide, by decide⟩, _, rfl, _, _, rfl, rfl, m0, ?_⟩⟩
      exact k _ _ (Int.emod_nonneg _ (by omega)) (Int.emod_lt_of_pos _ m0) (sbu _) (Pool.new (Int.emod_nonneg _ (by decide)) (Int.emod_lt_of_pos _ (by decide)))
theorem u_l_pick (T : Txt K mg A) : UF P w K mg base 2 "_law_pick" ["_law_pool", "_law_some"] spPick := by
  refine ⟨_, _, T.F_l_pick.ok sc_l_pick (fun vs H Q E h => ?_) (fun cdv A' outer s H vs Q E hr h => ?_), T.g_l_pick, T.F_l_pick.kp, T.F_l_pick.binds fun _ _ _ _ _ _ us hl => match us, hl with | [_, _], _ => rfl⟩
  · obtain ⟨a, m, ss, rfl, _⟩ := h
    rfl
  · obtain ⟨a, l, ss, rfl, hp, hl, hne, hlen, k⟩ := h
    have nla : l ≠ a := by
      obtain ⟨p0, p1, ha, _⟩ := hp
      refine ne_of hl ha (fun z => ?_)
      injection z with z
      cases ss with
      | nil => exact hne rfl
      | cons s r => cases z
    have hpos : 0 < ss.length := List.length_pos_iff.mpr hne
    refine ⟨_, (pss_one (ps_ret (pe_ix ix_list (pv 1) (pe_f (u_l_draw T) (hr.mono (by decide)) (pa_cons (pv 0) (pa_cons (pe_b call_len T.n_len (pa_cons (pv 1) pa_nil)) pa_nil))) (fun _ _ => rfl)))), ?_⟩
    refine ⟨_, rfl, _, rfl, _, rfl, .ref l, ss.length, rfl, .inl ⟨_, .of hl, by rw [List.length_map]⟩, a, _, rfl, hp, by omega, by omega, fun r H1 r0 r1 e1 hp1 => ?_⟩
    obtain ⟨j, rfl⟩ := Int.eq_ofNat_of_zero_le r0
    have hj : j < ss.length := by omega
    refine ⟨l, _, j, .str ss[j], rfl, rfl, .of (e1 _ _ hl nla), atI_nat (by simp [hj]), ?_⟩
    exact k _ _ (List.getElem_mem hj) e1 hp1
theorem u_l_people (T : Txt K mg A) : UF P w K mg base 2 "_law_people" ["_law_pool", "_law_many"] spLPeople := by
  refine ⟨_, _, T.F_l_people.ok sc_l_people (fun vs H Q E h => ?_) (fun cdv A' outer s H vs Q E hr h => ?_), T.g_l_people, T.F_l_people.kp, T.F_l_people.binds fun _ _ _ _ _ _ us hl => match us, hl with | [_, _], _ => rfl⟩
  · obtain ⟨a, m, rfl, _⟩ := h
    rfl
  · obtain ⟨a, n, rfl, hp, h7, k⟩ := h
    have nd := sc_l_people.nd
    refine ⟨_, (pss_cons (ps_par (i := 2) (j := 3) rfl nd rfl rfl (by decide) rfl rfl (pa_cons (pe_lst (pa_cons pe_str (pa_cons pe_str (pa_cons pe_str (pa_cons pe_str (pa_cons pe_str (pa_cons pe_str (pa_cons pe_str (pa_cons pe_str pa_nil))))))))) (pa_cons (pe_lst pa_nil) pa_nil)) (by rfl))
      (pss_cons (ps_for PassesOwn.never rfl (pi_range1 rfl T.n_range (pa_cons (pv 1) pa_nil)) (pg_name (i := 4) nd rfl (Or.inl rfl))
        (pss_one (ps_expr (pe_bm PySem.F.plainAttrs_list PySem.F.slot_list_append PySem.F.type_list_append mt_append (pv 3) (pa_cons (pe_bm PySem.F.plainAttrs_list PySem.F.slot_list_pop PySem.F.type_list_pop mt_popAt (pv 2) (pa_cons (pe_f (u_l_draw T) (hr.mono (by decide)) (pa_cons (pv 0) (pa_cons (pe_b call_len T.n_len (pa_cons (pv 2) pa_nil)) pa_nil))) pa_nil)) pa_nil)))))
      (pss_one (ps_ret (pv 3))))), ?_⟩
    refine ⟨(by show 8 ≤ sizeLine; decide), fun mn hmn => ⟨Nat.zero_le _, fun f hf => ⟨_, _, rfl, ?_⟩⟩⟩
    have e1 : Same H (upd (upd H mn (.lst (menu.map V.str))) f (.lst [])) := SB.trans' (P := fun _ => False) (same_upd hmn) (same_upd hf)
    have nfm : mn ≠ f := ne_of_none upd_same hf
    have hm1 : (upd (upd H mn (.lst (menu.map V.str))) f (.lst [])) mn = some (.lst (menu.map V.str)) := by rw [upd_ne nfm]; exact upd_same
    have hf1 : (upd (upd H mn (.lst (menu.map V.str))) f (.lst [])) f = some (.lst []) := upd_same
    have hfH : H f = none := none_of_sb (P := fun _ => False) (.of (same_upd hmn)) hf (fun z => z)
    obtain ⟨p0, p1, hpa, hpb⟩ := id hp
    have nam : a ≠ mn := ne_of_none hpa hmn
    have naf : a ≠ f := ne_of_none hpa hfH
    have hp1 := hp.stay e1
    show tSeq _ _ _ _ (upd (upd H mn (.lst (menu.map V.str))) f (.lst []))
    generalize (upd (upd H mn (.lst (menu.map V.str))) f (.lst [])) = H1 at *
    refine ⟨_, rfl, (n : Int), rfl, by omega, by omega, ?_⟩
    refine for_src (P := fun b => b = a ∨ b = mn ∨ b = f) (H1 := H1) (ds := List.range n) (R := fun _ v (i : Nat) => v = .int i) (by rw [Int.toNat_natCast]; exact src_range) (fun pre σ H' => ∃ x4, σ = [some (.ref a), some (.int n), some (.ref mn), some (.ref f), x4] ∧ SB (fun b => b = a ∨ b = mn ∨ b = f) H1 H' ∧ Pool H' a ∧ ∃ ms fs : List Str, H' mn = some (.lst (ms.map V.str)) ∧ H' f = some (.lst (fs.map V.str)) ∧ (fs ++ ms).Perm menu ∧ fs.length = pre.length)
      ⟨none, rfl, SB.refl _, hp1, menu, [], hm1, hf1, List.Perm.refl _, rfl⟩ (fun _ _ _ ⟨_, _, e, _⟩ => e) ?_ ?_
    · rintro pre d post x σ H2 H2' hsplit ⟨x4, rfl, e2, hp2, ms, fs, hm2, hf2, hperm, hfl⟩ hH2 hx
      cases hx
      obtain ⟨e2', hp2', hm2', hf2'⟩ : SB (fun b => b = a ∨ b = mn ∨ b = f) H1 H2' ∧ Pool H2' a ∧ H2' mn = some (.lst (ms.map V.str)) ∧ H2' f = some (.lst (fs.map V.str)) := by
        rcases hH2 with rfl | ⟨T0, o, hT, rfl⟩
        · exact ⟨e2, hp2, hm2, hf2⟩
        · exact ⟨e2.trans (.of (same_upd hT)), hp2.stay (same_upd hT), same_upd hT _ _ hm2, same_upd hT _ _ hf2⟩
      have hpl : pre.length < n := by have := congrArg List.length hsplit; simp at this; omega
      have hml : ms.length = 8 - fs.length := by have := hperm.length_eq; rw [List.length_append] at this; have h8 : menu.length = 8 := rfl; omega
      refine ⟨_, rfl, .inl ⟨rfl, _, .of hf2'⟩, _, rfl, .inl ⟨rfl, _, .of hm2'⟩, _, rfl, _, rfl, .ref mn, ms.length, rfl, .inl ⟨_, .of hm2', by rw [List.length_map]⟩, a, _, rfl, hp2', by omega, by omega, fun r H3 r0 r1 e3 hp3 => ?_⟩
      obtain ⟨j, rfl⟩ := Int.eq_ofNat_of_zero_le r0
      have hj : j < ms.length := by omega
      have hm3 := e3 _ _ hm2' nam.symm
      have hf3 := e3 _ _ hf2' naf.symm
      refine ⟨mn, _, j, j, .str ms[j], rfl, rfl, hm3, by omega, by omega, ?_, by simp [hj], ?_⟩
      · unfold seqIndex?
        rw [List.length_map]
        have h1 : ¬ ((j : Int) < 0) := by omega
        simp only [h1, if_false]
        have h2 : (0 : Int) ≤ (j : Int) := by omega
        have h3 : (j : Int) < (ms.length : Int) := by omega
        simp [h3]
      · refine ⟨f, _, _, rfl, rfl, by rw [upd_ne nfm.symm]; exact hf3, small1000 (by rw [List.length_map]; omega), _, rfl, fun b o hb hn => ?_, ?_, ms.eraseIdx j, fs ++ [ms[j]], ?_, ?_, ?_, by simp [hfl]⟩
        · rw [upd_ne (fun z => hn (.inr (.inr z))), upd_ne (fun z => hn (.inr (.inl z)))]
          exact e3 _ _ (e2' _ _ hb hn) (fun z => hn (.inl z))
        · obtain ⟨q0, q1, hq, hq2⟩ := hp3
          exact ⟨q0, q1, by rw [upd_ne naf, upd_ne nam]; exact hq, hq2⟩
        · rw [upd_ne nfm, upd_same, er_map]
        · rw [upd_same, List.map_append]; rfl
        · refine List.Perm.trans ?_ hperm
          rw [List.append_assoc]
          exact List.Perm.append_left _ (er_perm hj)
    · rintro σ H2 ⟨x4, rfl, e2, hp2, ms, fs, hm2, hf2, hperm, hfl⟩
      refine ⟨_, rfl, k f H2 fs (fun b o hb hn => e2 _ _ (e1 _ _ hb) (fun z => ?_)) hp2 hfH hf2 (fun p hp => hperm.mem_iff.mp (List.mem_append_left _ hp)) ?_ ?_⟩
      · rcases z with z | z | z
        · exact hn z
        · exact ne_of_none hb hmn z
        · exact ne_of_none hb hfH z
      · have : (fs ++ ms).Nodup := hperm.nodup_iff.mpr (by decide +kernel)
        exact (List.nodup_append.mp this).1
      · rw [hfl, List.length_range]
theorem pairs_snoc (ps pre : List Str) (d : Str) : (pre ++ [d]).flatMap (pairsAt ps) = pre.flatMap (pairsAt ps) ++ pairsAt ps d := by
  rw [List.flatMap_append]; simp
theorem u_l_pairs (T : Txt K mg A) : UF P w K mg base 1 "_law_pairs" ["_law_people_here"] spLPairs := by
  refine ⟨_, _, T.F_l_pairs.ok sc_l_pairs (fun vs H Q E h => ?_) (fun cdv A' outer s H vs Q E hr h => ?_), T.g_l_pairs, T.F_l_pairs.kp, T.F_l_pairs.binds fun _ _ _ _ _ _ us hl => match us, hl with | [_], _ => rfl⟩
  · obtain ⟨a, m, rfl, _⟩ := h
    rfl
  · obtain ⟨l, ps, rfl, hl, h7, k⟩ := h
    have nd := sc_l_pairs.nd
    refine ⟨_, (pss_cons (ps_set (i := 1) nd rfl (Or.inl rfl) (pe_lst pa_nil))
      (pss_cons (ps_for PassesOwn.never rfl (pi_list (pv 0)) (pg_name (i := 2) nd rfl (Or.inr rfl))
        (pss_one (ps_set (i := 1) nd rfl (Or.inl rfl) (pe_op op_cat (pv 1) (pe_lc (own := [("_law_other", 3)]) rfl nd (pi_list (pv 0)) (blkOk_by (N := n_l_pairs) (sc := defScope s_l_pairs) (by decide +kernel)) (fun _ _ _ _ _ => pg_name (i := 3) nd rfl (Or.inl rfl)) (fun _ _ _ _ _ => pts_one (pt_cmpR op_ne (pv 3) (pv 2) (nomark _))) (fun _ _ _ _ _ => (pe_tup (pa_cons (pv 2) (pa_cons (pv 3) pa_nil)))))))))
      (pss_one (ps_ret (pv 1))))), ?_⟩
    refine ⟨Nat.zero_le _, fun f hf => ?_⟩
    have e1 : Same H (upd H f (.lst [])) := same_upd hf
    refine ⟨_, rfl, l, rfl, ⟨_, .of (e1 _ _ hl)⟩, ?_⟩
    refine for_src (P := fun _ => False) (R := RS) (src_list (.of (e1 _ _ hl)) (fun z => z) (fun _ _ _ _ h => h) (paired_str ps _)) (fun pre σ H' => ∃ F x2 x3, σ = [some (.ref l), some (.ref F), x2, x3] ∧ Same (upd H f (.lst [])) H' ∧ H F = none ∧ LAt RP H' F (pre.flatMap (pairsAt ps)))
      ⟨f, none, none, rfl, fun _ _ h => h, hf, [], upd_same, .nil⟩ (fun _ _ _ ⟨_, _, _, _, e, _⟩ => .of e) ?_ ?_
    · rintro pre d post x σ H2 H2' hsplit ⟨F, x2, x3, rfl, e2, hF, hL⟩ hH2 hx
      cases hx
      have e22 : Same H2 H2' := by
        rcases hH2 with rfl | ⟨T0, o, hT, rfl⟩
        · exact fun _ _ h => h
        · exact same_upd hT
      have e2' : Same H H2' := fun b o hb => e22 _ _ (e2 _ _ (e1 _ _ hb))
      obtain ⟨acc, hacc, pr⟩ := hL.stay stays_RP e22
      have hl2 := e2' _ _ hl
      refine ⟨_, rfl, _, rfl, l, rfl, ⟨_, .of hl2⟩, fun D hD => lc_pure (R := RS) (Ro := RP) (src_list (.of hl2) (fun z => z) (fun _ _ _ _ h => h) (paired_str ps _)) hD (Nat.lt_of_le_of_lt h7 (by decide)) stays_RP (fun b => if decide (b ≠ d) = true then some (d, b) else none) ?_ ?_⟩
      · intro b x H3 acc3 Ny Nn hb e3 hacc3 hx hy hn
        cases hx
        refine ⟨rfl, _, rfl, _, rfl, rfl, _, rfl, ?_⟩
        by_cases h : b = d
        · subst h
          rw [show (!decide (V.str b = V.str b)) = false by simp]
          exact iteF (hn _ (fun _ _ h => h) (by simp))
        · rw [show (!decide (V.str b = V.str d)) = true by simp [h]]
          refine iteT ⟨_, rfl, _, rfl, (by show 2 ≤ sizeLine; decide), fun t ht => ?_⟩
          exact hy _ _ (d, b) (same_upd ht) (fun o => ⟨t, rfl, by rw [upd_ne (ne_of_none hacc3 ht).symm]; exact upd_same⟩) (by simp [h])
      · intro H3 acc3 e3 hacc3 pr3
        have hfm : ps.filterMap (fun b => if decide (b ≠ d) = true then some (d, b) else none) = pairsAt ps d := by
          unfold pairsAt
          rw [← List.filterMap_eq_map, ← List.filterMap_eq_filter, List.filterMap_filterMap]
          congr 1
          funext b
          by_cases hbz : b = d
          · simp [hbz, Option.guard]
          · simp [hbz, Option.guard]
        rw [hfm] at pr3
        have hlen : acc.length + acc3.length ≤ 7 * 7 + 7 := by
          rw [pr.length, pr3.length]
          have a1 := len_flat (f := pairsAt ps) (n := 7) (qs := pre) fun q _ => Nat.le_trans (len_pairsAt q) h7
          have a2 := len_pairsAt (ps := ps) d
          have a3 : pre.length ≤ 7 := by have := congrArg List.length hsplit; simp at this; omega
          have : pre.length * 7 ≤ 49 := by omega
          omega
        refine ⟨F, D, acc, acc3, rfl, rfl, e3 _ _ hacc, hacc3, Nat.le_of_lt (small1000 (by omega)), fun p hp => ?_⟩
        have e3p : Same H3 (upd H3 p (.lst (acc ++ acc3))) := same_upd hp
        have e23 : Same H2' (upd H3 p (.lst (acc ++ acc3))) := SB.trans' (P := fun _ => False) e3 e3p
        refine ⟨p, _, _, rfl, fun b o hb => e23 _ _ (e22 _ _ (e2 _ _ hb)), ?_, acc ++ acc3, upd_same, ?_⟩
        · exact none_of_sb (P := fun _ => False) (.of fun b o hb => e3 _ _ (e2' _ _ hb)) hp (fun z => z)
        · rw [pairs_snoc]
          exact paired_append (paired_stays stays_RP e23 pr) (paired_stays stays_RP e3p pr3)
    · rintro σ H2 ⟨F, x2, x3, rfl, e2, hF, hL⟩
      exact ⟨_, rfl, k F H2 (fun b o hb => e2 _ _ (e1 _ _ hb)) hF hL⟩
end
end Om
/-! Walks of the law's helpers: unlike, parted, readers, list. -/
namespace Om
open PySem PySem.Spec PyProof.Rows L2 OmM
theorem hu65 {A : Around} {k : Nat} (hr : Room k A) : A.units + 65 < cLine := by have := hr.un; omega
theorem slK {X : Cx} {K : PySem.W.Frag} (h : X.K = K) : SlR X (rSlL K) := h ▸ sl_list
theorem inV_int (x : Int) (ns : List Int) : inV (.int x) (ns.map V.int) = decide (x ∈ ns) := by
  unfold inV
  induction ns with
  | nil => simp
  | cons s ss ih =>
    rw [List.map_cons, List.any_cons, ih]
    show ((s == x) || _) = _
    by_cases h : s = x
    · subst h; simp
    · simp [h, show ¬ x = s from fun e => h e.symm]
theorem flat_ints (ns : List Int) : (ns.map V.int).all flatV = true := by
  rw [List.all_eq_true]
  intro v hv
  obtain ⟨s, _, rfl⟩ := List.mem_map.mp hv
  rfl
theorem paired_ints : ∀ (ns : List Int) (H : Hp), Paired (RI H) (ns.map V.int) ns
  | [], _ => .nil
  | _ :: ns, H => .cons rfl (paired_ints ns H)
/-- what stands ahead in an enumeration -/
theorem enum_split {δ : Type} {ns : List δ} {pre post : List (Nat × δ)} {d : Nat × δ} (h : (ns.zipIdx.map fun p => (p.2, p.1)) = pre ++ d :: post) : d.1 = pre.length ∧ ns[pre.length]? = some d.2 ∧ pre.map (·.2) = ns.take pre.length := by
  have h1 : (ns.zipIdx.map fun p => (p.2, p.1))[pre.length]? = some d := by rw [h]; simp
  rw [List.getElem?_map, List.getElem?_zipIdx] at h1
  cases hn : ns[pre.length]? with
  | none => rw [hn] at h1; simp at h1
  | some x =>
    rw [hn] at h1
    simp at h1
    refine ⟨by rw [← h1], by rw [← h1], ?_⟩
    have h2 : (ns.zipIdx.map fun p => (p.2, p.1)).map (·.2) = ns := by
      rw [List.map_map]
      rw [show ((fun x : Nat × δ => x.2) ∘ fun p : δ × Nat => (p.2, p.1)) = Prod.fst from rfl, List.zipIdx_map_fst]
    have h3 : pre = (ns.zipIdx.map fun p => (p.2, p.1)).take pre.length := by rw [h]; simp
    have h4 : pre.map (·.2) = ((ns.zipIdx.map fun p => (p.2, p.1)).map (·.2)).take pre.length := by rw [← List.map_take, ← h3]
    rw [h4, h2]
theorem cut_take (xs : List V) (k : Nat) : cutV xs none (some (k : Int)) = xs.take k := by
  unfold cutV
  rw [HT.sIx_none, HT.sIx_nat, List.drop_zero, Nat.sub_zero]
  rw [List.take_eq_take_iff]
  omega
def spUnlike : Sp := fun vs H Q _ => ∃ (l : Addr) (ns : List Int), vs = [.ref l] ∧ H l = some (.lst (ns.map V.int)) ∧ ns.length ≤ 7 ∧ ∀ D H', Same H H' → H D = none → H' D = some (.lst ((unl ns).map V.int)) → Q (.ref D) H'
def spParted : Sp := fun vs H Q _ => ∃ (a l : Addr) (ps : List Str), vs = [.ref a, .ref l] ∧ Pool H a ∧ H l = some (.lst (ps.map V.str)) ∧ ps.Nodup ∧ ps ≠ [] ∧ ps.length ≤ 7 ∧ ∀ D H' ls, SB (fun b => b = a) H H' → Pool H' a → H D = none → LAt RL H' D ls → Parting ps ls → ls.length ≤ 7 → Q (.ref D) H'
/-- the dict at pl holds v at k -/
def HasK (H : Hp) (pl : Addr) (k : Str) (v : V) : Prop := ∃ kvs, H pl = some (.dK kvs) ∧ valV kvs (Sum.inr k : Key) = some v
theorem HasK.get {H : Hp} {pl : Addr} {k : Str} {v : V} (h : HasK H pl k v) : DGet H pl (.str k) (some v) := by
  obtain ⟨kvs, h1, h2⟩ := h
  rw [← h2]
  exact DGet.k (k := Sum.inr k) h1
theorem HasK.stay {H H' : Hp} {pl : Addr} {k : Str} {v : V} (e : Same H H') (h : HasK H pl k v) : HasK H' pl k v := let ⟨kvs, a, b⟩ := h; ⟨kvs, e _ _ a, b⟩
def readersOf (ps : List Str) (rs : List (Str × Str)) (p : Str) : List Str := ps.filter fun q => decide ((q, p) ∈ rs)
def spReaders : Sp := fun vs H Q _ => ∃ (pl lp lr : Addr) (p : Str) (ps : List Str) (rs : List (Str × Str)), vs = [.ref pl, .str p] ∧ HasK H pl "people" (.ref lp) ∧ H lp = some (.lst (ps.map V.str)) ∧ HasK H pl "reads" (.ref lr) ∧ LAt RP H lr rs ∧ (∀ q ∈ rs, Nm q.1 ∧ Nm q.2) ∧ (∀ s ∈ ps, Nm s) ∧ Nm p ∧ ps.length ≤ 7 ∧
  ∀ D H', Same H H' → H D = none → H' D = some (.lst ((readersOf ps rs p).map V.str)) → Q (.ref D) H'
def spList : Sp := fun vs H Q _ => ∃ (pl ll : Addr) (p : Str) (ps : List Str) (ls : List (List Str)), vs = [.ref pl, .str p] ∧ HasK H pl "lists" (.ref ll) ∧ LAt RL H ll ls ∧ Parting ps ls ∧ p ∈ ps ∧ ls.length ≤ 7 ∧ ∀ m H', Same H H' → H' m = some (.lst ((listOf ls p).map V.str)) → Q (.ref m) H'
section
variable {P : Program} {w : World} {K : PySem.W.Frag} {mg : Str → Option Value} {base : Heap} {A : Adr}
theorem u_l_unlike (T : Txt K mg A) : UF P w K mg base 1 "_law_unlike" ["_law_some"] spUnlike := by
  refine ⟨_, _, T.F_l_unlike.ok sc_l_unlike (fun vs H Q E h => ?_) (fun cdv A' outer s H vs Q E hr h => ?_), T.g_l_unlike, T.F_l_unlike.kp, T.F_l_unlike.binds fun _ _ _ _ _ _ us hl => match us, hl with | [_], _ => rfl⟩
  · obtain ⟨l, ns, rfl, _⟩ := h
    rfl
  · obtain ⟨l, ns, rfl, hl, h7, k⟩ := h
    have nd := sc_l_unlike.nd
    refine ⟨_, (pss_one (ps_ret (pe_lc (own := [("_law_at", 1), ("_law_one", 2)]) (g := gTup K 2 (gCons (gName 1) (gCons (gName 2) gNil))) rfl nd (pi_enum rfl T.n_enumerate (pa_cons (pv 0) pa_nil)) (blkOk_by (N := n_l_unlike) (sc := defScope s_l_unlike) (by decide +kernel)) (fun _ _ _ _ _ => pg_tup rfl (pgs_cons (pg_name (i := 1) nd rfl (Or.inl rfl)) (pgs_cons (pg_name (i := 2) nd rfl (Or.inl rfl)) pgs_nil))) (fun _ _ _ _ _ => pts_one (pt_cmpR (op_notInK (K := K) rfl) (pv 2) (pe_slice (slK (K := K) rfl) (pv 0) po_none (po_some (pv 1))) (by rfl))) (fun _ _ _ _ _ => (pv 2))))), ?_⟩
    refine ⟨_, rfl, l, _, rfl, .of hl, fun D hD => ?_⟩
    refine lc_main (P := fun _ => False) (Ro := RI) (src_enum (R := RI) (.of hl) (fun z => z) (fun _ _ _ _ h => h) (fun _ _ _ _ _ _ h => h) (paired_ints ns _)) hD (by simp; exact Nat.lt_of_le_of_lt h7 (by decide)) (fun _ => True) (fun _ _ _ z => z.elim) (fun _ _ _ _ => trivial) trivial (fun _ _ _ _ _ _ h => h) (fun pre es => es = unl (pre.map (·.2))) rfl ?_ ?_
    · intro pre d post es x H2 acc Ny Nn hsplit hZ e2 _ hacc hx hy hn
      obtain ⟨T0, z, rfl, hT0, rfl⟩ := hx
      obtain ⟨hd1, hd2, hd3⟩ := enum_split hsplit
      have hl2 := e2.same _ _ hl
      refine ⟨T0, _, rfl, .of hT0, rfl, _, _, rfl, _, _, rfl, rfl, rfl, ?_⟩
      refine ⟨_, rfl, _, rfl, _, rfl, _, rfl, l, _, rfl, .of hl2, fun p hp => ?_⟩
      have e3 : Same H2 (upd H2 p (.lst (cutV (ns.map V.int) none (some (d.1 : Int))))) := same_upd hp
      have hcut : cutV (ns.map V.int) none (some ((d.1 : Nat) : Int)) = (ns.take pre.length).map V.int := by rw [cut_take, hd1, List.map_take]
      refine ⟨p, _, rfl, .inl (.of upd_same), rfl, by rw [hcut]; exact flat_ints _, !decide (d.2 ∈ ns.take pre.length), ?_, ?_⟩
      · show V.bl (!inV _ _) = _
        rw [hcut, inV_int]
      · rw [← hd3]
        have hstep : unl ((pre ++ [d]).map (·.2)) = if d.2 ∈ pre.map (·.2) then es else es ++ [d.2] := by
          rw [List.map_append, hZ]
          show unl (pre.map (·.2) ++ [d.2]) = _
          rw [unl_snoc]
          by_cases h : d.2 ∈ pre.map (·.2)
          · rw [if_pos h, if_pos ((mem_unl _ _).mpr h)]
          · rw [if_neg h, if_neg fun z => h ((mem_unl _ _).mp z)]
        by_cases h : d.2 ∈ pre.map (·.2)
        · rw [decide_eq_true h]
          refine iteF (hn _ (.of e3) trivial ?_)
          rw [hstep, if_pos h]
        · rw [decide_eq_false h]
          refine iteT ⟨_, rfl, hy _ _ d.2 (.of e3) trivial (fun _ => rfl) ?_⟩
          rw [hstep, if_neg h]
    · intro es H2 acc hZ e2 _ hacc pr
      rw [List.map_map] at hZ
      rw [show ((fun x : Nat × Int => x.2) ∘ fun p : Int × Nat => (p.2, p.1)) = Prod.fst from rfl, List.zipIdx_map_fst] at hZ
      refine k D H2 e2.same hD ?_
      rw [hacc, paired_int pr, hZ]
theorem len_unl (xs : List Int) : (unl xs).length ≤ xs.length := by
  refine OmM.snocInd (P := fun xs : List Int => (unl xs).length ≤ xs.length) (Nat.le_refl _) (fun xs x ih => ?_) xs
  rw [unl_snoc]
  split
  · rw [List.length_append]; omega
  · rw [List.length_append, List.length_append]; simp; omega
theorem part_enum {n : Int} : ∀ (ps : List Str) (vs : List Int) (i : Nat), ((ps.zipIdx i).map fun p => (p.2, p.1)).filterMap (fun q : Nat × Str => if decide (vs[q.1]? = some n) = true then some q.2 else none) = OmM.part (ps.zip (vs.drop i)) n
  | [], vs, i => by simp [OmM.part]
  | p :: ps, vs, i => by
    rw [List.zipIdx_cons, List.map_cons, List.filterMap_cons, part_enum ps vs (i + 1)]
    cases hv : vs[i]? with
    | none =>
      have hle : vs.length ≤ i := by simpa using hv
      have hd : vs.drop i = [] := List.drop_eq_nil_of_le hle
      have hd2 : vs.drop (i + 1) = [] := List.drop_eq_nil_of_le (by omega)
      simp [hd, hd2, OmM.part]
    | some v =>
      obtain ⟨hi, rfl⟩ := List.getElem?_eq_some_iff.mp hv
      rw [List.drop_eq_getElem_cons hi, List.zip_cons_cons]
      unfold OmM.part
      rw [List.filter_cons]
      by_cases e : vs[i] = n
      · simp [e]
      · simp [e]
theorem u_l_parted (T : Txt K mg A) : UF P w K mg base 2 "_law_parted" ["_law_pool", "_law_people_here"] spParted := by
  refine ⟨_, _, T.F_l_parted.ok sc_l_parted (fun vs H Q E h => ?_) (fun cdv A' outer s H vs Q E hr h => ?_), T.g_l_parted, T.F_l_parted.kp, T.F_l_parted.binds fun _ _ _ _ _ _ us hl => match us, hl with | [_, _], _ => rfl⟩
  · obtain ⟨l, ns, ps, rfl, _⟩ := h
    rfl
  · obtain ⟨a, l, ps, rfl, hp, hl, hnd, hne, h7, k⟩ := h
    have nd := sc_l_parted.nd
    obtain ⟨p0, p1, hpa, hpb⟩ := id hp
    have nla : l ≠ a := ne_of hl hpa (fun z => by
      injection z with z
      cases ps with
      | nil => exact hne rfl
      | cons s r => cases z)
    refine ⟨_, (pss_cons (ps_asg (pe_tup (pa_cons (pe_op op_add pe_int (pe_f (u_l_draw T) (hr.mono (by decide)) (pa_cons (pv 0) (pa_cons pe_int pa_nil)))) (pa_cons (pe_lst pa_nil) pa_nil))) (pg_tup rfl (pgs_cons (pg_name (i := 2) nd rfl (Or.inr rfl)) (pgs_cons (pg_name (i := 3) nd rfl (Or.inl rfl)) pgs_nil))))
      (pss_cons (ps_set (i := 4) nd rfl (Or.inr rfl) (pe_lc (own := [("_law_person", 5)]) rfl nd (pi_list (pv 1)) (blkOk_by (N := n_l_parted) (sc := defScope s_l_parted) (by decide +kernel)) (fun _ _ _ _ _ => pg_name (i := 5) nd rfl (Or.inl rfl)) (fun _ _ _ _ _ => pts_nil) (fun _ _ _ _ _ => (pe_f (u_l_draw T) (hr.mono (by decide)) (pa_cons (pv 0) (pa_cons (pv 2) pa_nil))))))
      (pss_cons (ps_for PassesOwn.never rfl (pi_list (pe_f (u_l_unlike T) (hr.mono (by decide)) (pa_cons (pv 4) pa_nil))) (pg_name (i := 6) nd rfl (Or.inr rfl))
        (pss_one (ps_expr (pe_bm PySem.F.plainAttrs_list PySem.F.slot_list_append PySem.F.type_list_append mt_append (pv 3) (pa_cons (pe_lc (own := [("_law_at", 7), ("_law_person", 5)]) (g := gTup K 2 (gCons (gName 7) (gCons (gName 5) gNil))) rfl nd (pi_enum rfl T.n_enumerate (pa_cons (pv 1) pa_nil)) (blkOk_by (N := n_l_parted) (sc := defScope s_l_parted) (by decide +kernel)) (fun _ _ _ _ _ => pg_tup rfl (pgs_cons (pg_name (i := 7) nd rfl (Or.inl rfl)) (pgs_cons (pg_name (i := 5) nd rfl (Or.inl rfl)) pgs_nil))) (fun _ _ _ _ _ => pts_one (pt_cmpR op_eq (pe_ix (ix_listK (K := K) rfl) (pv 4) (pv 7) (fun _ _ => rfl)) (pv 6) (nomark _))) (fun _ _ _ _ _ => (pv 5))) pa_nil)))))
      (pss_one (ps_ret (pv 3)))))), ?_⟩
    refine ⟨_, rfl, a, 3, rfl, hp, by omega, by omega, fun r H1 r0 r3 e1 hp1 => ⟨_, _, rfl, rfl, Nat.zero_le _, fun f hf => ⟨(by show 2 ≤ sizeLine; decide), fun t ht => ?_⟩⟩⟩
    refine ⟨t, _, rfl, .of upd_same, rfl, _, _, rfl, _, _, rfl, rfl, ?_⟩
    have e12 : Same H1 (upd (upd H1 f (.lst [])) t (.tup [.int (1 + r), .ref f])) := SB.trans' (P := fun _ => False) (same_upd hf) (same_upd ht)
    have ntf : f ≠ t := ne_of_none upd_same ht
    have hf2 : (upd (upd H1 f (.lst [])) t (.tup [.int (1 + r), .ref f])) f = some (.lst []) := by rw [upd_ne ntf]; exact upd_same
    generalize (upd (upd H1 f (.lst [])) t (.tup [.int (1 + r), .ref f])) = H2 at *
    have hp2 := hp1.stay e12
    have sb2 : SB (fun b => b = a) H H2 := e1.trans (.of e12)
    have naf : a ≠ f := fun z => by obtain ⟨q0, q1, hq, _⟩ := hp1; rw [z, hf] at hq; cases hq
    have hfH : H f = none := none_of_sb e1 hf naf.symm
    have hl2 : H2 l = some (.lst (ps.map V.str)) := sb2 _ _ hl nla
    have nlf : l ≠ f := ne_of_none hl hfH
    -- where everybody goes
    refine ⟨_, rfl, l, rfl, ⟨_, .of hl2⟩, fun D hD => ?_⟩
    refine lc_main (P := fun b => b = a) (R := RS) (Ro := RI) (src_list (.of hl2) nla (fun _ _ _ _ h => h) (paired_str ps _)) hD (Nat.lt_of_le_of_lt h7 (by decide)) (fun H => Pool H a) (fun H ⟨q0, q1, hq, _⟩ b hb hn => by rw [hb, hq] at hn; cases hn) (fun H H' e ⟨q0, q1, hq, h⟩ => ⟨q0, q1, by rw [e a rfl]; exact hq, h⟩) hp2 (fun _ _ _ _ _ _ h => h) (fun pre es => es.length = pre.length) rfl ?_ ?_
    · intro pre d post es x H3 acc Ny Nn hsplit hZ e3 hp3 hacc hx hy hn
      cases hx
      refine ⟨rfl, yes ⟨_, rfl, _, rfl, a, _, rfl, hp3, by omega, by omega, fun r4 H4 _ _ e4 hp4 => ?_⟩⟩
      exact hy _ _ r4 e4 hp4 (fun _ => rfl) (by simp [hZ])
    · intro vs H3 acc hZ e3 hp3 hacc pr
      have hvs := paired_int pr
      subst hvs
      have nfD : f ≠ D := ne_of_none hf2 hD
      have naD : a ≠ D := fun z => by obtain ⟨q0, q1, hq, _⟩ := hp2; rw [z, hD] at hq; cases hq
      have hf3 := e3 _ _ hf2 naf.symm
      have hl3 := e3 _ _ hl2 nla
      refine ⟨_, rfl, D, vs, rfl, hacc, by rw [hZ]; exact h7, fun U H4 e4 hU hU4 => ⟨U, rfl, ⟨_, .of hU4⟩, ?_⟩⟩
      have hf4 := e4 _ _ hf3
      have nUf : U ≠ f := (ne_of_none hf3 hU).symm
      have hp4 := hp3.stay e4
      refine for_src (P := fun b => b = f) (R := RI) (src_list (.of hU4) nUf (fun _ _ _ _ h => h) (paired_ints _ _)) (fun pre σ H' => ∃ x5 x6 x7, σ = [some (.ref a), some (.ref l), some (.int (1 + r)), some (.ref f), some (.ref D), x5, x6, x7] ∧ SB (fun b => b = f) H4 H' ∧ ∃ acc, H' f = some (.lst acc) ∧ Paired (fun v e => ∀ o, RL (upd H' f o) v e) acc (pre.map (OmM.part (ps.zip vs))))
        ⟨none, none, none, rfl, SB.refl _, [], hf4, .nil⟩ (fun _ _ _ ⟨_, _, _, _, e, _⟩ => e) ?_ ?_
      · rintro pre n post x σ H5 H5' hsplit ⟨x5, x6, x7, rfl, e5, acc, hacc5, pr5⟩ hH5 hx
        cases hx
        obtain ⟨e5', hacc5', pr5'⟩ : SB (fun b => b = f) H4 H5' ∧ H5' f = some (.lst acc) ∧ Paired (fun v e => ∀ o, RL (upd H5' f o) v e) acc (pre.map (OmM.part (ps.zip vs))) := by
          rcases hH5 with rfl | ⟨T0, o, hT, rfl⟩
          · exact ⟨e5, hacc5, pr5⟩
          · exact ⟨e5.trans (.of (same_upd hT)), same_upd hT _ _ hacc5, Paired.mono (fun v e h o => stays_RL _ _ _ _ (SB.updD (SB.of (P := fun _ => False) (same_upd hT))).same (h o)) pr5⟩
        have hl5 := e5' _ _ (e4 _ _ hl3) nlf
        have hD5 := e5' _ _ (e4 _ _ hacc) nfD.symm
        refine ⟨_, rfl, .inl ⟨rfl, _, .of hacc5'⟩, _, rfl, l, _, rfl, .of hl5, fun D6 hD6 => lc_pure (Ro := RS) (src_enum (R := RS) (.of hl5) (fun z => z) (fun _ _ _ _ h => h) (fun _ _ _ _ _ _ h => h) (paired_str ps _)) hD6 (by simp; exact Nat.lt_of_le_of_lt h7 (by decide)) stays_RS (fun q => if decide (vs[q.1]? = some n) = true then some q.2 else none) ?_ ?_⟩
        · intro d x H6 acc6 Ny Nn hd e6 hacc6 hx hy hn
          obtain ⟨T0, z, rfl, hT0, rfl⟩ := hx
          have hlt : d.1 < vs.length := by
            obtain ⟨q, hq, rfl⟩ := List.mem_map.mp hd
            have := (List.mem_zipIdx hq).2.1
            rw [hZ]
            omega
          refine ⟨T0, _, rfl, .of hT0, rfl, _, _, rfl, _, _, rfl, rfl, rfl, ?_⟩
          refine ⟨_, rfl, _, rfl, D, _, d.1, .int (vs[d.1]'hlt), rfl, rfl, .of (e6 _ _ hD5), atI_nat (by simp [hlt]), _, rfl, rfl, decide (vs[d.1]'hlt = n), by simp, ?_⟩
          by_cases h : vs[d.1]'hlt = n
          · rw [decide_eq_true h]
            exact iteT ⟨_, rfl, hy _ _ d.2 (fun _ _ h => h) (fun _ => rfl) (by simp [hlt, h])⟩
          · rw [decide_eq_false h]
            exact iteF (hn _ (fun _ _ h => h) (by simp [hlt, h]))
        · intro H6 acc6 e6 hacc6 pr6
          have hpt := part_enum (n := n) ps vs 0
          rw [List.drop_zero] at hpt
          have pr6' : Paired (RS H6) acc6 (OmM.part (ps.zip vs) n) := by rw [← hpt]; exact pr6
          have hf6 := e6 _ _ hacc5'
          have nfD6 : D6 ≠ f := (ne_of_none hacc5' hD6).symm
          refine ⟨f, acc, _, rfl, rfl, hf6, small1000 ?_, x5, some (.int n), x7, ?_, ?_, ?_⟩
          · rw [pr5'.length, List.length_map]
            have h1 := congrArg List.length hsplit
            have h2 : (unl vs).length ≤ vs.length := len_unl vs
            simp at h1
            omega
          · rfl
          · intro b o hb hn
            rw [upd_ne hn]
            exact e6 _ _ (e5' _ _ hb hn)
          · refine ⟨_, upd_same, ?_⟩
            rw [List.map_append]
            refine Paired.snoc (Paired.mono (fun v e h o => ?_) pr5') fun o => ?_
            · rw [upd_upd]
              exact stays_RL _ _ _ _ (SB.updD (SB.of (P := fun _ => False) e6)).same (h o)
            · refine ⟨D6, rfl, ?_⟩
              rw [upd_ne nfD6, upd_ne nfD6, hacc6, paired_str_eq pr6']
      · rintro σ H5 ⟨x5, x6, x7, rfl, e5, acc, hacc5, pr5⟩
        have h1 : (ps.zip vs).map (·.1) = ps := List.map_fst_zip (by omega)
        have h2 : (ps.zip vs).map (·.2) = vs := List.map_snd_zip (by omega)
        have hpart := parting_parted (zs := ps.zip vs) (by rw [h1]; exact hnd)
        rw [h1] at hpart
        have hpd : parted (ps.zip vs) = (unl vs).map (OmM.part (ps.zip vs)) := by
          show (unl ((ps.zip vs).map (·.2))).map _ = _
          rw [h2]
        rw [hpd] at hpart
        refine ⟨_, rfl, k f H5 ((unl vs).map (OmM.part (ps.zip vs))) ?_ ?_ hfH ⟨acc, hacc5, Paired.mono (fun v e h => ?_) pr5⟩ hpart (by rw [List.length_map]; have := len_unl vs; omega)⟩
        · intro b o hb hn
          exact e5 _ _ (e4 _ _ (e3 _ _ (sb2 _ _ hb hn) hn)) (ne_of_none hb hfH)
        · obtain ⟨q0, q1, hq, hq2⟩ := hp4
          exact ⟨q0, q1, e5 _ _ hq naf, hq2⟩
        · have := h (.lst acc)
          rw [upd_id hacc5] at this
          exact this
theorem u_l_readers (T : Txt K mg A) : UF P w K mg base 1 "_law_readers" ["_law_plan_here", "_law_person"] spReaders := by
  refine ⟨_, _, T.F_l_readers.ok sc_l_readers (fun vs H Q E h => ?_) (fun cdv A' outer s H vs Q E hr h => ?_), T.g_l_readers, T.F_l_readers.kp, T.F_l_readers.binds fun _ _ _ _ _ _ us hl => match us, hl with | [_, _], _ => rfl⟩
  · obtain ⟨pl, lp, lr, p, ps, rs, rfl, _⟩ := h
    rfl
  · obtain ⟨pl, lp, lr, p, ps, rs, rfl, h1, h2, h3, h4, hN, hNp, hp, h7, k⟩ := h
    have nd := sc_l_readers.nd
    have hu := hu_of hr
    refine ⟨_, (pss_one (ps_ret (pe_lc (own := [("_law_one", 2)]) rfl nd (pi_list (pe_dget hu (pv 0) pe_str (fun _ _ => rfl))) (blkOk_by (N := n_l_readers) (sc := defScope s_l_readers) (by decide +kernel)) (fun _ _ _ _ _ => pg_name (i := 2) nd rfl (Or.inl rfl)) (fun _ _ _ _ _ => pts_one (pt_cmpR (inDK (K := K) rfl (hu65 hr)) (pe_tup (pa_cons (pv 2) (pa_cons (pv 1) pa_nil))) (pe_dget hu (pv 0) pe_str (fun _ _ => rfl)) (by rfl))) (fun _ _ _ _ _ => (pv 2))))), ?_⟩
    refine ⟨_, rfl, pl, _, rfl, h1.get, lp, rfl, ⟨_, .of h2⟩, fun D hD => lc_pure (R := RS) (Ro := RS) (src_list (.of h2) (fun z => z) (fun _ _ _ _ h => h) (paired_str ps _)) hD (Nat.lt_of_le_of_lt h7 (by decide)) stays_RS (fun q => if decide ((q, p) ∈ rs) = true then some q else none) ?_ ?_⟩
    · intro d x H3 acc Ny Nn hd e3 hacc hx hy hn
      cases hx
      refine ⟨rfl, _, rfl, _, rfl, (by show 2 ≤ sizeLine; decide), fun t ht => ?_⟩
      have e4 : Same H3 (upd H3 t (.tup [.str d, .str p])) := same_upd ht
      have e14 := SB.trans' (P := fun _ => False) e3 e4
      refine ⟨_, rfl, pl, _, rfl, (h3.stay e14).get, dP (d, p), rs.map dP, dp_pair ⟨t, rfl, upd_same⟩, dp_pairs (h4.stay stays_RP e14), shaped_dP (hNp _ hd) hp, shaped_pairs hN, decide ((d, p) ∈ rs), by rw [any_dP], ?_⟩
      by_cases h : (d, p) ∈ rs
      · rw [decide_eq_true h]
        exact iteT ⟨_, rfl, hy _ _ d e4 (fun _ => rfl) (by simp [h])⟩
      · rw [decide_eq_false h]
        exact iteF (hn _ e4 (by simp [h]))
    · intro H3 acc e3 hacc pr
      rw [fm_if] at pr
      exact k D H3 e3 hD (LAt.str ⟨acc, hacc, pr⟩)
theorem u_l_list (T : Txt K mg A) : UF P w K mg base 1 "_law_list" ["_law_plan_here", "_law_person"] spList := by
  refine ⟨_, _, T.F_l_list.ok sc_l_list (fun vs H Q E h => ?_) (fun cdv A' outer s H vs Q E hr h => ?_), T.g_l_list, T.F_l_list.kp, T.F_l_list.binds fun _ _ _ _ _ _ us hl => match us, hl with | [_, _], _ => rfl⟩
  · obtain ⟨pl, ll, p, ps, ls, rfl, _⟩ := h
    rfl
  · obtain ⟨pl, ll, p, ps, ls, rfl, h1, ⟨vs, h2, h3⟩, hP, hp, h7, k⟩ := h
    have nd := sc_l_list.nd
    have hu := hu_of hr
    refine ⟨_, (pss_one (ps_ret (pe_ix ix_list (pe_lc (own := [("_law_members", 2)]) rfl nd (pi_list (pe_dget hu (pv 0) pe_str (fun _ _ => rfl))) (blkOk_by (N := n_l_list) (sc := defScope s_l_list) (by decide +kernel)) (fun _ _ _ _ _ => pg_name (i := 2) nd rfl (Or.inl rfl)) (fun _ _ _ _ _ => pts_one (pt_cmpR (op_inK (K := K) rfl) (pv 1) (pv 2) (by rfl))) (fun _ _ _ _ _ => (pv 2))) pe_int (fun _ _ => rfl)))), ?_⟩
    refine ⟨_, rfl, pl, _, rfl, h1.get, ll, rfl, ⟨_, .of h2⟩, fun D hD => lc_pure (R := RLn D) (Ro := RL) (src_list (.of h2) (fun z => z) (fun _ _ _ e h => ⟨stays_RL _ _ _ _ e.same h.1, h.2⟩) (paired_RLn hD h3)) hD (Nat.lt_of_le_of_lt h7 (by decide)) stays_RL (fun one => if decide (p ∈ one) = true then some one else none) ?_ ?_⟩
    · intro d x H2 acc Ny Nn hd e2 hacc hx hy hn
      obtain ⟨⟨q, rfl, hq⟩, hnq⟩ := hx
      refine ⟨rfl, _, rfl, _, rfl, q, _, rfl, .inl (.of hq), rfl, flat_strs _, _, congrArg V.bl (inV_str p d), ?_⟩
      by_cases h : p ∈ d
      · rw [decide_eq_true h]
        exact iteT ⟨_, rfl, hy _ _ d (fun _ _ h => h) (fun o => ⟨q, rfl, by rw [upd_ne (hnq q rfl)]; exact hq⟩) (by simp [h])⟩
      · rw [decide_eq_false h]
        exact iteF (hn _ (fun _ _ h => h) (by simp [h]))
    · intro H2 acc e2 hacc pr
      rw [fm_if] at pr
      obtain ⟨rest, hrest⟩ := hP.listOf_some hp
      rw [hrest] at pr
      cases pr with
      | cons hv ht =>
        obtain ⟨m, rfl, hm⟩ := hv
        exact ⟨D, _, 0, .ref m, rfl, rfl, .of hacc, atI_nat (j := 0) rfl, k m _ e2 hm⟩
end
end Om
/-! Walk: the plan of the law. -/
namespace Om
open PySem PySem.Spec PyProof.Rows L2 OmM
/-- the dict at pl, with what it is known to hold -/
def DF (H : Hp) (pl : Addr) (n : Nat) (fx : List (Str × V)) : Prop := ∃ kvs, H pl = some (.dK kvs) ∧ kvs.length ≤ n ∧ ∀ k v, fx.lookup k = some v → valV kvs (Sum.inr k : Key) = some v
theorem DF.has {H : Hp} {pl : Addr} {n : Nat} {fx : List (Str × V)} (h : DF H pl n fx) {k : Str} {v : V} (e : fx.lookup k = some v) : HasK H pl k v := let ⟨kvs, a, _, c⟩ := h; ⟨kvs, a, c k v e⟩
theorem DF.keep {P : Addr → Prop} {H H' : Hp} {pl : Addr} {n : Nat} {fx : List (Str × V)} (e : SB P H H') (hn : ¬ P pl) (h : DF H pl n fx) : DF H' pl n fx := let ⟨kvs, a, b, c⟩ := h; ⟨kvs, e _ _ a hn, b, c⟩
theorem DF.stay {H H' : Hp} {pl : Addr} {n : Nat} {fx : List (Str × V)} (e : Same H H') (h : DF H pl n fx) : DF H' pl n fx := let ⟨kvs, a, b, c⟩ := h; ⟨kvs, e _ _ a, b, c⟩
theorem DF.put {H : Hp} {pl : Addr} {n : Nat} {fx : List (Str × V)} (h : DF H pl n fx) (hn : n < 1000) (k : Str) (v : V) : ∃ kvs', DPut H pl (.str k) v (upd H pl (.dK kvs')) ∧ DF (upd H pl (.dK kvs')) pl (n + 1) ((k, v) :: fx) := by
  obtain ⟨kvs, h1, h2, h3⟩ := h
  refine ⟨putK kvs (Sum.inr k) v, DPut.k (k := Sum.inr k) h1 (small1000 (by omega)), _, upd_same, ?_, fun k' v' e => ?_⟩
  · have : (putK kvs (Sum.inr k : Key) v).length ≤ kvs.length + 1 := by
      unfold putK
      split
      · rw [List.length_map]; omega
      · simp
    omega
  · rw [valV_put]
    by_cases hk : k' = k
    · subst hk
      rw [lk_same] at e
      cases e
      rw [if_pos rfl]
    · rw [lk_ne (by simpa using hk)] at e
      rw [if_neg (by simpa using hk)]
      exact h3 _ _ e
theorem DF.put2 {G : Hp} {pl : Addr} {n : Nat} {fx : List (Str × V)} {kvs : List (Key × V)} (k : Str) (v : V) (h : DF (upd G pl (.dK kvs)) pl n fx) : DF (upd G pl (.dK (putK kvs (Sum.inr k) v))) pl (n + 1) ((k, v) :: fx) := by
  obtain ⟨kvs0, h1, h2, h3⟩ := h
  rw [upd_same] at h1
  cases h1
  refine ⟨_, upd_same, ?_, fun k' v' e => ?_⟩
  · have : (putK kvs (Sum.inr k : Key) v).length ≤ kvs.length + 1 := by
      unfold putK
      split
      · rw [List.length_map]; omega
      · simp
    omega
  · rw [valV_put]
    by_cases hk : k' = k
    · subst hk
      rw [lk_same] at e
      cases e
      rw [if_pos rfl]
    · rw [lk_ne (by simpa using hk)] at e
      rw [if_neg (by simpa using hk)]
      exact h3 _ _ e
theorem SB.imp {P P' : Addr → Prop} {H H' : Hp} (e : SB P H H') (h : ∀ b, P b → P' b) : SB P' H H' := fun b o hb hn => e b o hb fun z => hn (h b z)
theorem sb_upd {P : Addr → Prop} {H : Hp} {a : Addr} {o : HO} (h : P a) : SB P H (upd H a o) := fun b u hb hn => by
  rw [upd_ne (fun z : b = a => hn (by rw [z]; exact h))]; exact hb
theorem Pool.at {P : Addr → Prop} {H H' : Hp} {a : Addr} (e : SB P H H') (hn : ¬ P a) (h : Pool H a) : Pool H' a := let ⟨p, q, h1, h2⟩ := h; ⟨p, q, e _ _ h1 hn, h2⟩
theorem DF.dk {H : Hp} {pl : Addr} {n : Nat} {fx : List (Str × V)} (h : DF H pl n fx) : ∃ kvs, H pl = some (.dK kvs) := let ⟨kvs, a, _⟩ := h; ⟨kvs, a⟩
structure PlanAt (H : Hp) (pl : Addr) (ps : List Str) (mo : Int) (t : Str) (z : Int) (ls : List (List Str)) (rs : List (Str × Str)) (g : Str) (pz : Int) : Prop where
  people : ∃ lp, HasK H pl "people" (.ref lp) ∧ H lp = some (.lst (ps.map V.str))
  most : HasK H pl "most" (.int mo)
  turn : HasK H pl "turn" (.str t)
  trim : HasK H pl "trim" (.int z)
  lists : ∃ ll, HasK H pl "lists" (.ref ll) ∧ LAt RL H ll ls
  reads : ∃ lr, HasK H pl "reads" (.ref lr) ∧ LAt RP H lr rs
  gather : HasK H pl "gather" (.str g)
  prizes : HasK H pl "prizes" (.int pz)
structure Ok (ps : List Str) (mo : Int) (t : Str) (z : Int) (ls : List (List Str)) (rs : List (Str × Str)) (g : Str) (pz : Int) : Prop where
  good : Good ps ls rs
  n1 : 1 ≤ ps.length
  m1 : 1 ≤ mo
  m10 : mo ≤ 10
  turn : t ∈ turns
  gather : gatherOk t g
  trim : trimOk g z
  readers : ∀ one ∈ ls, 1 < one.length → ∀ m ∈ one, 2 * z < (cnt rs m : Nat)
  p0 : 0 ≤ pz
  p8 : pz ≤ 8
def spPlan : Sp := fun vs H Q _ => ∃ (a mt : Addr), vs = [.ref a, .int 1, .int 7, .int 10, .ref mt] ∧ Pool H a ∧ H mt = some (.lst (turns.map V.str)) ∧ ∀ pl H' ps mo t z ls rs g pz, SB (fun b => b = a) H H' → PlanAt H' pl ps mo t z ls rs g pz → Ok ps mo t z ls rs g pz → Q (.ref pl) H'
theorem RP.keep {P : Addr → Prop} {H H' : Hp} (e : SB P H H') (hn : ∀ b xs, H b = some (.tup xs) → ¬ P b) {v : V} {d : Str × Str} (h : RP H v d) : RP H' v d := let ⟨q, a, b⟩ := h; ⟨q, a, e _ _ b (hn _ _ b)⟩
/-- lists of people that are no pool, no dict -/
theorem lists_keep {P : Addr → Prop} {H H' : Hp} {a pl ll : Addr} {n : Nat} {fx : List (Str × V)} {ls : List (List Str)} (e : SB P H H') (hP : ∀ b, P b → b = a ∨ b = pl) (hp : Pool H a) (hd : DF H pl n fx) (hne : ∀ one ∈ ls, one ≠ []) (hn : ls ≠ []) (h : LAt RL H ll ls) : LAt RL H' ll ls := by
  obtain ⟨vs, h1, h2⟩ := h
  obtain ⟨p0, p1, hpa, _⟩ := hp
  obtain ⟨kvs, hk⟩ := hd.dk
  refine ⟨vs, e _ _ h1 (fun z => ?_), ?_⟩
  · rcases hP _ z with rfl | rfl
    · rw [hpa] at h1
      cases h1
      cases h2 with
      | cons hv _ => obtain ⟨q, hq, _⟩ := hv; cases hq
    · rw [hk] at h1
      cases h1
  · have : ∀ {vs : List V} {ls : List (List Str)}, (∀ one ∈ ls, one ≠ []) → Paired (RL H) vs ls → Paired (RL H') vs ls := by
      intro vs ls hne p
      induction p with
      | nil => exact .nil
      | cons hv _ ih =>
        rename_i v d vs' ds' ht
        refine .cons ?_ (ih fun o ho => hne o (List.mem_cons_of_mem _ ho))
        obtain ⟨q, rfl, hq⟩ := hv
        refine ⟨q, rfl, e _ _ hq fun z => ?_⟩
        rcases hP _ z with rfl | rfl
        · rw [hpa] at hq
          injection hq with hq
          injection hq with hq
          have := hne d List.mem_cons_self
          cases d with
          | nil => exact this rfl
          | cons s r => cases hq
        · rw [hk] at hq
          cases hq
    exact this hne h2
theorem par_ne {ps : List Str} {ls : List (List Str)} (x : Parting ps ls) (h : ps ≠ []) : ls ≠ [] := by
  intro z
  have := x.perm.length_eq
  rw [z] at this
  exact h (List.length_eq_zero_iff.mp (by simpa using this.symm))
/-- a list of people off the addresses Z -/
def RLz (Z : Addr → Prop) : Rel (List Str) := fun H v d => RL H v d ∧ ∀ q, v = .ref q → ¬ Z q
theorem RLz.keep {Z P : Addr → Prop} {H H' : Hp} (e : SB P H H') (hP : ∀ b, P b → Z b) {v : V} {d : List Str} (h : RLz Z H v d) : RLz Z H' v d := by
  obtain ⟨⟨q, a, b⟩, n⟩ := h
  exact ⟨⟨q, a, e _ _ b fun z => n q a (hP _ z)⟩, n⟩
theorem lists_sep {H : Hp} {a pl ll D : Addr} {n : Nat} {fx : List (Str × V)} {ls : List (List Str)} (hp : Pool H a) (hd : DF H pl n fx) (hD : H D = none) (hne : ∀ one ∈ ls, one ≠ []) (hn : ls ≠ []) (h : LAt RL H ll ls) :
    ∃ vs, H ll = some (.lst vs) ∧ Paired (RLz (fun b => b = a ∨ b = pl ∨ b = D) H) vs ls ∧ ¬ (ll = a ∨ ll = pl ∨ ll = D) := by
  obtain ⟨vs, h1, h2⟩ := h
  obtain ⟨p0, p1, hpa, _⟩ := hp
  obtain ⟨kvs, hk⟩ := hd.dk
  refine ⟨vs, h1, ?_, ?_⟩
  · have : ∀ {vs : List V} {ls : List (List Str)}, (∀ one ∈ ls, one ≠ []) → Paired (RL H) vs ls → Paired (RLz (fun b => b = a ∨ b = pl ∨ b = D) H) vs ls := by
      intro vs ls hne p
      induction p with
      | nil => exact .nil
      | cons hv _ ih =>
        rename_i v d vs' ds' ht
        refine .cons ?_ (ih fun o ho => hne o (List.mem_cons_of_mem _ ho))
        obtain ⟨q, rfl, hq⟩ := hv
        refine ⟨⟨q, rfl, hq⟩, fun q' hq' z => ?_⟩
        cases hq'
        rcases z with rfl | rfl | rfl
        · rw [hpa] at hq
          injection hq with hq
          injection hq with hq
          have := hne d List.mem_cons_self
          cases d with
          | nil => exact this rfl
          | cons s r => cases hq
        · rw [hk] at hq
          cases hq
        · rw [hD] at hq
          cases hq
    exact this hne h2
  · rintro (rfl | rfl | rfl)
    · rw [hpa] at h1
      cases h1
      cases h2 with
      | cons hv _ => obtain ⟨q, hq, _⟩ := hv; cases hq
    · rw [hk] at h1
      cases h1
    · rw [hD] at h1
      cases h1
theorem dp_ints {K : PySem.W.Frag} {H : Hp} {a : Addr} {ns : List Int} (h : H a = some (.lst (ns.map V.int))) : Dp K H (.ref a) (.list (ns.map .int)) := by
  refine .lst (.of h) ?_
  clear h
  induction ns with
  | nil => exact .nil
  | cons n ns ih => exact .cons (.int n) ih
theorem sh_ints (ns : List Int) : SeqAt.shaped (.list (ns.map .int)) = true := by
  have h1 : PyData.canLayAll0 (ns.map .int) = true := by
    induction ns with
    | nil => simp [PyData.canLayAll0]
    | cons n ns ih => simp [PyData.canLayAll0, PyData.canLay0, ih]
  have h2 : PyData.depthAll (ns.map .int) = 0 := by
    induction ns with
    | nil => simp [PyData.depthAll]
    | cons n ns ih => simp [PyData.depthAll, PyData.depth] at h1 ⊢
                      exact ih (by simp [PyData.canLayAll0, PyData.canLay0] at h1; exact h1)
  exact shaped_of (by simp only [PyData.canLay0]; exact h1) (by simp only [PyData.depth, h2]; omega)
theorem lkn {x y : Str} {u v : V} {r : List (Str × V)} (h : (y == x) = false) (e : r.lookup y = some v) : ((x, u) :: r).lookup y = some v := (lk_ne h).trans e
theorem uniq {p : Str} {a b : List Str} : ∀ {ls : List (List Str)}, ls.flatten.Nodup → a ∈ ls → b ∈ ls → p ∈ a → p ∈ b → a = b
  | c :: r, h, ha, hb, pa, pb => by
    rw [List.flatten_cons] at h
    obtain ⟨h1, h2, h3⟩ := List.nodup_append.mp h
    rcases List.mem_cons.mp ha with ea | ha'
    · rcases List.mem_cons.mp hb with eb | hb'
      · rw [ea, eb]
      · exact absurd rfl (h3 p (ea ▸ pa) p (List.mem_flatten.mpr ⟨b, hb', pb⟩))
    · rcases List.mem_cons.mp hb with eb | hb'
      · exact absurd rfl (h3 p (eb ▸ pb) p (List.mem_flatten.mpr ⟨a, ha', pa⟩))
      · exact uniq h2 ha' hb' pa pb
theorem listOf_eq {ps : List Str} {ls : List (List Str)} (x : Parting ps ls) (nd : ps.Nodup) {p : Str} {one : List Str} (h : one ∈ ls) (hp : p ∈ one) : listOf ls p = one := by
  obtain ⟨h1, h2⟩ := x.listOf_mem (x.mem h hp)
  exact uniq (x.perm.nodup_iff.mpr nd) h1 h h2 hp
def todo (one : List Str) : List Str := if 1 < one.length then one else []
theorem eqv_ints (ns : List Int) : PyData.eqv (.list (ns.map .int)) (.list []) = decide (ns = []) := by
  cases ns with
  | nil => simp [PyData.eqv, PyData.eqvAll]
  | cons n ns => simp [PyData.eqv, PyData.eqvAll]
section
variable {P : Program} {w : World} {K : PySem.W.Frag} {mg : Str → Option Value} {base : Heap} {A : Adr}
theorem u_l_plan (T : Txt K mg A) : UF P w K mg base 3 "_law_plan" ["_law_pool", "_law_least", "_law_many", "_law_top", "_law_menu"] spPlan := by
  refine ⟨_, _, T.F_l_plan.ok sc_l_plan (fun vs H Q E h => ?_) (fun cdv A' outer s H vs Q E hr h => ?_), T.g_l_plan, T.F_l_plan.kp, T.F_l_plan.binds fun _ _ _ _ _ _ us hl => match us, hl with | [_, _, _, _, _], _ => rfl⟩
  · obtain ⟨a, mt, rfl, _⟩ := h
    rfl
  · obtain ⟨a, mt, rfl, hp, hmt, k⟩ := h
    have nd := sc_l_plan.nd
    have hu := hu_of hr
    have hu65' := hu65 hr
    refine ⟨_, (pss_cons (ps_set (i := 5) nd rfl (Or.inl rfl) (pe_f (u_l_people T) (hr.mono (by decide)) (pa_cons (pv 0) (pa_cons (pe_op op_add (pv 1) (pe_f (u_l_draw T) (hr.mono (by decide)) (pa_cons (pv 0) (pa_cons (pe_op op_add (pe_op op_sub (pv 2) (pv 1)) pe_int) pa_nil)))) pa_nil))))
      (pss_cons (ps_set (i := 6) nd rfl (Or.inr rfl) (pe_disp (pps_cons pe_str (pv 5) (pps_cons pe_str (pe_op op_add pe_int (pe_f (u_l_draw T) (hr.mono (by decide)) (pa_cons (pv 0) (pa_cons (pv 3) pa_nil)))) (pps_cons pe_str (pe_f (u_l_pick T) (hr.mono (by decide)) (pa_cons (pv 0) (pa_cons (pv 4) pa_nil))) (pps_cons pe_str pe_int pps_nil)))) (by rfl) (by rfl) (fun z => by cases z) (by decide)))
      (pss_cons (ps_asg (pe_tup (pa_cons (pe_f (u_l_parted T) (hr.mono (by decide)) (pa_cons (pv 0) (pa_cons (pv 5) pa_nil))) (pa_cons (pe_op op_add pe_int (pe_f (u_l_draw T) (hr.mono (by decide)) (pa_cons (pv 0) (pa_cons pe_int pa_nil)))) pa_nil))) (pg_tup rfl (pgs_cons (pg_sub (pv 6) pe_str (set_dict hu) (by intro _; rfl)) (pgs_cons (pg_name (i := 7) nd rfl (Or.inr rfl)) pgs_nil))))
      (pss_cons (ps_dput hu (pv 6) pe_str (pe_lc (own := [("_law_pair", 8)]) rfl nd (pi_list (pe_f (u_l_pairs T) (hr.mono (by decide)) (pa_cons (pv 5) pa_nil))) (blkOk_by (N := n_l_plan) (sc := defScope s_l_plan) (by decide +kernel)) (fun _ _ _ _ _ => pg_name (i := 8) nd rfl (Or.inl rfl)) (fun _ _ _ _ _ => pts_one (pt_cmpR op_gt (pe_f (u_l_draw T) (hr.mono (by decide)) (pa_cons (pv 0) (pa_cons (pe_op op_add pe_int (pv 7)) pa_nil))) pe_int (nomark _))) (fun _ _ _ _ _ => (pv 8))) rfl)
      (pss_cons (ps_for PassesOwn.never rfl (pi_list (pe_dget hu (pv 6) pe_str (fun _ _ => rfl))) (pg_name (i := 9) nd rfl (Or.inl rfl))
        (pss_one (ps_for PassesOwn.never rfl (pi_list (pe_ifExp (pt_cmpR op_gt (pe_b call_len T.n_len (pa_cons (pv 9) pa_nil)) pe_int (nomark _)) (pv 9) (pe_lst pa_nil))) (pg_name (i := 10) nd rfl (Or.inr rfl))
          (pss_one (ps_if (pt_cmpR (op_eqD hr.units) (pe_f (u_l_readers T) (hr.mono (by decide)) (pa_cons (pv 6) (pa_cons (pv 10) pa_nil))) (pe_lst pa_nil) (nomark _)) (pss_one (ps_expr (pe_bm PySem.F.plainAttrs_list PySem.F.slot_list_append PySem.F.type_list_append mt_append (pe_dget hu (pv 6) pe_str (fun _ _ => rfl)) (pa_cons (pe_tup (pa_cons (pe_f (u_l_pick T) (hr.mono (by decide)) (pa_cons (pv 0) (pa_cons (pe_lc (own := [("_law_one", 11)]) rfl nd (pi_list (pv 5)) (blkOk_by (N := n_l_plan) (sc := defScope s_l_plan) (by decide +kernel)) (fun _ _ _ _ _ => pg_name (i := 11) nd rfl (Or.inl rfl)) (fun _ _ _ _ _ => pts_one (pt_cmpR op_ne (pv 11) (pv 10) (nomark _))) (fun _ _ _ _ _ => (pv 11))) pa_nil))) (pa_cons (pv 10) pa_nil))) pa_nil)))) pss_nil)))))
      (pss_cons (ps_dput hu (pv 6) pe_str (pe_lc (own := [("_law_pair", 8)]) rfl nd (pi_list (pe_f (u_l_pairs T) (hr.mono (by decide)) (pa_cons (pv 5) pa_nil))) (blkOk_by (N := n_l_plan) (sc := defScope s_l_plan) (by decide +kernel)) (fun _ _ _ _ _ => pg_name (i := 8) nd rfl (Or.inl rfl)) (fun _ _ _ _ _ => pts_one (pt_cmpR (inDK (K := K) rfl hu65') (pv 8) (pe_dget hu (pv 6) pe_str (fun _ _ => rfl)) (by rfl))) (fun _ _ _ _ _ => (pv 8))) rfl)
      (pss_cons (ps_set (i := 12) nd rfl (Or.inl rfl) (pe_slice sl_list (pe_lst (pa_cons pe_str (pa_cons pe_str (pa_cons pe_str (pa_cons pe_str (pa_cons pe_str (pa_cons pe_str pa_nil))))))) po_none (po_some (pe_ifExp (pt_cmpR op_eq (pe_dget hu (pv 6) pe_str (fun _ _ => rfl)) pe_str (nomark _)) pe_int pe_int))))
      (pss_cons (ps_asg (pe_tup (pa_cons (pe_f (u_l_pick T) (hr.mono (by decide)) (pa_cons (pv 0) (pa_cons (pv 12) pa_nil))) (pa_cons (pe_f (u_l_draw T) (hr.mono (by decide)) (pa_cons (pv 0) (pa_cons (pe_op op_add (pe_b call_len T.n_len (pa_cons (pv 5) pa_nil)) pe_int) pa_nil))) pa_nil))) (pg_tup rfl (pgs_cons (pg_sub (pv 6) pe_str (set_dict hu) (by intro _; rfl)) (pgs_cons (pg_sub (pv 6) pe_str (set_dict hu) (by intro _; rfl)) pgs_nil))))
      (pss_cons (ps_if (pt_cmpR op_eq (pe_dget hu (pv 6) pe_str (fun _ _ => rfl)) pe_str (nomark _)) (pss_cons (ps_setLc (i := 13) (own := [("_law_one", 11)]) rfl nd rfl rfl (sw_true rfl rfl rfl (by decide +kernel)) (pi_list (pv 5)) (blkOk_by (N := n_l_plan) (sc := defScope s_l_plan) (by decide +kernel)) (fun _ _ _ _ _ => pg_name (i := 11) nd rfl (Or.inl rfl)) (fun _ _ _ _ _ => pts_one (pt_cmpR op_gt (pe_b (lenK (K := K) rfl) T.n_len (pa_cons (pe_f (u_l_list T) (hr.mono (by decide)) (pa_cons (pv 6) (pa_cons (pv 11) pa_nil))) pa_nil)) pe_int (nomark _))) (fun _ _ _ _ _ => (pe_b (lenK (K := K) rfl) T.n_len (pa_cons (pe_f (u_l_readers T) (hr.mono (by decide)) (pa_cons (pv 6) (pa_cons (pv 11) pa_nil))) pa_nil))))
        (pss_cons (ps_dput hu (pv 6) pe_str (pe_ifExp (pt_cmpR (op_eqD hr.units) (pv 13) (pe_lst pa_nil) (nomark _)) pe_int (pe_b (call_min2 rfl) T.n_min (pa_cons pe_int (pa_cons (pe_bt call_int1 T.n_int (pa_cons (pe_op op_fdiv (pe_op op_sub (pe_b (cr_min rfl) T.n_min (pa_cons (pe_op op_cat (pe_lst (pa_cons pe_int pa_nil)) (pv 13)) pa_nil)) pe_int) pe_int) pa_nil)) pa_nil)))) rfl)
        (pss_one (ps_dput hu (pv 6) pe_str (pe_ifExp (pt_cmpR op_gt (pe_dget hu (pv 6) pe_str (fun _ _ => rfl)) pe_int (nomark _)) pe_str pe_str) rfl)))) pss_nil)
      (pss_one (ps_ret (pv 6)))))))))))), ?_⟩
    have nmt : mt ≠ a := by
      obtain ⟨p0, p1, hpa, _⟩ := hp
      exact ne_of hmt hpa (fun z => by injection z with z; cases z)
    -- the people
    refine ⟨_, rfl, _, rfl, _, rfl, _, rfl, _, rfl, _, _, rfl, rfl, _, _, rfl, rfl, a, _, rfl, hp, by omega, by omega, fun r H1 r0 r7 e1 hp1 => ⟨_, _, rfl, rfl, a, r.toNat + 1, congrArg (fun z => [V.ref a, V.int z]) (by omega), hp1, by omega, fun lp H2 ps e2 hp2 hlp hlp2 hN hnd hlen => ?_⟩⟩
    have hne : ps ≠ [] := fun z => by rw [z] at hlen; simp at hlen
    have h7 : ps.length ≤ 7 := by omega
    have sb2 : SB (fun b => b = a) H H2 := e1.trans e2
    -- the dict
    intro pl hpl
    have h3 := same_upd (o := .dK []) hpl
    refine ⟨_, rfl, _, rfl, _, rfl, a, _, rfl, hp2.stay h3, by omega, by omega, fun mo H4 m0 m10 e4 hp4 => ⟨_, _, rfl, rfl, ?_⟩⟩
    have hmt4 : H4 mt = some (.lst (turns.map V.str)) := e4 _ _ (h3 _ _ (sb2 _ _ hmt nmt)) nmt
    refine ⟨_, rfl, _, rfl, a, mt, turns, rfl, hp4, hmt4, (by decide), (by decide), fun t H5 ht e5 hp5 => ?_⟩
    have hpl5 : H5 pl = some (.dK []) := by
      have na : pl ≠ a := fun z => by obtain ⟨q0, q1, hq, _⟩ := hp2; rw [z, hq] at hpl; cases hpl
      exact e5 _ _ (e4 _ _ upd_same na) na
    have npa : pl ≠ a := fun z => by obtain ⟨q0, q1, hq, _⟩ := hp2; rw [z, hq] at hpl; cases hpl
    refine ⟨hpl5, [(Sum.inr "people", .ref lp), (Sum.inr "most", .int (1 + mo)), (Sum.inr "turn", .str t), (Sum.inr "trim", .int 0)], rfl, (by show 4 ≤ 15; decide), ?_⟩
    have hdf : DF (upd H5 pl (.dK (mergeK [] [(Sum.inr "people", .ref lp), (Sum.inr "most", .int (1 + mo)), (Sum.inr "turn", .str t), (Sum.inr "trim", .int 0)]))) pl 4 [("trim", .int 0), ("turn", .str t), ("most", .int (1 + mo)), ("people", .ref lp)] := by
      have d0 : DF (upd H5 pl (.dK [])) pl 0 [] := ⟨[], upd_same, Nat.le_refl _, fun k v e => by cases e⟩
      exact (((d0.put2 "people" (.ref lp)).put2 "most" (.int (1 + mo))).put2 "turn" (.str t)).put2 "trim" (.int 0)
    have e26 : SB (fun b => b = a ∨ b = pl) H2 (upd H5 pl (.dK (mergeK [] [(Sum.inr "people", .ref lp), (Sum.inr "most", .int (1 + mo)), (Sum.inr "turn", .str t), (Sum.inr "trim", .int 0)]))) :=
      (((SB.of h3).trans (e4.imp fun _ h => .inl h)).trans (e5.imp fun _ h => .inl h)).trans (sb_upd (.inr rfl))
    have hp6 : Pool (upd H5 pl (.dK (mergeK [] [(Sum.inr "people", .ref lp), (Sum.inr "most", .int (1 + mo)), (Sum.inr "turn", .str t), (Sum.inr "trim", .int 0)]))) a := hp5.at (P := fun b => b = pl) (sb_upd rfl) npa.symm
    generalize (upd H5 pl (.dK (mergeK [] [(Sum.inr "people", .ref lp), (Sum.inr "most", .int (1 + mo)), (Sum.inr "turn", .str t), (Sum.inr "trim", .int 0)]))) = H6 at *
    have nlpa : lp ≠ a := by
      obtain ⟨q0, q1, hq, _⟩ := hp2
      refine ne_of hlp2 hq (fun z => ?_)
      injection z with z
      cases ps with
      | nil => exact hne rfl
      | cons s r => cases z
    have nlpl : lp ≠ pl := ne_of_none hlp2 hpl
    have hlp6 : H6 lp = some (.lst (ps.map V.str)) := e26 _ _ hlp2 (fun z => z.elim nlpa nlpl)
    have sb6 : SB (fun b => b = a) H H6 := fun b o hb hn => e26 _ _ (sb2 _ _ hb hn) (fun z => z.elim hn (ne_of_none (sb2 _ _ hb hn) hpl))
    -- the lists
    refine ⟨_, rfl, _, rfl, a, lp, ps, rfl, hp6, hlp6, hnd, hne, h7, fun ll H7 ls e7 hp7 hll hL7 hPar hll7 => ?_⟩
    have hdf7 := hdf.keep e7 npa
    refine ⟨_, rfl, a, _, rfl, hp7, by omega, by omega, fun ra H8 ra0 ra4 e8 hp8 => ⟨_, _, rfl, rfl, (by show 2 ≤ sizeLine; decide), fun t8 ht8 => ?_⟩⟩
    have s89 := same_upd (o := .tup [.ref ll, .int (1 + ra)]) ht8
    obtain ⟨kvs9, hput9, hdf9⟩ := ((hdf7.keep e8 npa).stay s89).put (by decide) "lists" (.ref ll)
    refine ⟨t8, _, rfl, .of upd_same, rfl, _, _, rfl, _, rfl, pl, _, rfl, hput9, _, _, rfl, rfl, ?_⟩
    have e79 : SB (fun b => b = a ∨ b = pl) H7 (upd (upd H8 t8 (.tup [.ref ll, .int (1 + ra)])) pl (.dK kvs9)) := ((e8.imp fun _ h => .inl h).trans (.of s89)).trans (sb_upd (.inr rfl))
    have e89 : SB (fun b => b = pl) H8 (upd (upd H8 t8 (.tup [.ref ll, .int (1 + ra)])) pl (.dK kvs9)) := (SB.of s89).trans (sb_upd rfl)
    have hp9 := hp8.at e89 npa.symm
    generalize (upd (upd H8 t8 (.tup [.ref ll, .int (1 + ra)])) pl (.dK kvs9)) = H9 at *
    have hL9 : LAt RL H9 ll ls := lists_keep e79 (fun _ h => h) hp7 hdf7 hPar.ne (par_ne hPar hne) hL7
    have e69 : SB (fun b => b = a ∨ b = pl) H6 H9 := (e7.imp fun _ h => .inl h).trans e79
    have hlp9 := e69 _ _ hlp6 (fun z => z.elim nlpa nlpl)
    have plH : ∀ o, H pl ≠ some o := fun o z => by
      by_cases hb : pl = a
      · exact npa hb
      · have := sb2 _ _ z hb
        rw [hpl] at this
        cases this
    have sb9 : SB (fun b => b = a) H H9 := fun b o hb hn => e69 _ _ (sb6 _ _ hb hn) (fun z => z.elim hn (fun z => plH o (z ▸ hb)))
    -- the first reads
    refine ⟨_, rfl, lp, ps, rfl, hlp9, h7, fun l10 H10 e10 hl10 ⟨v10, hv10, hp10'⟩ => ⟨l10, rfl, ⟨_, .of hv10⟩, fun D hD => ?_⟩⟩
    have hp10 := hp9.stay e10
    have n10a : l10 ≠ a := fun z => by obtain ⟨q0, q1, hq, _⟩ := hp9; rw [z, hq] at hl10; cases hl10
    have tupNo : ∀ {H' : Hp}, Pool H' a → ∀ b xs, H' b = some (.tup xs) → ¬ b = a := fun hp b xs hb z => by obtain ⟨q0, q1, hq, _⟩ := hp; rw [z, hq] at hb; cases hb
    refine lc_main (P := fun b => b = a) (R := RP) (Ro := RP) (src_list (.of hv10) n10a (fun H' v d e h => RP.keep e (tupNo hp10) h) hp10') hD (Nat.lt_of_le_of_lt (len_pairs h7) (by decide)) (fun H => Pool H a) (fun H ⟨q0, q1, hq, _⟩ b hb hn => by rw [hb, hq] at hn; cases hn) (fun H H' e ⟨q0, q1, hq, h⟩ => ⟨q0, q1, by rw [e a rfl]; exact hq, h⟩) hp10 (fun H' H'' v d e hpl h => RP.keep e (tupNo hpl) h) (fun pre es => es.Sublist pre) List.Sublist.slnil ?_ ?_
    · intro pre d post es x H3 acc Ny Nn hsplit hZ e3 hp3 hacc hx hy hn
      refine ⟨rfl, _, rfl, _, rfl, _, _, rfl, rfl, a, _, rfl, hp3, by omega, by omega, fun r4 H4' _ _ e4' hp4' => ⟨_, _, rfl, rfl, _, rfl, ?_⟩⟩
      have hx4 := RP.keep e4' (tupNo hp3) hx
      refine ite2 (fun _ => ⟨x, rfl, hy _ _ d e4' hp4' (fun o => ?_) (hZ.append (List.Sublist.refl _))⟩) (fun _ => hn _ e4' hp4' (by simpa using hZ.append (List.nil_sublist [d])))
      obtain ⟨q, rfl, hq⟩ := hx4
      have nDa : D ≠ a := fun z => by obtain ⟨q0, q1, hq, _⟩ := hp10; rw [z, hq] at hD; cases hD
      exact ⟨q, rfl, by rw [upd_ne (ne_of hq (e4' _ _ hacc nDa) (by intro z; cases z))]; exact hq⟩
    · intro rs0 H11 acc hsub e11 hp11 hacc11 pr11
      have hdf11 := (hdf9.stay e10).keep e11 npa
      obtain ⟨kvs12, hput12, hdf12⟩ := hdf11.put (by decide) "reads" (.ref D)
      refine ⟨_, rfl, pl, _, rfl, hput12, ?_⟩
      have hD9 : H9 D = none := none_of_sb (P := fun _ => False) (.of e10) hD (fun z => z)
      obtain ⟨vll, hvll, hpll, nll⟩ := lists_sep hp9 hdf9 hD9 hPar.ne (par_ne hPar hne) hL9
      have nDa : D ≠ a := fun z => by obtain ⟨q0, q1, hq, _⟩ := hp9; rw [z, hq] at hD9; cases hD9
      have nDpl : D ≠ pl := fun z => by obtain ⟨kk, hkk⟩ := hdf9.dk; rw [z, hkk] at hD9; cases hD9
      have e912 : SB (fun b => b = a ∨ b = pl ∨ b = D) H9 (upd H11 pl (.dK kvs12)) := ((SB.of e10).trans (e11.imp fun _ h => .inl h)).trans (sb_upd (.inr (.inl rfl)))
      have hp12 : Pool (upd H11 pl (.dK kvs12)) a := hp11.at (P := fun b => b = pl) (sb_upd rfl) npa.symm
      have hR12 : LAt RP (upd H11 pl (.dK kvs12)) D rs0 := ⟨acc, by rw [upd_ne nDpl]; exact hacc11, Paired.mono (fun v d h => RP.keep (P := fun b => b = pl) (sb_upd rfl) (fun b xs hb z => by obtain ⟨kk, hkk⟩ := hdf11.dk; rw [z, hkk] at hb; cases hb) h) pr11⟩
      generalize (upd H11 pl (.dK kvs12)) = H12 at *
      have nlpZ : ¬ (lp = a ∨ lp = pl ∨ lp = D) := fun z => by
        rcases z with z | z | z
        · exact nlpa z
        · exact nlpl z
        · rw [z, hD9] at hlp9; cases hlp9
      have hlp12 := e912 _ _ hlp9 nlpZ
      have hvll12 := e912 _ _ hvll nll
      have hpll12 : Paired (RLz (fun b => b = a ∨ b = pl ∨ b = D) H12) vll ls := Paired.mono (fun v d h => RLz.keep e912 (fun _ z => z) h) hpll
      have one7 : ∀ one ∈ ls, one.length ≤ 7 := fun one ho => by
        have h := hPar.same one ho
        have h2 := List.length_filter_le (fun q => decide (q ∈ one)) ps
        rw [h] at h2
        omega
      -- everybody in a list of some gets a reader
      refine ⟨_, rfl, pl, _, rfl, (hdf12.has ((lk_ne (by decide +kernel)).trans lk_same)).get, ll, rfl, ⟨_, .of hvll12⟩, ?_⟩
      refine for_src (P := fun b => b = a ∨ b = D) (R := RLz (fun b => b = a ∨ b = pl ∨ b = D)) (src_list (.of hvll12) (fun z => nll (z.elim .inl fun z => .inr (.inr z))) (fun _ _ _ e h => RLz.keep e (fun _ z => z.elim .inl fun z => .inr (.inr z)) h) hpll12) (fun pre σ H' => ∃ x9 x10, σ = [some (.ref a), some (.int 1), some (.int 7), some (.int 10), some (.ref mt), some (.ref lp), some (.ref pl), some (.int (1 + ra)), none, x9, x10, none, none, none] ∧ SB (fun b => b = a ∨ b = D) H12 H' ∧ Pool H' a ∧ ∃ rs, LAt RP H' D rs ∧ (∀ q ∈ rs, q ∈ pairs ps) ∧ rs.length ≤ 49 + (pre.flatMap todo).length ∧ ∀ m ∈ pre.flatMap todo, ∃ q, (q, m) ∈ rs)
        ⟨none, none, rfl, SB.refl _, hp12, rs0, hR12, fun q hq => hsub.subset hq, Nat.le_trans hsub.length_le (len_pairs h7), fun m hm => by cases hm⟩ (fun _ _ _ ⟨_, _, _, e, _⟩ => e) ?_ ?_
      · rintro pre one post x σ H13 H13' hsplit ⟨x9, x10, rfl, e13, hp13, rs, hR13, hin, hlen13, hdone⟩ hH13 ⟨⟨q, rfl, hq⟩, nq⟩
        obtain ⟨e13', hp13', hR13'⟩ : SB (fun b => b = a ∨ b = D) H12 H13' ∧ Pool H13' a ∧ LAt RP H13' D rs := by
          rcases hH13 with rfl | ⟨T0, o, hT, rfl⟩
          · exact ⟨e13, hp13, hR13⟩
          · exact ⟨e13.trans (.of (same_upd hT)), hp13.stay (same_upd hT), hR13.stay stays_RP (same_upd hT)⟩
        have hone : one ∈ ls := by rw [hsplit]; simp
        have nqZ := nq q rfl
        have hpre : (pre.flatMap todo).length ≤ 49 := by
          have a1 := len_flat (f := todo) (n := 7) (qs := pre) fun o ho => by
            unfold todo
            split
            · exact one7 o (by rw [hsplit]; simp [ho])
            · simp
          have a3 : pre.length ≤ 7 := by have := congrArg List.length hsplit; simp at this; omega
          omega
        refine ⟨_, rfl, .ref q, one.length, rfl, .inl ⟨_, .of hq, by rw [List.length_map]⟩, _, _, rfl, rfl, decide (1 < one.length), congrArg V.bl (decide_eq_decide.mpr (by omega)), ?_⟩
        by_cases hl : 1 < one.length
        · rw [decide_eq_true hl]
          have htodo : todo one = one := by unfold todo; rw [if_pos hl]
          refine iteT ⟨_, rfl, q, rfl, ⟨_, .of hq⟩, ?_⟩
          refine for_src (P := fun b => b = a ∨ b = D) (R := RS) (src_list (.of hq) (fun z => nqZ (z.elim .inl fun z => .inr (.inr z))) (fun _ _ _ _ h => h) (paired_str one _)) (fun pre2 σ H' => ∃ x10, σ = [some (.ref a), some (.int 1), some (.int 7), some (.int 10), some (.ref mt), some (.ref lp), some (.ref pl), some (.int (1 + ra)), none, some (.ref q), x10, none, none, none] ∧ SB (fun b => b = a ∨ b = D) H13' H' ∧ Pool H' a ∧ ∃ rs, LAt RP H' D rs ∧ (∀ q ∈ rs, q ∈ pairs ps) ∧ rs.length ≤ 49 + ((pre.flatMap todo) ++ pre2).length ∧ ∀ m ∈ (pre.flatMap todo) ++ pre2, ∃ q, (q, m) ∈ rs)
            ⟨x10, rfl, SB.refl _, hp13', rs, hR13', hin, by simpa using hlen13, fun m hm => hdone m (by simpa using hm)⟩ (fun _ _ _ ⟨_, _, e, _⟩ => e) ?_ ?_
          · rintro pre2 p post2 x σ H14 H14' hsplit2 ⟨x10, rfl, e14, hp14, rs, hR14, hin, hlen14, hdone⟩ hH14 hx
            cases hx
            obtain ⟨e14', hp14', hR14'⟩ : SB (fun b => b = a ∨ b = D) H13' H14' ∧ Pool H14' a ∧ LAt RP H14' D rs := by
              rcases hH14 with rfl | ⟨T0, o, hT, rfl⟩
              · exact ⟨e14, hp14, hR14⟩
              · exact ⟨e14.trans (.of (same_upd hT)), hp14.stay (same_upd hT), hR14.stay stays_RP (same_upd hT)⟩
            have hpo : p ∈ one := by rw [hsplit2]; simp
            have hpp : p ∈ ps := hPar.mem hone hpo
            have e1214 := e13'.trans e14'
            have hdf14 := hdf12.keep e1214 (fun z => z.elim npa nDpl.symm)
            have hlp14 := e1214 _ _ hlp12 (fun z => nlpZ (z.elim .inl fun z => .inr (.inr z)))
            have nmr : ∀ q ∈ rs, Nm q.1 ∧ Nm q.2 := fun q hq => by obtain ⟨a, b, _⟩ := mem_pairs.mp (hin q hq); exact ⟨hN _ a, hN _ b⟩
            refine ⟨_, rfl, _, rfl, pl, lp, D, p, ps, rs, rfl, hdf14.has ((lk_ne (by decide +kernel)).trans ((lk_ne (by decide +kernel)).trans ((lk_ne (by decide +kernel)).trans ((lk_ne (by decide +kernel)).trans ((lk_ne (by decide +kernel)).trans lk_same))))), hlp14, hdf14.has lk_same, hR14', nmr, hN, hN _ hpp, h7, fun E15 H15 e15 hE15 hE15' => ?_⟩
            refine ⟨Nat.zero_le _, fun n16 hn16 => ?_⟩
            have s16 := same_upd (o := .lst []) hn16
            have e1416 := SB.trans' (P := fun _ => False) e15 s16
            refine ⟨dStrs (readersOf ps rs p), .list [], dp_strs (s16 _ _ hE15'), .lst (.of upd_same) .nil, shaped_strs fun s hs => hN _ (List.mem_filter.mp hs).1, sh_nil, decide (readersOf ps rs p = []), by rw [eqv_nil], ?_⟩
            generalize (upd H15 n16 (.lst [])) = H16 at *
            have hp16 := hp14'.stay e1416
            have hR16 := hR14'.stay stays_RP e1416
            have hdf16 := hdf14.stay e1416
            have hlp16 := e1416 _ _ hlp14
            by_cases hemp : readersOf ps rs p = []
            · rw [decide_eq_true hemp]
              refine iteT ?_
              obtain ⟨acc16, hacc16, pr16⟩ := id hR16
              refine ⟨_, rfl, pl, _, rfl, (hdf16.has lk_same).get, .inl ⟨rfl, _, .of hacc16⟩, ?_⟩
              refine ⟨_, rfl, _, rfl, lp, rfl, ⟨_, .of hlp16⟩, fun D17 hD17 => lc_pure (R := RS) (Ro := RS) (src_list (.of hlp16) (fun z => z) (fun _ _ _ _ h => h) (paired_str ps _)) hD17 (Nat.lt_of_le_of_lt h7 (by decide)) stays_RS (fun s => if decide (s ≠ p) = true then some s else none) ?_ ?_⟩
              · intro s x H17 acc17 Ny Nn hs e17 _ hx hy hn
                cases hx
                refine ⟨rfl, _, rfl, _, rfl, rfl, _, rfl, ?_⟩
                by_cases h : s = p
                · subst h
                  rw [show (!decide (V.str s = V.str s)) = false by simp]
                  exact iteF (hn _ (fun _ _ h => h) (by simp))
                · rw [show (!decide (V.str s = V.str p)) = true by simp [h]]
                  exact iteT ⟨_, rfl, hy _ _ s (fun _ _ h => h) (fun _ => rfl) (by simp [h])⟩
              · intro H17 acc17 e17 hacc17 pr17
                rw [fm_if] at pr17
                have hl17 := LAt.str ⟨acc17, hacc17, pr17⟩
                have hother : ps.filter (fun s => decide (s ≠ p)) ≠ [] := by
                  obtain ⟨o, ho1, ho2⟩ : ∃ o ∈ one, o ≠ p := by
                    have hnd1 : one.Nodup := by rw [← hPar.same one hone]; exact hnd.filter _
                    match one, hl, hnd1 with
                    | x :: y :: r, _, hnd1 =>
                      by_cases hxp : x = p
                      · refine ⟨y, by simp, fun hyp => ?_⟩
                        simp at hnd1
                        exact hnd1.1.1 (hxp.trans hyp.symm)
                      · exact ⟨x, by simp, hxp⟩
                  intro z
                  have : o ∈ ps.filter fun s => decide (s ≠ p) := List.mem_filter.mpr ⟨hPar.mem hone ho1, by simpa using ho2⟩
                  rw [z] at this
                  cases this
                refine ⟨a, D17, _, rfl, hp16.stay e17, hl17, hother, Nat.lt_of_le_of_lt (Nat.le_trans (List.length_filter_le _ _) h7) (by decide), fun s H18 hs e18 hp18 => ⟨_, rfl, (by show 2 ≤ sizeLine; decide), fun t19 ht19 => ?_⟩⟩
                have s19 := same_upd (o := .tup [.str s, .str p]) ht19
                have hacc19 := s19 _ _ (e18 _ _ (e17 _ _ hacc16) nDa)
                have e1619 : SB (fun b => b = a) H16 (upd H18 t19 (.tup [.str s, .str p])) := ((SB.of e17).trans e18).trans (.of s19)
                have nt19 : t19 ≠ D := ne_of upd_same hacc19 (by intro z; cases z)
                obtain ⟨hs1, hs2⟩ := List.mem_filter.mp hs
                have hsp : s ≠ p := by simpa using hs2
                have hacclen : acc16.length = rs.length := pr16.length
                have hlen2 : pre2.length ≤ 7 := by have h1 := congrArg List.length hsplit2; have h2 := one7 one hone; simp at h1; omega
                refine ⟨D, acc16, _, rfl, rfl, hacc19, small1000 (by rw [hacclen]; rw [List.length_append] at hlen14; omega), some (.str p), rfl, ?_, ?_, rs ++ [(s, p)], ⟨_, upd_same, ?_⟩, ?_, ?_, ?_⟩
                · exact ((e14'.trans (.of e1416)).trans (e1619.imp fun _ h => .inl h)).trans (sb_upd (.inr rfl))
                · exact (hp18.stay s19).at (P := fun b => b = D) (sb_upd rfl) nDa.symm
                · refine Paired.snoc (Paired.mono (fun v d h => ?_) pr16) ⟨t19, rfl, by rw [upd_ne nt19]; exact upd_same⟩
                  exact RP.keep (P := fun b => b = D) (sb_upd rfl) (fun b xs hb z => by rw [z, hacc19] at hb; cases hb) (RP.keep e1619 (tupNo hp16) h)
                · intro q hq
                  rcases List.mem_append.mp hq with hq | hq
                  · exact hin q hq
                  · rw [List.mem_singleton.mp hq]
                    exact mem_pairs.mpr ⟨hs1, hpp, fun z => hsp z.symm⟩
                · rw [List.length_append, ← List.append_assoc, List.length_append]
                  simp
                  simp at hlen14
                  omega
                · intro m hm
                  rw [← List.append_assoc] at hm
                  rcases List.mem_append.mp hm with hm | hm
                  · obtain ⟨q, hq⟩ := hdone m hm
                    exact ⟨q, List.mem_append_left _ hq⟩
                  · rw [List.mem_singleton.mp hm]
                    exact ⟨s, by simp⟩
            · rw [decide_eq_false hemp]
              refine iteF ⟨some (.str p), rfl, e14'.trans (.of e1416), hp16, rs, hR16, hin, ?_, ?_⟩
              · rw [← List.append_assoc, List.length_append]
                omega
              · intro m hm
                rw [← List.append_assoc] at hm
                rcases List.mem_append.mp hm with hm | hm
                · exact hdone m hm
                · rw [List.mem_singleton.mp hm]
                  cases hro : readersOf ps rs p with
                  | nil => exact absurd hro hemp
                  | cons q r =>
                    have : q ∈ readersOf ps rs p := by rw [hro]; simp
                    exact ⟨q, by simpa using (List.mem_filter.mp this).2⟩
          · rintro σ H14 ⟨x10, rfl, e14, hp14, rs, hR14, hin, hlen14, hdone⟩
            have h1 : (pre ++ [one]).flatMap todo = pre.flatMap todo ++ one := by rw [List.flatMap_append]; simp [htodo]
            exact ⟨_, _, rfl, e13'.trans e14, hp14, rs, hR14, hin, by rw [h1]; exact hlen14, by rw [h1]; exact hdone⟩
        · rw [decide_eq_false hl]
          have htodo : todo one = [] := by unfold todo; rw [if_neg hl]
          have h1 : (pre ++ [one]).flatMap todo = pre.flatMap todo := by rw [List.flatMap_append]; simp [htodo]
          refine iteF ⟨Nat.zero_le _, fun n14 hn14 => ⟨n14, rfl, ⟨_, .of upd_same⟩, ?_⟩⟩
          have s14 := same_upd (o := .lst []) hn14
          refine for_src (P := fun _ => False) (R := RS) (ds := []) (src_list (.of (xs := []) upd_same) (fun z => z) (fun _ _ _ _ h => h) .nil) (fun pre2 σ H' => ∃ x9 x10, σ = [some (.ref a), some (.int 1), some (.int 7), some (.int 10), some (.ref mt), some (.ref lp), some (.ref pl), some (.int (1 + ra)), none, x9, x10, none, none, none] ∧ Same (upd H13' n14 (.lst [])) H')
            ⟨_, _, rfl, fun _ _ h => h⟩ (fun _ _ _ ⟨_, _, _, e⟩ => .of e) (fun pre2 d post2 _ _ _ _ hs => by simp at hs) ?_
          rintro σ H14 ⟨y9, y10, rfl, e14⟩
          have e1314 := SB.trans' (P := fun _ => False) s14 e14
          exact ⟨_, _, rfl, e13'.trans (.of e1314), hp13'.stay e1314, rs, hR13'.stay stays_RP e1314, hin, by rw [h1]; exact hlen13, by rw [h1]; exact hdone⟩
      · rintro σ H13 ⟨x9, x10, rfl, e13, hp13, rs1, hR13, hin, hlen13, hdone⟩
        have hdf13 := hdf12.keep e13 (fun z => z.elim npa nDpl.symm)
        have e913 : SB (fun b => b = a ∨ b = pl ∨ b = D) H9 H13 := e912.trans (e13.imp fun _ z => z.elim .inl fun z => .inr (.inr z))
        have hlp13 := e913 _ _ hlp9 nlpZ
        have nm : ∀ q ∈ pairs ps, Nm q.1 ∧ Nm q.2 := fun q hq => by obtain ⟨a, b, _⟩ := mem_pairs.mp hq; exact ⟨hN _ a, hN _ b⟩
        -- the reads in order
        refine ⟨_, rfl, lp, ps, rfl, hlp13, h7, fun l14 H14 e14 hl14 ⟨v14, hv14, hp14'⟩ => ⟨l14, rfl, ⟨_, .of hv14⟩, fun D15 hD15 => lc_pure (R := RP) (Ro := RP) (src_list (.of hv14) (fun z => z) (fun _ _ _ e h => stays_RP _ _ _ _ e.same h) hp14') hD15 (Nat.lt_of_le_of_lt (len_pairs h7) (by decide)) stays_RP (fun q => if decide (q ∈ rs1) = true then some q else none) ?_ ?_⟩⟩
        · intro d x H15 acc Ny Nn hd e15 hacc hx hy hn
          obtain ⟨q, rfl, hq⟩ := hx
          have e1315 := SB.trans' (P := fun _ => False) e14 e15
          refine ⟨rfl, _, rfl, _, rfl, pl, _, rfl, ((hdf13.stay e1315).has lk_same).get, dP d, rs1.map dP, dp_pair ⟨q, rfl, hq⟩, dp_pairs (hR13.stay stays_RP e1315), shaped_dP (nm d hd).1 (nm d hd).2, shaped_pairs (fun q hq => nm q (hin q hq)), decide (d ∈ rs1), by rw [any_dP], ?_⟩
          by_cases h : d ∈ rs1
          · rw [decide_eq_true h]
            exact iteT ⟨_, rfl, hy _ _ d (fun _ _ h => h) (fun o => ⟨q, rfl, by rw [upd_ne (ne_of hq hacc (by intro z; cases z))]; exact hq⟩) (by simp [h])⟩
          · rw [decide_eq_false h]
            exact iteF (hn _ (fun _ _ h => h) (by simp [h]))
        · intro H15 acc e15 hacc15 pr15
          rw [fm_if] at pr15
          have e1315 := SB.trans' (P := fun _ => False) e14 e15
          have hdf15 := hdf13.stay e1315
          obtain ⟨kvs16, hput16, hdf16⟩ := hdf15.put (by decide) "reads" (.ref D15)
          refine ⟨_, rfl, pl, _, rfl, hput16, ?_⟩
          have hRd := reads_filter ps rs1
          generalize hrs : ((pairs ps).filter fun q => decide (q ∈ rs1)) = rs at *
          have hGood : Good ps ls rs := ⟨hN, hnd, h7, hll7, hPar, hRd⟩
          have hread0 : ∀ one ∈ ls, 1 < one.length → ∀ m ∈ one, 1 ≤ cnt rs m := fun one ho hl m hm => by
            obtain ⟨q, hq⟩ := hdone m (List.mem_flatMap.mpr ⟨one, ho, by unfold todo; rw [if_pos hl]; exact hm⟩)
            have : (q, m) ∈ rs.filter fun q => decide (q.2 = m) := List.mem_filter.mpr ⟨by rw [← hrs]; exact List.mem_filter.mpr ⟨hin _ hq, by simpa using hq⟩, by simp⟩
            exact List.length_pos_of_mem this
          have nDpl' : D15 ≠ pl := fun z => by obtain ⟨kk, hkk⟩ := hdf15.dk; rw [z, hkk] at hacc15; cases hacc15
          have hR16 : LAt RP (upd H15 pl (.dK kvs16)) D15 rs := ⟨acc, by rw [upd_ne nDpl']; exact hacc15, Paired.mono (fun v d h => RP.keep (P := fun b => b = pl) (sb_upd rfl) (fun b xs hb z => by obtain ⟨kk, hkk⟩ := hdf15.dk; rw [z, hkk] at hb; cases hb) h) pr15⟩
          have e916 : SB (fun b => b = a ∨ b = pl ∨ b = D) H9 (upd H15 pl (.dK kvs16)) := (e913.trans (.of e1315)).trans (sb_upd (.inr (.inl rfl)))
          have hp16 : Pool (upd H15 pl (.dK kvs16)) a := (hp13.stay e1315).at (P := fun b => b = pl) (sb_upd rfl) npa.symm
          have nD15a : D15 ≠ a := fun z => by obtain ⟨q0, q1, hq, _⟩ := hp13.stay e14; rw [z, hq] at hD15; cases hD15
          generalize (upd H15 pl (.dK kvs16)) = H16 at *
          -- the kinds
          refine ⟨(by show 6 ≤ sizeLine; decide), fun kl hkl => ?_⟩
          have s17 := same_upd (o := .lst (gathers.map V.str)) hkl
          refine ⟨_, rfl, pl, _, rfl, ((hdf16.stay s17).has ((lk_ne (by decide +kernel)).trans ((lk_ne (by decide +kernel)).trans ((lk_ne (by decide +kernel)).trans ((lk_ne (by decide +kernel)).trans lk_same))))).get, rfl, decide (t = "plain"), by simp, ?_⟩
          refine ite2 (fun h => ⟨6, rfl, kl, gathers.map V.str, rfl, .of upd_same, fun kp hkp => ?ga⟩) (fun h => ⟨2, rfl, kl, gathers.map V.str, rfl, .of upd_same, fun kp hkp => ?gb⟩)
          case' ga =>
            have hk : cutV (gathers.map V.str) none (some 6) = (if t = "plain" then gathers else turnedGathers).map V.str := by
              rw [if_pos (by simpa using h)]
              exact (cut_take (gathers.map V.str) 6).trans rfl
            rw [hk]
            clear hk
          case' gb =>
            have hk : cutV (gathers.map V.str) none (some 2) = (if t = "plain" then gathers else turnedGathers).map V.str := by
              rw [if_neg (by simpa using h)]
              exact (cut_take (gathers.map V.str) 2).trans rfl
            rw [hk]
            clear hk
          all_goals
            clear h
            have hkne : (if t = "plain" then gathers else turnedGathers) ≠ [] := by split <;> decide
            have hklen : (if t = "plain" then gathers else turnedGathers).length < 1000 := by split <;> decide
            generalize hkinds : (if t = "plain" then gathers else turnedGathers) = kinds at *
            have s18 := same_upd (o := .lst (kinds.map V.str)) hkp
            have e1618 := SB.trans' (P := fun _ => False) s17 s18
            refine ⟨_, rfl, _, rfl, a, kp, kinds, rfl, hp16.stay e1618, upd_same, hkne, hklen, fun g H19 hg e19 hp19 => ?_⟩
            have e1619 : SB (fun b => b = a) H16 H19 := (SB.of e1618).trans e19
            have e919 := e916.trans (e1619.imp fun _ h => .inl h)
            have hlp19 := e919 _ _ hlp9 nlpZ
            refine ⟨_, rfl, _, rfl, .ref lp, ps.length, rfl, .inl ⟨_, .of hlp19, by rw [List.length_map]⟩, _, _, rfl, rfl, a, _, rfl, hp19, by omega, by omega, fun pz H20 pz0 pz1 e20 hp20 => ⟨(by show 2 ≤ sizeLine; decide), fun t21 ht21 => ?_⟩⟩
            have s21 := same_upd (o := .tup [.str g, .int pz]) ht21
            have e1621 : SB (fun b => b = a) H16 (upd H20 t21 (.tup [.str g, .int pz])) := (e1619.trans e20).trans (.of s21)
            obtain ⟨kvs22, hput22, hdf22⟩ := (hdf16.keep e1621 npa).put (by decide) "gather" (.str g)
            obtain ⟨kvs23, hput23, hdf23⟩ := hdf22.put (by decide) "prizes" (.int pz)
            refine ⟨t21, _, rfl, .of upd_same, rfl, _, _, rfl, _, rfl, pl, _, rfl, hput22, _, _, rfl, _, rfl, pl, _, rfl, hput23, rfl, ?_⟩
            have e1623 : SB (fun b => b = a ∨ b = pl) H16 (upd (upd (upd H20 t21 (.tup [.str g, .int pz])) pl (.dK kvs22)) pl (.dK kvs23)) := ((e1621.imp fun _ h => .inl h).trans (sb_upd (.inr rfl))).trans (sb_upd (.inr rfl))
            generalize (upd (upd (upd H20 t21 (.tup [.str g, .int pz])) pl (.dK kvs22)) pl (.dK kvs23)) = H23 at *
            have e923 : SB (fun b => b = a ∨ b = pl ∨ b = D) H9 H23 := e916.trans (e1623.imp fun _ z => z.elim .inl fun z => .inr (.inl z))
            have hlp23 := e923 _ _ hlp9 nlpZ
            have hL23 : LAt RL H23 ll ls := ⟨vll, e923 _ _ hvll nll, Paired.mono (fun v d h => (RLz.keep e923 (fun _ z => z) h).1) hpll⟩
            have hR23 : LAt RP H23 D15 rs := by
              obtain ⟨vv, h1, h2⟩ := hR16
              refine ⟨vv, e1623 _ _ h1 (fun z => z.elim nD15a nDpl'), Paired.mono (fun v d h => RP.keep e1623 (fun b xs hb z => ?_) h) h2⟩
              rcases z with z | z
              · exact tupNo hp16 b xs hb z
              · obtain ⟨kk, hkk⟩ := hdf16.dk
                rw [z, hkk] at hb
                cases hb
            have fin : ∀ (H' : Hp) (z : Int) (g' : Str), SB (fun b => b = pl) H23 H' → (∃ n fx, DF H' pl n fx ∧ fx.lookup ("people" : Str) = some (.ref lp) ∧ fx.lookup ("most" : Str) = some (.int (1 + mo)) ∧ fx.lookup ("turn" : Str) = some (.str t) ∧ fx.lookup ("trim" : Str) = some (.int z) ∧ fx.lookup ("lists" : Str) = some (.ref ll) ∧ fx.lookup ("reads" : Str) = some (.ref D15) ∧ fx.lookup ("gather" : Str) = some (.str g') ∧ fx.lookup ("prizes" : Str) = some (.int pz)) →
                gatherOk t g' → trimOk g' z → (∀ one ∈ ls, 1 < one.length → ∀ m ∈ one, 2 * z < (cnt rs m : Nat)) → Q (.ref pl) H' := fun H' z g' e ⟨n, fx, hdf, f1, f2, f3, f4, f5, f6, f7, f8⟩ hg' hz' hrd' => by
              have e9' : SB (fun b => b = a ∨ b = pl ∨ b = D) H9 H' := e923.trans (e.imp fun _ z => .inr (.inl z))
              obtain ⟨kk, hkk⟩ := hdf23.dk
              refine k pl H' ps (1 + mo) t z ls rs g' pz (fun b o hb hn => e9' _ _ (sb9 _ _ hb hn) (fun zz => ?_)) ⟨⟨lp, hdf.has f1, e9' _ _ hlp9 nlpZ⟩, hdf.has f2, hdf.has f3, hdf.has f4, ⟨ll, hdf.has f5, vll, e9' _ _ hvll nll, Paired.mono (fun v d h => (RLz.keep e9' (fun _ z => z) h).1) hpll⟩, ⟨D15, hdf.has f6, ?_⟩, hdf.has f7, hdf.has f8⟩ ⟨hGood, by have := List.length_pos_iff.mpr hne; omega, by omega, by omega, ht, hg', hz', hrd', by omega, by omega⟩
              · rcases zz with zz | zz | zz
                · exact hn zz
                · exact plH o (zz ▸ hb)
                · have := sb9 _ _ hb hn
                  rw [zz, hD9] at this
                  cases this
              · obtain ⟨vv, h1, h2⟩ := hR23
                exact ⟨vv, e _ _ h1 nDpl', Paired.mono (fun v d h => RP.keep e (fun b xs hb z => by rw [z, hkk] at hb; cases hb) h) h2⟩
            -- trim
            refine ⟨_, rfl, pl, _, rfl, (hdf23.has (lkn (by decide +kernel) lk_same)).get, rfl, decide (g = "trim"), by simp, ?_⟩
            by_cases hgt : g = "trim"
            · rw [decide_eq_true hgt]
              refine iteT ?_
              have hplain : t = "plain" := Decidable.byContradiction fun hn => by
                rw [if_neg hn] at hkinds
                rw [← hkinds, hgt] at hg
                exact absurd hg (by decide +kernel)
              have hcr : ∀ m, cnt rs m = (readersOf ps rs m).length := fun m => hRd.count hnd m
              refine ⟨_, rfl, lp, rfl, ⟨_, .of hlp23⟩, fun C hC => lc_pure (R := RS) (Ro := RI) (src_list (.of hlp23) (fun z => z) (fun _ _ _ _ h => h) (paired_str ps _)) hC (Nat.lt_of_le_of_lt h7 (by decide)) (fun _ _ _ _ _ h => h) (fun one => if decide (1 < (listOf ls one).length) = true then some (((readersOf ps rs one).length : Nat) : Int) else none) ?_ ?_⟩
              · intro d x H24 acc24 Ny Nn hd e24 _ hx hy hn
                cases hx
                have hdf24 := hdf23.stay e24
                refine ⟨rfl, _, rfl, _, rfl, pl, ll, d, ps, ls, rfl, hdf24.has (lkn (by decide +kernel) (lkn (by decide +kernel) (lkn (by decide +kernel) (lkn (by decide +kernel) lk_same)))), hL23.stay stays_RL e24, hPar, hd, hll7, fun m H25 e25 hm => ?_⟩
                refine ⟨.ref m, (listOf ls d).length, rfl, .inl ⟨_, .of hm, by rw [List.length_map]⟩, _, _, rfl, rfl, decide (1 < (listOf ls d).length), congrArg V.bl (decide_eq_decide.mpr (by omega)), ?_⟩
                by_cases h : 1 < (listOf ls d).length
                · rw [decide_eq_true h]
                  have e2325 := SB.trans' (P := fun _ => False) e24 e25
                  have hdf25 := hdf23.stay e2325
                  refine iteT ⟨_, rfl, _, rfl, pl, lp, D15, d, ps, rs, rfl, hdf25.has (lkn (by decide +kernel) (lkn (by decide +kernel) (lkn (by decide +kernel) (lkn (by decide +kernel) (lkn (by decide +kernel) (lkn (by decide +kernel) (lkn (by decide +kernel) (lkn (by decide +kernel) lk_same)))))))), e2325 _ _ hlp23, hdf25.has (lkn (by decide +kernel) (lkn (by decide +kernel) lk_same)), hR23.stay stays_RP e2325, hGood.nmr, hN, hN _ hd, h7, fun E H26 e26 hE hE2 => ?_⟩
                  exact ⟨.ref E, (readersOf ps rs d).length, rfl, .inl ⟨_, .of hE2, by rw [List.length_map]⟩, hy _ _ _ (SB.trans' (P := fun _ => False) e25 e26) (fun _ => rfl) (by simp [h])⟩
                · rw [decide_eq_false h]
                  exact iteF (hn _ e25 (by simp [h]))
              · intro H24 acc24 e24 hacc24 pr24
                have hcs := paired_int pr24
                subst hcs
                have hcin : ∀ one ∈ ls, 1 < one.length → ∀ m ∈ one, ((cnt rs m : Nat) : Int) ∈ ps.filterMap (fun one => if decide (1 < (listOf ls one).length) = true then some (((readersOf ps rs one).length : Nat) : Int) else none) := fun one ho hl m hm => by
                  refine List.mem_filterMap.mpr ⟨m, hPar.mem ho hm, ?_⟩
                  rw [listOf_eq hPar hnd ho hm, if_pos (by simpa using hl), hcr]
                have hc1 : ∀ c ∈ ps.filterMap (fun one => if decide (1 < (listOf ls one).length) = true then some (((readersOf ps rs one).length : Nat) : Int) else none), 1 ≤ c := fun c hc => by
                  obtain ⟨m, hm, he⟩ := List.mem_filterMap.mp hc
                  by_cases h : 1 < (listOf ls m).length
                  · rw [if_pos (by simpa using h)] at he
                    cases he
                    obtain ⟨l1, l2⟩ := hPar.listOf_mem hm
                    have := hread0 _ l1 h m l2
                    rw [hcr] at this
                    omega
                  · rw [if_neg (by simpa using h)] at he
                    cases he
                have hclen : (ps.filterMap (fun one => if decide (1 < (listOf ls one).length) = true then some (((readersOf ps rs one).length : Nat) : Int) else none)).length ≤ 7 := Nat.le_trans (List.length_filterMap_le _ _) h7
                generalize (ps.filterMap (fun one => if decide (1 < (listOf ls one).length) = true then some (((readersOf ps rs one).length : Nat) : Int) else none)) = cs at *
                have fin2 : ∀ (H' : Hp) (z : Int), Same H24 H' → 0 ≤ z → z ≤ 3 → (∀ one ∈ ls, 1 < one.length → ∀ m ∈ one, 2 * z < (cnt rs m : Nat)) →
                    ∃ kvs', DPut H' pl (.str "trim") (.int z) (upd H' pl (.dK kvs')) ∧ DGet (upd H' pl (.dK kvs')) pl (.str "trim") (some (.int z)) ∧ ∃ kvs2, DPut (upd H' pl (.dK kvs')) pl (.str "gather") (.str (if 0 < z then "trim" else "median")) (upd (upd H' pl (.dK kvs')) pl (.dK kvs2)) ∧ Q (.ref pl) (upd (upd H' pl (.dK kvs')) pl (.dK kvs2)) := fun H' z e z0 z3 hrd' => by
                  have hdf' := (hdf23.stay e24).stay e
                  obtain ⟨kvs', hput', hdf'⟩ := hdf'.put (by decide) "trim" (.int z)
                  obtain ⟨kvs2, hput2, hdf2⟩ := hdf'.put (by decide) "gather" (.str (if 0 < z then "trim" else "median"))
                  refine ⟨kvs', hput', (hdf'.has lk_same).get, kvs2, hput2, ?_⟩
                  refine fin _ z _ (((SB.of (P := fun b => b = pl) (SB.trans' (P := fun _ => False) e24 e)).trans (sb_upd rfl)).trans (sb_upd rfl)) ⟨_, _, hdf2, lkn (by decide +kernel) (lkn (by decide +kernel) (lkn (by decide +kernel) (lkn (by decide +kernel) (lkn (by decide +kernel) (lkn (by decide +kernel) (lkn (by decide +kernel) (lkn (by decide +kernel) (lkn (by decide +kernel) (lkn (by decide +kernel) lk_same))))))))),
                    lkn (by decide +kernel) (lkn (by decide +kernel) (lkn (by decide +kernel) (lkn (by decide +kernel) (lkn (by decide +kernel) (lkn (by decide +kernel) (lkn (by decide +kernel) (lkn (by decide +kernel) (lkn (by decide +kernel) lk_same)))))))),
                    lkn (by decide +kernel) (lkn (by decide +kernel) (lkn (by decide +kernel) (lkn (by decide +kernel) (lkn (by decide +kernel) (lkn (by decide +kernel) (lkn (by decide +kernel) (lkn (by decide +kernel) lk_same))))))),
                    lkn (by decide +kernel) lk_same,
                    lkn (by decide +kernel) (lkn (by decide +kernel) (lkn (by decide +kernel) (lkn (by decide +kernel) (lkn (by decide +kernel) (lkn (by decide +kernel) lk_same))))),
                    lkn (by decide +kernel) (lkn (by decide +kernel) (lkn (by decide +kernel) (lkn (by decide +kernel) lk_same))), lk_same, lkn (by decide +kernel) (lkn (by decide +kernel) lk_same)⟩ ?_ ?_ hrd'
                  · unfold gatherOk
                    rw [if_pos hplain]
                    split <;> decide +kernel
                  · unfold trimOk
                    by_cases hz : 0 < z
                    · rw [if_pos hz, if_pos rfl]; omega
                    · rw [if_neg hz, if_neg (by decide +kernel)]; omega
                -- how many
                refine ⟨_, rfl, Nat.zero_le _, fun n25 hn25 => ?_⟩
                have s25 := same_upd (o := .lst []) hn25
                refine ⟨.list (cs.map .int), .list [], dp_ints (s25 _ _ hacc24), .lst (.of upd_same) .nil, sh_ints cs, sh_nil, decide (cs = []), by rw [eqv_ints], ?_⟩
                have lastly : ∀ (H' : Hp) (z : Int), Same H24 H' → 0 ≤ z → z ≤ 3 → (∀ one ∈ ls, 1 < one.length → ∀ m ∈ one, 2 * z < (cnt rs m : Nat)) → ∃ H4, DPut H' pl (.str "trim") (.int z) H4 ∧ ∃ a v, V.ref pl = .ref a ∧ DGet H4 a (.str "trim") (some v) ∧ ∃ i j, v = .int i ∧ (V.int 0) = .int j ∧ ∃ k, V.bl (decide (j < i)) = .bl k ∧ ∃ a' H5, V.ref pl = .ref a' ∧ DPut H4 a' (.str "gather") (.str (if k = true then "trim" else "median")) H5 ∧ Q (.ref pl) H5 := fun H' z e z0 z3 hrd' => by
                  obtain ⟨kvs', h1, h2, kvs2, h3, h4⟩ := fin2 H' z e z0 z3 hrd'
                  refine ⟨_, h1, pl, _, rfl, h2, z, 0, rfl, rfl, decide (0 < z), rfl, pl, _, rfl, ?_, h4⟩
                  by_cases hz : 0 < z
                  · rw [if_pos (by simpa using hz)]; rw [if_pos hz] at h3; exact h3
                  · rw [if_neg (by simpa using hz)]; rw [if_neg hz] at h3; exact h3
                by_cases hce : cs = []
                · rw [decide_eq_true hce]
                  obtain ⟨H4, g1, a', v', g2, g3, i, j, g4, g5, kk, g6, a2, H5, g7, g8, g9⟩ := lastly _ 1 s25 (by decide) (by decide) (fun one ho hl m hm => by have := hcin one ho hl m hm; rw [hce] at this; cases this)
                  cases g2
                  cases g7
                  refine iteT ⟨_, rfl, pl, H4, rfl, g1, ?_⟩
                  refine ⟨_, rfl, pl, v', rfl, g3, i, j, g4, g5, kk, g6, ?_⟩
                  cases kk
                  · exact iteF ⟨_, rfl, pl, H5, rfl, g8, _, rfl, g9⟩
                  · exact iteT ⟨_, rfl, pl, H5, rfl, g8, _, rfl, g9⟩
                · rw [decide_eq_false hce]
                  refine iteF ?_
                  refine ⟨(by show 1 ≤ sizeLine; decide), fun n26 hn26 => ?_⟩
                  have s26 := same_upd (o := .lst [.int 9]) hn26
                  have e2426 := SB.trans' (P := fun _ => False) s25 s26
                  refine ⟨_, rfl, n26, C, _, _, rfl, rfl, upd_same, e2426 _ _ hacc24, Nat.le_of_lt (small1000 (by simp; omega)), fun p27 hp27 => ?_⟩
                  have s27 := same_upd (o := .lst ([.int 9] ++ cs.map V.int)) hp27
                  have e2427 := SB.trans' (P := fun _ => False) e2426 s27
                  refine ⟨p27, 9 :: cs, rfl, .of upd_same, by simp, fun m hm hmin => ?_⟩
                  have hm1 : 1 ≤ m := by
                    rcases List.mem_cons.mp hm with rfl | hm
                    · decide
                    · exact hc1 _ hm
                  refine ⟨_, _, rfl, rfl, _, _, rfl, rfl, ⟨by decide, by decide⟩, .inl ⟨_, rfl, _, _, rfl, ?_⟩⟩
                  generalize hz : (if (m - 1) / 2 < 3 then (m - 1) / 2 else 3) = z
                  have hz0 : 0 ≤ z ∧ z ≤ 3 ∧ 2 * z ≤ m - 1 := by
                    rw [← hz]
                    split <;> omega
                  obtain ⟨H4, g1, a', v', g2, g3, i, j, g4, g5, kk, g6, a2, H5, g7, g8, g9⟩ := lastly _ z e2427 hz0.1 hz0.2.1 (fun one ho hl mm hmm => by have := hmin _ (List.mem_cons_of_mem _ (hcin one ho hl mm hmm)); omega)
                  cases g2
                  cases g7
                  refine ⟨_, rfl, pl, H4, rfl, g1, ?_⟩
                  refine ⟨_, rfl, pl, v', rfl, g3, i, j, g4, g5, kk, g6, ?_⟩
                  cases kk
                  · exact iteF ⟨_, rfl, pl, H5, rfl, g8, _, rfl, g9⟩
                  · exact iteT ⟨_, rfl, pl, H5, rfl, g8, _, rfl, g9⟩
            · rw [decide_eq_false hgt]
              refine iteF ?_
              refine ⟨_, rfl, fin H23 0 g (SB.refl _) ⟨_, _, hdf23, lkn (by decide +kernel) (lkn (by decide +kernel) (lkn (by decide +kernel) (lkn (by decide +kernel) (lkn (by decide +kernel) (lkn (by decide +kernel) (lkn (by decide +kernel) (lkn (by decide +kernel) lk_same))))))),
                lkn (by decide +kernel) (lkn (by decide +kernel) (lkn (by decide +kernel) (lkn (by decide +kernel) (lkn (by decide +kernel) (lkn (by decide +kernel) (lkn (by decide +kernel) lk_same)))))),
                lkn (by decide +kernel) (lkn (by decide +kernel) (lkn (by decide +kernel) (lkn (by decide +kernel) (lkn (by decide +kernel) (lkn (by decide +kernel) lk_same))))),
                lkn (by decide +kernel) (lkn (by decide +kernel) (lkn (by decide +kernel) (lkn (by decide +kernel) (lkn (by decide +kernel) lk_same)))),
                lkn (by decide +kernel) (lkn (by decide +kernel) (lkn (by decide +kernel) (lkn (by decide +kernel) lk_same))),
                lkn (by decide +kernel) (lkn (by decide +kernel) lk_same), lkn (by decide +kernel) lk_same, lk_same⟩ (by unfold gatherOk; rw [hkinds]; exact hg) (by unfold trimOk; rw [if_neg hgt]) (fun one ho hl m hm => by have := hread0 one ho hl m hm; omega)⟩
end
end Om
/-! Walks: made, own, read_by_rank. -/
namespace Om
open PySem PySem.Spec PyProof.Rows L2 OmM
def ksR : List Str := ["turn", "reads", "gather", "trim", "lists", "prizes"]
def psR : List Str := ["self", "crowd", "turn", "reads", "gather", "trim", "lists", "prizes"]
def spMade (A : Adr) : Sp := fun vs H Q _ => ∃ (pl : Addr) (ps : List Str) (mo : Int) (t : Str) (z : Int) (ls : List (List Str)) (rs : List (Str × Str)) (g : Str) (pz : Int), vs = [.ref pl] ∧ PlanAt H pl ps mo t z ls rs g pz ∧ Ok ps mo t z ls rs g pz ∧ ∀ r H', Same H H' → RuleAt A H' r ps t ls rs → Q (.ref r) H'
def spLOwn : Sp := fun vs H Q _ => ∃ (pl : Addr) (ps : List Str) (mo : Int) (t : Str) (z : Int) (ls : List (List Str)) (rs : List (Str × Str)) (g : Str) (pz : Int) (p : Str), vs = [.ref pl, .str p] ∧ PlanAt H pl ps mo t z ls rs g pz ∧ Ok ps mo t z ls rs g pz ∧ p ∈ ps ∧ ∀ D H', Same H H' → H D = none → LAt RP H' D (owned ls rs p) → Q (.ref D) H'
def spLRank : Sp := fun vs H Q _ => ∃ (pl : Addr) (ps : List Str) (mo : Int) (t : Str) (z : Int) (ls : List (List Str)) (rs : List (Str × Str)) (g : Str) (pz : Int) (p : Str), vs = [.ref pl, .str p] ∧ PlanAt H pl ps mo t z ls rs g pz ∧ Ok ps mo t z ls rs g pz ∧ p ∈ ps ∧ ∀ D H', Same H H' → H D = none → LAt RP H' D (ranked ps t ls rs p) → Q (.ref D) H'
theorem PlanAt.stay {H H' : Hp} {pl : Addr} {ps : List Str} {mo : Int} {t : Str} {z : Int} {ls : List (List Str)} {rs : List (Str × Str)} {g : Str} {pz : Int} (e : Same H H') (h : PlanAt H pl ps mo t z ls rs g pz) : PlanAt H' pl ps mo t z ls rs g pz where
  people := let ⟨lp, a, b⟩ := h.people; ⟨lp, a.stay e, e _ _ b⟩
  most := h.most.stay e
  turn := h.turn.stay e
  trim := h.trim.stay e
  lists := let ⟨ll, a, b⟩ := h.lists; ⟨ll, a.stay e, b.stay stays_RL e⟩
  reads := let ⟨lr, a, b⟩ := h.reads; ⟨lr, a.stay e, b.stay stays_RP e⟩
  gather := h.gather.stay e
  prizes := h.prizes.stay e
section
variable {P : Program} {w : World} {K : PySem.W.Frag} {mg : Str → Option Value} {base : Heap} {A : Adr}
theorem kb_R (T : Txt K mg A) : KBn K A.d_R_init psR 2 ksR (fun us ws => us ++ ws) (fun vs zs => vs ++ zs) := by
  refine ⟨fun s us ws X l1 l2 => ?_, fun r1 r2 => r1.append r2⟩
  obtain ⟨oc, od, kV, doc, pm, an, cdv, ct, osl, hfd, lk, hcd⟩ := T.F_R_init.ex
  rw [hfd]
  match us, l1, ws, l2 with
  | [_, _], _, [_, _, _, _, _, _], _ => exact .of_eq rfl
theorem u_l_made (T : Txt K mg A) : UF P w K mg base 7 "_law_made" ["_law_plan_here"] (spMade A) := by
  refine ⟨_, _, T.F_l_made.ok sc_l_made (fun vs H Q E h => ?_) (fun cdv A' outer s H vs Q E hr h => ?_), T.g_l_made, T.F_l_made.kp, T.F_l_made.binds fun _ _ _ _ _ _ us hl => match us, hl with | [_], _ => rfl⟩
  · obtain ⟨pl, ps, mo, t, z, ls, rs, g, pz, rfl, _⟩ := h
    rfl
  · obtain ⟨pl, ps, mo, t, z, ls, rs, g, pz, rfl, hPl, hOk, k⟩ := h
    have nd := sc_l_made.nd
    have hu := hu_of hr
    have bC := T.F_C_init.binds (ps := ["self", "people", "most"]) fun _ _ _ _ _ _ us hl => match us, hl with | [_, _, _], _ => rfl
    refine ⟨_, (pss_one (ps_ret (pe_makeK (n := 1) T.i_R_init (u_R_init T) (hr.mono (by decide)) rfl T.g_Rule (kb_R T) pass0 (pa_cons (pe_make T.i_C_init (u_C_init T) (hr.mono (by decide)) rfl T.g_Crowd bC .nil pass0 (pa_cons (pe_dget hu (pv 0) pe_str (fun _ _ => rfl)) (pa_cons (pe_dget hu (pv 0) pe_str (fun _ _ => rfl)) pa_nil))) pa_nil)
      (pk_cons (pe_dget hu (pv 0) pe_str (fun _ _ => rfl)) (pk_cons (pe_bt call_list_of T.n_list (pa_cons (pe_dget hu (pv 0) pe_str (fun _ _ => rfl)) pa_nil)) (pk_cons (pe_dget hu (pv 0) pe_str (fun _ _ => rfl)) (pk_cons (pe_dget hu (pv 0) pe_str (fun _ _ => rfl)) (pk_cons (pe_lc (own := [("_law_one", 1)]) rfl nd (pi_list (pe_dget hu (pv 0) pe_str (fun _ _ => rfl))) (blkOk_by (N := n_l_made) (sc := defScope s_l_made) (by decide +kernel)) (fun _ _ _ _ _ => pg_name (i := 1) nd rfl (Or.inl rfl)) (fun _ _ _ _ _ => pts_nil) (fun _ _ _ _ _ => (pe_bt (listK (K := K) rfl) T.n_list (pa_cons (pv 1) pa_nil)))) (pk_cons (pe_dget hu (pv 0) pe_str (fun _ _ => rfl)) pk_nil))))))))), ?_⟩
    obtain ⟨lp, hk1, hlp⟩ := hPl.people
    obtain ⟨ll, hk2, vl, hvl, hpl⟩ := hPl.lists
    obtain ⟨lr, hk3, vr, hvr, hpr⟩ := hPl.reads
    have G := hOk.good
    refine ⟨_, rfl, pl, _, rfl, hk1.get, _, rfl, pl, _, rfl, hPl.most.get, fun x dx hx hdx ndx => ?_⟩
    have s1 : Same H (upd (upd H dx (.own x)) x (.ins A.C dx [])) := fun b o hb => by
      rw [upd_ne (ne_of_none hb hx), upd_ne (ne_of_none hb hdx)]; exact hb
    refine ⟨x, dx, lp, ps, mo, rfl, upd_same, s1 _ _ hlp, G.nm, G.nd, hOk.n1, G.l7, hOk.m1, hOk.m10, fun H1 sb1 hC1 => ⟨rfl, ?_⟩⟩
    have e1 : Same H H1 := fun b o hb => sb1 _ _ (s1 _ _ hb) (ne_of_none hb hx)
    refine ⟨_, rfl, pl, _, rfl, (hPl.turn.stay e1).get, ?_⟩
    refine ⟨_, rfl, pl, _, rfl, (hk3.stay e1).get, lr, vr, rfl, .inl (.of (e1 _ _ hvr)), fun r2 hr2 => ?_⟩
    have s2 := same_upd (o := .lst vr) hr2
    have e2 := SB.trans' (P := fun _ => False) e1 s2
    have hr2v : (upd H1 r2 (.lst vr)) r2 = some (.lst vr) := upd_same
    generalize (upd H1 r2 (.lst vr)) = H2 at *
    refine ⟨_, rfl, pl, _, rfl, (hPl.gather.stay e2).get, _, rfl, pl, _, rfl, (hPl.trim.stay e2).get, ?_⟩
    refine ⟨_, rfl, pl, _, rfl, (hk2.stay e2).get, ll, rfl, ⟨_, .of (e2 _ _ hvl)⟩, fun D hD => lc_pure (R := RL) (Ro := RL) (src_list (.of (e2 _ _ hvl)) (fun z => z) (fun _ _ _ e h => stays_RL _ _ _ _ e.same h) (paired_stays stays_RL e2 hpl)) hD (Nat.lt_of_le_of_lt G.ll7 (by decide)) stays_RL (fun one => some one) ?_ ?_⟩
    · intro d y H3 acc Ny Nn hd e3 hacc hy hyy hyn
      obtain ⟨q, rfl, hq⟩ := hy
      refine ⟨rfl, yes ⟨_, rfl, q, _, rfl, .inl (.of hq), fun m hm => ?_⟩⟩
      exact hyy _ _ d (same_upd hm) (fun o => ⟨m, rfl, by rw [upd_ne (ne_of_none hacc hm).symm]; exact upd_same⟩) rfl
    · intro H3 acc e3 hacc pr
      rw [fm_all] at pr
      have e03 := SB.trans' (P := fun _ => False) e2 e3
      have e13 : Same H1 H3 := SB.trans' (P := fun _ => False) s2 e3
      refine ⟨_, rfl, pl, _, rfl, (hPl.prizes.stay e03).get, rfl, rfl, fun x4 dx4 hx4 hdx4 ndx4 => ?_⟩
      have s4 : Same H3 (upd (upd H3 dx4 (.own x4)) x4 (.ins A.R dx4 [])) := fun b o hb => by
        rw [upd_ne (ne_of_none hb hx4), upd_ne (ne_of_none hb hdx4)]; exact hb
      have e24 := SB.trans' (P := fun _ => False) e3 s4
      have e04 := SB.trans' (P := fun _ => False) e03 s4
      refine ⟨x4, dx4, x, r2, D, ps, t, g, rs, ls, z, pz, rfl, upd_same, hC1.stay (SB.trans' (P := fun _ => False) e13 s4), G.nm, G.nd, G.l7, hOk.turn, ⟨vr, e24 _ _ hr2v, paired_stays stays_RP e04 hpr⟩, G.rd, hOk.gather, hOk.trim, ⟨acc, s4 _ _ hacc, paired_stays stays_RL s4 pr⟩, G.par, G.ll7, hOk.readers, hOk.p0, hOk.p8, fun H5 sb5 hR5 => ⟨rfl, ?_⟩⟩
      exact k x4 H5 (fun b o hb => sb5 _ _ (e04 _ _ hb) (ne_of_none (e03 _ _ hb) hx4)) hR5
theorem u_l_own (T : Txt K mg A) : UF P w K mg base 2 "_law_own" ["_law_plan_here", "_law_person"] spLOwn := by
  refine ⟨_, _, T.F_l_own.ok sc_l_own (fun vs H Q E h => ?_) (fun cdv A' outer s H vs Q E hr h => ?_), T.g_l_own, T.F_l_own.kp, T.F_l_own.binds fun _ _ _ _ _ _ us hl => match us, hl with | [_, _], _ => rfl⟩
  · obtain ⟨pl, ps, mo, t, z, ls, rs, g, pz, p, rfl, _⟩ := h
    rfl
  · obtain ⟨pl, ps, mo, t, z, ls, rs, g, pz, p, rfl, hPl, hOk, hp, k⟩ := h
    have nd := sc_l_own.nd
    have hu := hu_of hr
    refine ⟨_, (pss_one (ps_ret (pe_lc (own := [("_law_pair", 2)]) rfl nd (pi_list (pe_dget hu (pv 0) pe_str (fun _ _ => rfl))) (blkOk_by (N := n_l_own) (sc := defScope s_l_own) (by decide +kernel)) (fun _ _ _ _ _ => pg_name (i := 2) nd rfl (Or.inl rfl)) (fun _ _ _ _ _ => pts_one (PW.pt (pw_and (pt_cmpR op_eq (pe_ix (ix_tupK (K := K) rfl) (pv 2) pe_int (fun _ _ => rfl)) (pv 1) (nomark _)) (pw_and1 (pt_cmpR (op_inK (K := K) rfl) (pe_ix (ix_tupK (K := K) rfl) (pv 2) pe_int (fun _ _ => rfl)) (pe_f (u_l_list T) (hr.mono (by decide)) (pa_cons (pv 0) (pa_cons (pv 1) pa_nil))) (by rfl)))))) (fun _ _ _ _ _ => (pv 2))))), ?_⟩
    obtain ⟨ll, hk2, hL⟩ := hPl.lists
    obtain ⟨lr, hk3, vr, hvr, hpr⟩ := hPl.reads
    have G := hOk.good
    refine ⟨_, rfl, pl, _, rfl, hk3.get, lr, rfl, ⟨_, .of hvr⟩, fun D hD => lc_pure (R := RP) (Ro := RP) (src_list (.of hvr) (fun z => z) (fun _ _ _ e h => stays_RP _ _ _ _ e.same h) hpr) hD (Nat.lt_of_le_of_lt G.rl (by decide)) stays_RP (fun q => if (decide (q.1 = p) && decide (q.2 ∈ listOf ls p)) = true then some q else none) ?_ ?_⟩
    · intro d x H3 acc Ny Nn hd e3 hacc hx hy hn
      obtain ⟨q, rfl, hq⟩ := hx
      refine ⟨rfl, _, rfl, q, _, _, _, rfl, rfl, .of hq, atI_nat (j := 0) rfl, _, rfl, rfl, decide (d.1 = p), by simp, ?_⟩
      by_cases h : d.1 = p
      · rw [decide_eq_true h]
        refine iteT ⟨_, rfl, q, _, _, _, rfl, rfl, .of hq, atI_nat (j := 1) rfl, _, rfl, _, rfl, pl, ll, p, ps, ls, rfl, hk2.stay e3, hL.stay stays_RL e3, G.par, hp, G.ll7, fun m H4 e4 hm => ⟨m, _, rfl, .inl (.of hm), rfl, flat_strs _, _, congrArg V.bl (inV_str d.2 _), ?_⟩⟩
        by_cases h2 : d.2 ∈ listOf ls p
        · rw [decide_eq_true h2]
          exact iteT ⟨_, rfl, hy _ _ d e4 (fun o => ⟨q, rfl, by rw [upd_ne (ne_of hq hacc (by intro z; cases z))]; exact e4 _ _ hq⟩) (by simp [h, h2])⟩
        · rw [decide_eq_false h2]
          exact iteF (hn _ e4 (by simp [h2]))
      · rw [decide_eq_false h]
        exact iteF (hn _ (fun _ _ h => h) (by simp [h]))
    · intro H3 acc e3 hacc pr
      rw [fm_if] at pr
      exact k D H3 e3 hD ⟨acc, hacc, pr⟩
theorem filter_mem_fst {ps : List Str} {rs : List (Str × Str)} {ms : List Str} (hR : Reads ps rs) : ∀ q : Str × Str, decide (q.1 ∈ (rs.filter fun r => decide (r.2 ∈ ms)).map (·.1)) = !decide (ms.filter (fun m => decide ((q.1, m) ∈ rs)) = []) := by
  intro q
  by_cases h : q.1 ∈ (rs.filter fun r => decide (r.2 ∈ ms)).map (·.1)
  · rw [decide_eq_true h]
    obtain ⟨r, hr, e⟩ := List.mem_map.mp h
    obtain ⟨h1, h2⟩ := List.mem_filter.mp hr
    have hm : r.2 ∈ ms.filter fun m => decide ((q.1, m) ∈ rs) := List.mem_filter.mpr ⟨by simpa using h2, by rw [← e]; simpa using h1⟩
    rw [decide_eq_false fun z => by rw [z] at hm; cases hm]
    rfl
  · rw [decide_eq_false h]
    have : ms.filter (fun m => decide ((q.1, m) ∈ rs)) = [] := by
      rw [List.filter_eq_nil_iff]
      intro m hm hd
      exact h (List.mem_map.mpr ⟨(q.1, m), List.mem_filter.mpr ⟨by simpa using hd, by simpa using hm⟩, rfl⟩)
    rw [decide_eq_true this]
    rfl
theorem u_l_read_by_rank (T : Txt K mg A) : UF P w K mg base 2 "_law_read_by_rank" ["_law_plan_here", "_law_person"] spLRank := by
  refine ⟨_, _, T.F_l_read_by_rank.ok sc_l_read_by_rank (fun vs H Q E h => ?_) (fun cdv A' outer s H vs Q E hr h => ?_), T.g_l_read_by_rank, T.F_l_read_by_rank.kp, T.F_l_read_by_rank.binds fun _ _ _ _ _ _ us hl => match us, hl with | [_, _], _ => rfl⟩
  · obtain ⟨pl, ps, mo, t, z, ls, rs, g, pz, p, rfl, _⟩ := h
    rfl
  · obtain ⟨pl, ps, mo, t, z, ls, rs, g, pz, p, rfl, hPl, hOk, hp, k⟩ := h
    have nd := sc_l_read_by_rank.nd
    have hu := hu_of hr
    refine ⟨_, (pss_cons (ps_set (i := 2) nd rfl (Or.inr rfl) (pe_f (u_l_list T) (hr.mono (by decide)) (pa_cons (pv 0) (pa_cons (pv 1) pa_nil))))
      (pss_cons (ps_if (pt_cmpR op_lt (pe_b call_len T.n_len (pa_cons (pv 2) pa_nil)) pe_int (nomark _)) (pss_one (ps_ret (pe_lst pa_nil))) pss_nil)
      (pss_cons (ps_if (pt_cmpR op_eq (pe_dget hu (pv 0) pe_str (fun _ _ => rfl)) pe_str (nomark _)) (pss_one (ps_ret (pe_lc (own := [("_law_pair", 3)]) rfl nd (pi_list (pe_dget hu (pv 0) pe_str (fun _ _ => rfl))) (blkOk_by (N := n_l_read_by_rank) (sc := defScope s_l_read_by_rank) (by decide +kernel)) (fun _ _ _ _ _ => pg_name (i := 3) nd rfl (Or.inl rfl)) (fun _ _ _ _ _ => pts_one (pt_cmpR (op_inK (K := K) rfl) (pe_ix (ix_tupK (K := K) rfl) (pv 3) pe_int (fun _ _ => rfl)) (pv 2) (by rfl))) (fun _ _ _ _ _ => (pv 3))))) pss_nil)
      (pss_cons (ps_set (i := 4) nd rfl (Or.inr rfl) (pe_lc (own := [("_law_pair", 3)]) rfl nd (pi_list (pe_dget hu (pv 0) pe_str (fun _ _ => rfl))) (blkOk_by (N := n_l_read_by_rank) (sc := defScope s_l_read_by_rank) (by decide +kernel)) (fun _ _ _ _ _ => pg_name (i := 3) nd rfl (Or.inl rfl)) (fun _ _ _ _ _ => pts_one (pt_cmpR (op_inK (K := K) rfl) (pe_ix (ix_tupK (K := K) rfl) (pv 3) pe_int (fun _ _ => rfl)) (pv 2) (by rfl))) (fun _ _ _ _ _ => (pe_ix (ix_tupK (K := K) rfl) (pv 3) pe_int (fun _ _ => rfl)))))
      (pss_one (ps_ret (pe_lc (own := [("_law_pair", 3)]) rfl nd (pi_list (pe_f (u_l_pairs T) (hr.mono (by decide)) (pa_cons (pe_dget hu (pv 0) pe_str (fun _ _ => rfl)) pa_nil))) (blkOk_by (N := n_l_read_by_rank) (sc := defScope s_l_read_by_rank) (by decide +kernel)) (fun _ _ _ _ _ => pg_name (i := 3) nd rfl (Or.inl rfl)) (fun _ _ _ _ _ => pts_one (pt_cmpR (op_inK (K := K) rfl) (pe_ix (ix_tupK (K := K) rfl) (pv 3) pe_int (fun _ _ => rfl)) (pv 4) (by rfl))) (fun _ _ _ _ _ => (pv 3))))))))), ?_⟩
    obtain ⟨lp, hk1, hlp⟩ := hPl.people
    obtain ⟨ll, hk2, hL⟩ := hPl.lists
    obtain ⟨lr, hk3, vr, hvr, hpr⟩ := hPl.reads
    have G := hOk.good
    refine ⟨_, rfl, _, rfl, pl, ll, p, ps, ls, rfl, hk2, hL, G.par, hp, G.ll7, fun m H1 e1 hm => ?_⟩
    refine ⟨_, rfl, .ref m, (listOf ls p).length, rfl, .inl ⟨_, .of hm, by rw [List.length_map]⟩, _, _, rfl, rfl, decide ((listOf ls p).length < 2), congrArg V.bl (decide_eq_decide.mpr (by omega)), ?_⟩
    by_cases hl : (listOf ls p).length < 2
    · rw [decide_eq_true hl]
      refine iteT ⟨Nat.zero_le _, fun D hD => ?_⟩
      have hrk : ranked ps t ls rs p = [] := by
        unfold ranked
        rw [List.filter_eq_nil_iff]
        intro q _
        unfold readBy
        rw [if_pos hl]
        decide
      exact k D _ (SB.trans' (P := fun _ => False) e1 (same_upd hD)) (none_of_sb (P := fun _ => False) (.of e1) hD (fun z => z)) (by rw [hrk]; exact ⟨[], upd_same, .nil⟩)
    rw [decide_eq_false hl]
    refine iteF ?_
    have hvr1 := e1 _ _ hvr
    have hpr1 := paired_stays stays_RP e1 hpr
    refine ⟨_, rfl, pl, _, rfl, (hPl.turn.stay e1).get, rfl, decide (t = "plain"), by simp, ?_⟩
    by_cases ht : t = "plain"
    · rw [decide_eq_true ht]
      refine iteT ?_
      have hrk : ranked ps t ls rs p = rs.filter fun q => decide (q.2 ∈ listOf ls p) := by
        unfold ranked
        rw [← G.rd.filter]
        refine List.filter_congr fun q _ => ?_
        unfold readBy
        rw [if_neg hl, if_pos ht]
      refine ⟨_, rfl, pl, _, rfl, (hk3.stay e1).get, lr, rfl, ⟨_, .of hvr1⟩, fun D hD => lc_pure (R := RP) (Ro := RP) (src_list (.of hvr1) (fun z => z) (fun _ _ _ e h => stays_RP _ _ _ _ e.same h) hpr1) hD (Nat.lt_of_le_of_lt G.rl (by decide)) stays_RP (fun q => if decide (q.2 ∈ listOf ls p) = true then some q else none) ?_ ?_⟩
      · intro d x H3 acc Ny Nn hd e3 hacc hx hy hn
        obtain ⟨q, rfl, hq⟩ := hx
        refine ⟨rfl, _, rfl, q, _, _, _, rfl, rfl, .of hq, atI_nat (j := 1) rfl, _, rfl, m, _, rfl, .inl (.of (e3 _ _ hm)), rfl, flat_strs _, _, congrArg V.bl (inV_str d.2 _), ?_⟩
        by_cases h2 : d.2 ∈ listOf ls p
        · rw [decide_eq_true h2]
          exact iteT ⟨_, rfl, hy _ _ d (fun _ _ h => h) (fun o => ⟨q, rfl, by rw [upd_ne (ne_of hq hacc (by intro z; cases z))]; exact hq⟩) (by simp [h2])⟩
        · rw [decide_eq_false h2]
          exact iteF (hn _ (fun _ _ h => h) (by simp [h2]))
      · intro H3 acc e3 hacc pr
        rw [fm_if] at pr
        exact k D H3 (SB.trans' (P := fun _ => False) e1 e3) (none_of_sb (P := fun _ => False) (.of e1) hD (fun z => z)) (by rw [hrk]; exact ⟨acc, hacc, pr⟩)
    · rw [decide_eq_false ht]
      refine iteF ?_
      have hrk : ranked ps t ls rs p = (pairs ps).filter fun q => decide (q.1 ∈ (rs.filter fun r => decide (r.2 ∈ listOf ls p)).map (·.1)) := by
        unfold ranked
        refine List.filter_congr fun q _ => ?_
        unfold readBy
        rw [if_neg hl, if_neg ht, filter_mem_fst G.rd]
      refine ⟨_, rfl, pl, _, rfl, (hk3.stay e1).get, lr, rfl, ⟨_, .of hvr1⟩, fun D hD => lc_pure (R := RP) (Ro := RS) (src_list (.of hvr1) (fun z => z) (fun _ _ _ e h => stays_RP _ _ _ _ e.same h) hpr1) hD (Nat.lt_of_le_of_lt G.rl (by decide)) stays_RS (fun q => if decide (q.2 ∈ listOf ls p) = true then some q.1 else none) ?_ ?_⟩
      · intro d x H3 acc Ny Nn hd e3 hacc hx hy hn
        obtain ⟨q, rfl, hq⟩ := hx
        refine ⟨rfl, _, rfl, q, _, _, _, rfl, rfl, .of hq, atI_nat (j := 1) rfl, _, rfl, m, _, rfl, .inl (.of (e3 _ _ hm)), rfl, flat_strs _, _, congrArg V.bl (inV_str d.2 _), ?_⟩
        by_cases h2 : d.2 ∈ listOf ls p
        · rw [decide_eq_true h2]
          exact iteT ⟨_, rfl, q, _, _, _, rfl, rfl, .of hq, atI_nat (j := 0) rfl, hy _ _ d.1 (fun _ _ h => h) (fun _ => rfl) (by simp [h2])⟩
        · rw [decide_eq_false h2]
          exact iteF (hn _ (fun _ _ h => h) (by simp [h2]))
      · intro H3 acc e3 hacc pr
        have hfm : rs.filterMap (fun q => if decide (q.2 ∈ listOf ls p) = true then some q.1 else none) = (rs.filter fun r => decide (r.2 ∈ listOf ls p)).map (·.1) := by
          generalize rs = l
          induction l with
          | nil => rfl
          | cons c l ih =>
            by_cases h : c.2 ∈ listOf ls p
            · simp [h] at ih ⊢; exact ih
            · simp [h] at ih ⊢; exact ih
        rw [hfm] at pr
        have hD3 := LAt.str ⟨acc, hacc, pr⟩
        have e13 := SB.trans' (P := fun _ => False) e1 e3
        refine ⟨_, rfl, pl, _, rfl, (hk1.stay e13).get, lp, ps, rfl, e13 _ _ hlp, G.l7, fun l4 H4 e4 hl4 ⟨v4, hv4, hp4⟩ => ⟨l4, rfl, ⟨_, .of hv4⟩, fun D5 hD5 => lc_pure (R := RP) (Ro := RP) (src_list (.of hv4) (fun z => z) (fun _ _ _ e h => stays_RP _ _ _ _ e.same h) hp4) hD5 (Nat.lt_of_le_of_lt (len_pairs G.l7) (by decide)) stays_RP (fun q => if decide (q.1 ∈ (rs.filter fun r => decide (r.2 ∈ listOf ls p)).map (·.1)) = true then some q else none) ?_ ?_⟩⟩
        · intro d x H5 acc5 Ny Nn hd e5 hacc5 hx hy hn
          obtain ⟨q, rfl, hq⟩ := hx
          refine ⟨rfl, _, rfl, q, _, _, _, rfl, rfl, .of hq, atI_nat (j := 0) rfl, _, rfl, D, _, rfl, .inl (.of (e5 _ _ (e4 _ _ hD3))), rfl, flat_strs _, _, congrArg V.bl (inV_str d.1 _), ?_⟩
          by_cases h2 : d.1 ∈ (rs.filter fun r => decide (r.2 ∈ listOf ls p)).map (·.1)
          · rw [decide_eq_true h2]
            exact iteT ⟨_, rfl, hy _ _ d (fun _ _ h => h) (fun o => ⟨q, rfl, by rw [upd_ne (ne_of hq hacc5 (by intro z; cases z))]; exact hq⟩) (by rw [if_pos (decide_eq_true h2)])⟩
          · rw [decide_eq_false h2]
            exact iteF (hn _ (fun _ _ h => h) (by rw [if_neg (by rw [decide_eq_false h2]; decide)]))
        · intro H5 acc5 e5 hacc5 pr5
          rw [fm_if] at pr5
          have e14 := SB.trans' (P := fun _ => False) e13 e4
          exact k D5 H5 (SB.trans' (P := fun _ => False) e14 e5) (none_of_sb (P := fun _ => False) (.of e14) hD5 (fun z => z)) (by rw [hrk]; exact ⟨acc5, hacc5, pr5⟩)
end
end Om
/-! A generator def that a comprehension walks: the one that walks owns a list at S and its frame's dict at C. -/
namespace Om
open PySem PySem.Spec PyProof.Rows L2 GenW

/-- asleep: v goes behind the list at S, the dict at C may turn, the rest stands -/
structure Nap (S C : Addr) (v : Value) (s s' : Shared) : Prop where
  os : s'.os = s.os
  bare : AllBare s'.gens
  keep : ∀ b o, b ≠ S → b ≠ C → s.heap.get? b = some o → s'.heap.get? b = some o
  own : ∀ acc c, s.heap.get? S = some (lstObj acc c) → ∃ c2, s'.heap.get? S = some (lstObj (acc.push v) c2)
  frame : ∃ o, s'.heap.get? C = some o ∧ ∀ z, o.data ≠ .cell z
/-- running, woken at s0: ys are out; ip: its own iterators -/
def NI (X : Cx) (S C : Addr) (ip : List (Addr × Obj)) (ys : List V) (s0 : Shared) (σ : L2.St) (H : Hp) (s : Shared) : Prop :=
  ∃ acc c oC, Vals ys acc.toList ∧ s0.heap.get? C = some oC ∧ Inv X ((S, lstObj acc c) :: (C, oC) :: ip) σ H s
/-- where its code stands -/
structure NC (X : Cx) (S C : Addr) (ip : List (Addr × Obj)) (A : Around) (c : Code) (fs : List Frame) (gd : Bool → Bool) : Prop where
  calm : ∀ e s, X.xe e s → False
  diff : S ≠ C
  pnS : ∀ p ∈ X.pn, p.1 ≠ S ∧ p.1 ≠ C
  ipS : ∀ p ∈ ip, p.1 ≠ S ∧ p.1 ≠ C
  apS : Apart X S
  apC : Apart X C
  over : A.over c fs = X.A
  split : splitAtGen fs = none
  guard : fs.any Frame.guarded = false
  gd : gd false = false
def NP (X : Cx) (S C : Addr) (ip : List (Addr × Obj)) (D : GEnds) (ys : List V) (s0 : Shared) (f : Flow) (s : Shared) : Prop :=
  match f with
  | .next => ∃ σ H, NI X S C ip ys s0 σ H s ∧ D.nx ys σ H
  | .brk => ∃ σ H, NI X S C ip ys s0 σ H s ∧ D.bk ys σ H
  | .cont => ∃ σ H, NI X S C ip ys s0 σ H s ∧ D.ct ys σ H
  | .ret u => ∃ v σ H, NI X S C ip ys s0 σ H s ∧ RelV v u ∧ D.rt ys v H
def NY (X : Cx) (S C : Addr) : Protocol := fun n s0 v s kap =>
  ∃ ys x ip σ H, n + 1 + ys.length = sizeLine ∧ RelV x v ∧ NI X S C ip ys s0 σ H s ∧ ∀ s', Nap S C v s s' → kap (.send .none) s'
def NR (X : Cx) (S C : Addr) (Q : List V → VK) : GenEnd := fun n s0 r s => match r with
  | .ok (.ret u) => ∃ ys v ip σ H, n + ys.length = sizeLine ∧ NI X S C ip ys s0 σ H s ∧ RelV v u ∧ Q ys v H
  | _ => False
abbrev NK (X : Cx) (S C : Addr) (ip : List (Addr × Obj)) (A : Around) (R : GenEnd) (c : Code) (fs : List Frame) (K : Flow → Sem PySem.Fin) (D : GEnds) : Prop :=
  ∀ (n : Nat) (ys : List V) (s0 s : Shared) (f : Flow), n + ys.length = sizeLine → NP X S C ip D ys s0 f s → Seg (model X.prog X.w) A R (NY X S C) n s0 c (K f) fs s
structure NS (X : Cx) (st : Stmt) (t : TGn) : Prop where
  run : ∀ (A : Around) (S C : Addr) (ip : List (Addr × Obj)) (R : GenEnd) (n : Nat) (ys : List V) (s0 : Shared) (c : Code) (fs : List Frame) (K : Flow → Sem PySem.Fin) (J : Value → Sem PySem.Fin) (gd : Bool → Bool) (lv : List Value → List Value) (s : Shared) (σ : L2.St) (H : Hp) (D : GEnds),
    NC X S C ip A c fs gd → n + ys.length = sizeLine → NK X S C ip A R c fs K D → NI X S C ip ys s0 σ H s → t D ys σ H → Seg (model X.prog X.w) A R (NY X S C) n s0 c ((exec st X.env).wrap K J gd lv) fs s
structure NSs (X : Cx) (sts : List Stmt) (t : TGn) : Prop where
  run : ∀ (A : Around) (S C : Addr) (ip : List (Addr × Obj)) (R : GenEnd) (n : Nat) (ys : List V) (s0 : Shared) (c : Code) (fs : List Frame) (K : Flow → Sem PySem.Fin) (J : Value → Sem PySem.Fin) (gd : Bool → Bool) (lv : List Value → List Value) (s : Shared) (σ : L2.St) (H : Hp) (D : GEnds),
    NC X S C ip A c fs gd → n + ys.length = sizeLine → NK X S C ip A R c fs K D → NI X S C ip ys s0 σ H s → t D ys σ H → Seg (model X.prog X.w) A R (NY X S C) n s0 c ((execs sts X.env).wrap K J gd lv) fs s

section
variable {X : Cx} {S C : Addr} {ip : List (Addr × Obj)} {ys : List V} {s0 s s' : Shared} {σ : L2.St} {H : Hp}
theorem NI.sees (h : NI X S C ip ys s0 σ H s) : H S = none ∧ H C = none ∧ ∃ acc c, Vals ys acc.toList ∧ s.heap.get? S = some (lstObj acc c) ∧ (∀ o, s0.heap.get? C = some o → s.heap.get? C = some o) := by
  obtain ⟨acc, c, oC, r, hC, I⟩ := h
  obtain ⟨a1, a2, _⟩ := I.pin (S, lstObj acc c) (List.mem_append_right _ List.mem_cons_self)
  obtain ⟨b1, b2, _⟩ := I.pin (C, oC) (List.mem_append_right _ (List.mem_cons_of_mem _ List.mem_cons_self))
  exact ⟨a2, b2, acc, c, r, a1, fun o e => by rw [hC] at e; cases e; exact b1⟩
/-- it wakes again -/
theorem NI.wake {x : V} {v : Value} {A : Around} {c : Code} {fs : List Frame} {gd : Bool → Bool} (g : NC X S C ip A c fs gd) (h : NI X S C ip ys s0 σ H s) (rv : RelV x v) (z : Nap S C v s s') : NI X S C ip (ys ++ [x]) s' σ H s' := by
  obtain ⟨acc, cc, oC, r, hC, I⟩ := h
  obtain ⟨eS, hS0, hSL, hSf, _⟩ := I.pin (S, lstObj acc cc) (List.mem_append_right _ List.mem_cons_self)
  obtain ⟨eC, hC0, hCL, hCf, _⟩ := I.pin (C, oC) (List.mem_append_right _ (List.mem_cons_of_mem _ List.mem_cons_self))
  have Ip : Inv X ip σ H s := I.pins_of fun p hp => I.pin p (List.mem_append_right _ (List.mem_cons_of_mem _ (List.mem_cons_of_mem _ hp)))
  obtain ⟨z1, z2, z3, z4, oC2, z5, z6⟩ := z
  obtain ⟨c2, eS2⟩ := z4 acc cc eS
  obtain ⟨hh, gg, dd, tt, oo⟩ := s'
  have ho : oo = s.os := z1
  subst ho
  have off : ∀ b, b ∉ [S, C] → b ≠ S ∧ b ≠ C := fun b hb => ⟨fun e => hb (by simp [e]), fun e => hb (by simp [e])⟩
  have stays : ∀ b ob, b ∉ [S, C] → s.heap.get? b = some ob → hh.get? b = some ob := fun b ob hb q => z3 b ob (off b hb).1 (off b hb).2 q
  have apart2 : ∀ b ∈ [S, C], (b ∈ X.ex ∨ X.s_0.heap.objs.size ≤ b) ∧ b ≠ X.env.locals ∧ (∀ y c, X.env.cells.lookup y = some c → c ≠ b) ∧ ∀ p ∈ X.pn ++ ip, p.1 ≠ b := fun b hb => by
    have hb : b = S ∨ b = C := by simpa using hb
    rcases hb with rfl | rfl
    · exact ⟨.inr g.apS.1, g.apS.2.1, g.apS.2.2, fun p hp => (List.mem_append.mp hp).elim (fun q => (g.pnS p q).1) fun q => (g.ipS p q).1⟩
    · exact ⟨.inr g.apC.1, g.apC.2.1, g.apC.2.2, fun p hp => (List.mem_append.mp hp).elim (fun q => (g.pnS p q).2) fun q => (g.ipS p q).2⟩
  have J : Inv X ip σ H { s with heap := hh, gens := gg, drawn := dd, toks := tt } := by
    refine Ip.step (g' := gg) (t' := tt) (d' := dd) (ch := [S, C]) apart2 (fun b ob _ _ hc q _ => stays b ob hc q) (fun b ob _ _ hc q _ => ⟨ob.slots, stays b ob hc q⟩) (fun _ _ _ _ n => n) (fun b ob hc q => ⟨ob, stays b ob hc q⟩)
      (fun _ _ q => q) (fun _ _ _ q => q) (fun b ps q => ⟨#[], by rw [q]; simp⟩) (fun m hm => ?_) (fun b u q => ?_) z2
    · obtain ⟨ob, es, ep, hob, rest⟩ := hm
      exact ⟨ob, es, ep, stays _ ob (fun q => by rcases (by simpa using q : _ = S ∨ _ = C) with q | q; exact hSL q.symm; exact hCL q.symm) hob, rest⟩
    · have tracked : ∀ d y, H d = some y → d ∉ [S, C] := fun d y e q => by
        rcases (by simpa using q : d = S ∨ d = C) with q | q
        · rw [q, hS0] at e; cases e
        · rw [q, hC0] at e; cases e
      refine (Ip.hok b u q).stay (fun d y hc e => stays d y ?_ e) (fun _ e => e) fun _ _ e => e
      rcases hc with e2 | e2
      · rw [e2]; exact tracked b u q
      · exact tracked d _ e2
  refine ⟨acc.push v, c2, oC2, ?_, z5, J.pins_of fun p hp => ?_⟩
  · rw [Array.toList_push]
    exact r.append (.cons rv .nil)
  · rcases List.mem_cons.mp hp with hp | hp
    · rw [hp]
      exact ⟨eS2, hS0, hSL, hSf, fun _ q => by cases q⟩
    · rcases List.mem_cons.mp hp with hp | hp
      · rw [hp]
        exact ⟨z5, hC0, hCL, hCf, z6⟩
      · exact J.pin p (List.mem_append_right _ hp)
theorem NP.of_sp {D : GEnds} {f : Flow} {acc : Array Value} {c : Nat} {oC : Obj} (r : Vals ys acc.toList) (hC : s0.heap.get? C = some oC) (h : SP X ((S, lstObj acc c) :: (C, oC) :: ip) (D.at ys) f s) : NP X S C ip D ys s0 f s := by
  cases f with
  | next => obtain ⟨σ1, H1, I, q⟩ := h; exact ⟨σ1, H1, ⟨acc, c, oC, r, hC, I⟩, q⟩
  | brk => obtain ⟨σ1, H1, I, q⟩ := h; exact ⟨σ1, H1, ⟨acc, c, oC, r, hC, I⟩, q⟩
  | cont => obtain ⟨σ1, H1, I, q⟩ := h; exact ⟨σ1, H1, ⟨acc, c, oC, r, hC, I⟩, q⟩
  | ret u => obtain ⟨v, σ1, H1, I, r1, q⟩ := h; exact ⟨v, σ1, H1, ⟨acc, c, oC, r, hC, I⟩, r1, q⟩
end
section
variable {X : Cx} {st : Stmt} {sts : List Stmt} {t u : TGn}
theorem ns_plain {t : TS} (h : PS X st t) : NS X st (tPlain t) := by
  refine ⟨fun A S C ip R n ys s0 c fs K J gd lv s σ H D g hl k hI ht => ?_⟩
  obtain ⟨acc, cc, oC, r, hC, I⟩ := hI
  refine seg_wrap ?_
  rw [g.over]
  exact wpAny_mono (h.run _ s σ H (D.at ys) I ht) (fun f s1 hs => k n ys s0 s1 f hl (NP.of_sp r hC hs)) fun x s1 hx => (g.calm x s1 hx).elim
theorem nss_one (h : NS X st t) : NSs X [st] t := by
  refine ⟨fun A S C ip R n ys s0 c fs K J gd lv s σ H D g hl k hI ht => seg_execs_cons ?_⟩
  refine h.run A S C ip R n ys s0 c fs _ J gd lv s σ H D g hl (fun n1 ys1 s1 s2 f hl1 hs => ?_) hI ht
  cases f with
  | next => exact seg_execs_nil (k n1 ys1 s1 s2 .next hl1 hs)
  | brk => exact k n1 ys1 s1 s2 .brk hl1 hs
  | cont => exact k n1 ys1 s1 s2 .cont hl1 hs
  | ret v => exact k n1 ys1 s1 s2 (.ret v) hl1 hs
theorem nss_cons (h1 : NS X st t) (h2 : NSs X sts u) : NSs X (st :: sts) (tGThen t u) := by
  refine ⟨fun A S C ip R n ys s0 c fs K J gd lv s σ H D g hl k hI ht => seg_execs_cons ?_⟩
  refine h1.run A S C ip R n ys s0 c fs _ J gd lv s σ H { D with nx := fun y1 σ1 H1 => u D y1 σ1 H1 } g hl (fun n1 ys1 s1 s2 f hl1 hs => ?_) hI ht
  cases f with
  | next =>
    obtain ⟨σ1, H1, I1, q⟩ := hs
    exact h2.run A S C ip R n1 ys1 s1 c fs K J gd lv s2 σ1 H1 D g hl1 k I1 q
  | brk => exact k n1 ys1 s1 s2 .brk hl1 hs
  | cont => exact k n1 ys1 s1 s2 .cont hl1 hs
  | ret v => exact k n1 ys1 s1 s2 (.ret v) hl1 hs
theorem ns_yield {e : Expr} {yp pos : Pos} {te : TE} (he : PE X e te) (hco : X.env.scope.isCoroutine = false := by rfl) (hi : interactive X.env = false := by rfl) : NS X (.Expr (.Yield (some e) yp) pos) (tGYield te) := by
  refine ⟨fun A S C ip R n ys s0 c fs K J gd lv s σ H D g hl k hI ht => ?_⟩
  obtain ⟨hlt, ht⟩ := ht
  cases n with
  | zero => omega
  | succ n =>
    obtain ⟨acc, cc, oC, r, hC, I⟩ := hI
    refine seg_Expr_Yield g.split g.gd g.guard ?_ hco hi
    rw [g.over]
    refine wpAny_mono (he.run _ s σ H _ I ht) (fun v s1 ⟨x, H1, I1, rv, q⟩ kap hk => ?_) fun x s1 hx => (g.calm x s1 hx).elim
    have N1 : NI X S C ip ys s0 σ H1 s1 := ⟨acc, cc, oC, r, hC, I1⟩
    refine ⟨ys, x, ip, σ, H1, hl, rv, N1, fun s2 z => hk .none s2 (k n (ys ++ [x]) s2 s2 .next ?_ ⟨σ, H1, N1.wake g rv z, q⟩)⟩
    rw [List.length_append, List.length_singleton]
    omega
end
end Om
/-! for within a generator. -/
namespace Om
open PySem PySem.Spec PyProof.Rows L2 GenW

section
variable {prog : Program} {w : World} {A : Around} {R : GenEnd} {Y : Protocol} {n : Nat} {s0 : Shared} {fs : List Frame} {s : Shared} {env : Env}
/-- one turn of a for loop, nothing raised -/
theorem seg_forTurn {tg : Expr} {it : Value} {body : List Stmt}
    (h : wpAny (model prog w) (A.over (.forLoop tg it body [] env) fs) (pyNext it) (fun r s1 => match r with
      | none => Seg (model prog w) A R Y n s0 (.block [] env) (.pure (.done .next)) fs s1
      | some v => wpAny (model prog w) (A.over (.forLoop tg it body [] env) fs) (letOwnedTupleGo tg it v) (fun _ s2 => wpAny (model prog w) (A.over (.forLoop tg it body [] env) fs) (assign tg env v) (fun _ s3 =>
          ∃ J : Value → Sem PySem.Fin, ∀ J2 : Value → Sem PySem.Fin, Seg (model prog w) A R Y n s0 (.forLoop tg it body [] env) ((execs body env).wrap (fun f => match f with
            | .next | .cont => .pure (.again (.forLoop tg it body [] env))
            | .brk => .pure (.done .next)
            | .ret u => .pure (.done (.ret u))) J2 id id) fs s3) (fun _ _ => False) s2) (fun _ _ => False) s1) (fun _ _ => False) s) :
    Seg (model prog w) A R Y n s0 (.forLoop tg it body [] env) ((model prog w).den (.forLoop tg it body [] env)) fs s := by
  show Seg _ A R Y n s0 _ ((forTurn tg it body [] env).onRaise (fun x => do noteFrame x env; theTreesLotGoes x)) fs s
  rw [Sem.onRaise_eq_wrap]
  unfold forTurn
  refine seg_bind_wrap (wpAny_standAt ?_)
  refine seg_bind_wrap (wpAny_onRaise (wpAny_mono h (fun r s1 hr => ?_) fun _ _ z => False.elim z))
  cases r with
  | none => exact seg_again (c' := .block [] env) rfl hr
  | some v =>
    refine seg_bind_wrap (wpAny_mono hr (fun _ s2 hr2 => ?_) fun _ _ z => False.elim z)
    refine seg_bind_wrap (wpAny_mono hr2 (fun _ s3 hr3 => ?_) fun _ _ z => False.elim z)
    obtain ⟨_, hr3⟩ := hr3
    rw [Sem.bind_eq_wrap', Sem.wrap_wrap]
    rw [Sem.wrap_congr (execs body env) _ _ (K' := fun f => match f with
            | .next | .cont => .pure (.again (.forLoop tg it body [] env))
            | .brk => .pure (.done .next)
            | .ret u => .pure (.done (.ret u))) (fun f => by cases f <;> rfl) (fun e => rfl)]
    exact hr3 _
end
section
variable {X : Cx}
/-- for in a generator: W by turn, measure, what is out -/
def tGFor (wi : TI) (g : TG) (tb : TGn) : TGn := fun D ys σ H => wi σ H fun J H1 => ∃ W : Nat → Nat → List V → L2.St → Hp → Prop, (∃ m, W 0 m ys σ H1) ∧ ∀ i m ys σ H, W i m ys σ H →
  (J.stop i H ∧ D.nx ys σ H) ∨ (J.go i H ∧ ∃ N : List V → L2.St → Hp → Prop, (∀ y1 σ1 H1, N y1 σ1 H1 → ∃ m1, m1 < m ∧ W (i + 1) m1 y1 σ1 H1) ∧ ∀ x H1, J.yld i H x H1 → g x σ H1 fun σ2 H2 => tb { D with nx := N, ct := N, bk := D.nx } ys σ2 H2)
theorem nc_loop {S C : Addr} {ip ip2 : List (Addr × Obj)} {A : Around} {c c2 : Code} {fs : List Frame} {gd : Bool → Bool} {k : Result → Sem PySem.Fin} {l kp : List Value} {p : Pos} (g : NC X S C ip A c fs gd) (hip : ∀ q ∈ ip2, q.1 ≠ S ∧ q.1 ≠ C) (hw : c2.weight = 0) (hu : c2.cUnits = 0) :
    NC X S C ip2 A c2 (.ret k none (gd false) l c p kp :: fs) id := by
  refine ⟨g.calm, g.diff, g.pnS, hip, g.apS, g.apC, (over_loop hw hu).trans g.over, ?_, ?_, rfl⟩
  · show (splitAtGen fs).map _ = none
    rw [g.split]
    rfl
  · show (gd false || fs.any Frame.guarded) = false
    rw [g.gd, g.guard]
    rfl
theorem ns_for {tg iter : Expr} {body : List Stmt} {pos : Pos} {wi : TI} {gt : TG} {tb : TGn} (hc : X.calm = true) (hi : PI X tg iter wi) (hg : PG X tg gt) (hb : NSs X body tb) (hs : ∀ x, foldedSetIterable iter X.env x = pure x := by intro _; rfl) :
    NS X (.For tg iter body [] pos) (tGFor wi gt tb) := by
  refine ⟨fun A S C ip R n ys s0 c fs K J gd lv s σ H D g hl k hI ht => ?_⟩
  obtain ⟨acc, cc, oC, r, hC, I⟩ := hI
  rw [arm_exec_For]
  refine seg_bind_wrap (wpAny_standAt ?_)
  refine seg_bind_wrap ?_
  rw [g.over]
  refine wpAny_mono (hi.run _ s σ H _ I ht) (fun v s1 h1 => ?_) fun x s1 hx => (g.calm x s1 hx).elim
  refine seg_bind_wrap ?_
  rw [hs]
  refine wpAny_pure ?_
  refine seg_bind_wrap (wpAny_standAt ?_)
  refine seg_bind_wrap (wpAny_holding ?_)
  rw [g.over]
  refine wpAny_mono h1 (fun itv s2 h2 => ?_) fun x s2 hx => (g.calm x s2 hx).elim
  obtain ⟨it, fp, tn, Jt, H2, e, I2, T, st2, f2, W, ⟨m0, w0⟩, turn⟩ := h2
  subst e
  refine seg_call fun p => ?_
  have offS : ∀ b ∈ fp, b ≠ S ∧ b ≠ C := fun b hb => ⟨fun z => (f2 b hb).2.2.2.2.2 (S, lstObj acc cc) (List.mem_append_right _ List.mem_cons_self) z.symm, fun z => (f2 b hb).2.2.2.2.2 (C, oC) (List.mem_append_right _ (List.mem_cons_of_mem _ List.mem_cons_self)) z.symm⟩
  have offip : ∀ b ∈ fp, ∀ q ∈ X.pn ++ ip, q.1 ≠ b := fun b hb q hq => by
    rcases List.mem_append.mp hq with hq | hq
    · exact (f2 b hb).2.2.2.2.2 q (List.mem_append_left _ hq)
    · exact (f2 b hb).2.2.2.2.2 q (List.mem_append_right _ (List.mem_cons_of_mem _ (List.mem_cons_of_mem _ hq)))
  have stat : ∀ {acc2 : Array Value} {c2 : Nat} {o2 : Obj} {H3 : Hp}, (∀ b ∈ fp, H3 b = none) → ∀ b ∈ fp, FpOk X ((S, lstObj acc2 c2) :: (C, o2) :: ip) H3 b := fun hn b hb => by
    obtain ⟨_, a1, a2, a3, a4, _⟩ := f2 b hb
    refine ⟨hn b hb, a1, a2, a3, a4, fun q hq => ?_⟩
    rcases List.mem_append.mp hq with hq | hq
    · exact offip b hb q (List.mem_append_left _ hq)
    · rcases List.mem_cons.mp hq with hq | hq
      · rw [hq]; exact fun z => (offS b hb).1 z.symm
      · rcases List.mem_cons.mp hq with hq | hq
        · rw [hq]; exact fun z => (offS b hb).2 z.symm
        · exact offip b hb q (List.mem_append_right _ hq)
  have loop : ∀ (m i n : Nat) (ys : List V) (s0 s : Shared) (σ : L2.St) (H : Hp), n + ys.length = sizeLine → W i m ys σ H → tn i s.heap → (∀ b ∈ fp, H b = none) → NI X S C ip ys s0 σ H s →
      Seg (model X.prog X.w) A R (NY X S C) n s0 (.forLoop tg (.ref it) body [] X.env) ((model X.prog X.w).den (.forLoop tg (.ref it) body [] X.env))
        (.ret (fun r => ((match r with | .ok f => (.pure f : Sem Flow) | .error e => .raise e).onRaise (cameBack X.env)).wrap K J gd lv) none (gd false) (lv []) c p [] :: fs) s := by
    intro m
    induction m using Nat.strongRecOn with
    | ind m ih =>
      intro i n ys s0 s σ H hl w st fr hI
      obtain ⟨acc3, c3, oC3, r3, hC3, I3⟩ := hI
      refine seg_forTurn ?_
      rw [(nc_loop (ip2 := ip) (c2 := .forLoop tg (.ref it) body [] X.env) g g.ipS rfl rfl).over]
      rcases turn i m ys σ H w with ⟨stop, qn⟩ | ⟨go, N, hN, step⟩
      · refine wpAny_mono (T.done X rfl rfl rfl hc i _ s σ H (fun _ _ => False) I3 (stat fr) st stop) (fun r4 s4 ⟨hr, I4⟩ => ?_) fun _ _ z => z
        subst hr
        exact seg_leaf (.ok .next) (k n ys s0 s4 .next hl ⟨σ, H, ⟨acc3, c3, oC3, r3, hC3, I4⟩, qn⟩)
      · refine wpAny_mono (T.item X rfl rfl rfl hc i _ s σ H (fun _ _ => False) I3 (stat fr) st go) (fun r4 s4 ⟨u, hr, h4⟩ => ?_) fun _ _ z => z
        subst hr
        refine wpAny_mono h4 (fun _ s5 ⟨x, H5, I5, r5, y5, st5, fr5⟩ => ?_) fun _ _ z => z
        have I5p := I5.pinned (stat fr5) (T.obj _ _ st5)
        refine wpAny_mono (hg.run _ s5 σ H5 x u _ I5p r5 (step x H5 y5)) (fun _ s6 ⟨σ6, H6, I6, q6⟩ => ?_) fun x1 s6 hx => (g.calm x1 s6 hx).elim
        refine ⟨.raise, fun J2 => ?_⟩
        have N6 : NI X S C (ip ++ pinsAt fp s5.heap) ys s0 σ6 H6 s6 := ⟨acc3, c3, oC3, r3, hC3, I6⟩
        have hip : ∀ q ∈ ip ++ pinsAt fp s5.heap, q.1 ≠ S ∧ q.1 ≠ C := fun q hq => by
          rcases List.mem_append.mp hq with hq | hq
          · exact g.ipS q hq
          · exact offS _ (of_pinsAt hq).1
        refine hb.run A S C (ip ++ pinsAt fp s5.heap) R n ys s0 _ _ _ J2 id id s6 σ6 H6 { D with nx := N, ct := N, bk := D.nx } (nc_loop g hip rfl rfl) hl (fun n7 ys7 s07 s7 f hl7 hs7 => ?_) N6 q6
        have back : ∀ {σ7 : L2.St} {H7 : Hp}, NI X S C (ip ++ pinsAt fp s5.heap) ys7 s07 σ7 H7 s7 → NI X S C ip ys7 s07 σ7 H7 s7 := fun ⟨a1, a2, a3, a4, a5, I7⟩ =>
          ⟨a1, a2, a3, a4, a5, I7.pins_of fun q hq => I7.pin q (List.mem_append_right _ (by
            rcases List.mem_cons.mp hq with z | hq
            · exact z ▸ List.mem_cons_self
            · rcases List.mem_cons.mp hq with z | hq
              · exact List.mem_cons_of_mem _ (z ▸ List.mem_cons_self)
              · exact List.mem_cons_of_mem _ (List.mem_cons_of_mem _ (List.mem_append_left _ hq))))⟩
        have iters : ∀ {σ7 : L2.St} {H7 : Hp}, NI X S C (ip ++ pinsAt fp s5.heap) ys7 s07 σ7 H7 s7 → tn (i + 1) s7.heap ∧ ∀ b ∈ fp, H7 b = none := fun ⟨a1, a2, a3, a4, a5, I7⟩ => by
          have pin7 : ∀ b ∈ fp, ∀ o, s5.heap.get? b = some o → s7.heap.get? b = some o ∧ _ := fun b hb o e => I7.pin (b, o) (List.mem_append_right _ (List.mem_cons_of_mem _ (List.mem_cons_of_mem _ (List.mem_append_right _ (mem_pinsAt hb e)))))
          refine ⟨T.keep _ _ _ st5 fun b hb o e => (pin7 b hb o e).1, fun b hb => ?_⟩
          obtain ⟨o, e, _⟩ := T.obj _ _ st5 b hb
          exact (pin7 b hb o e).2.1
        have round : ∀ {σ7 : L2.St} {H7 : Hp}, NI X S C (ip ++ pinsAt fp s5.heap) ys7 s07 σ7 H7 s7 → N ys7 σ7 H7 → Seg (model X.prog X.w) A R (NY X S C) n7 s07 (.forLoop tg (.ref it) body [] X.env) (.pure (.again (.forLoop tg (.ref it) body [] X.env))) (.ret (fun r => ((match r with | .ok f => (.pure f : Sem Flow) | .error e => .raise e).onRaise (cameBack X.env)).wrap K J gd lv) none (gd false) (lv []) c p [] :: fs) s7 := fun {σ7 H7} I7 n7' => by
          obtain ⟨m7, hm, w7⟩ := hN ys7 σ7 H7 n7'
          obtain ⟨q1, q2⟩ := iters I7
          exact seg_again rfl (ih m7 hm (i + 1) n7 ys7 s07 s7 σ7 H7 hl7 w7 q1 q2 (back I7))
        cases f with
        | next => obtain ⟨σ7, H7, I7, q7⟩ := hs7; exact round I7 q7
        | cont => obtain ⟨σ7, H7, I7, q7⟩ := hs7; exact round I7 q7
        | brk =>
          obtain ⟨σ7, H7, I7, q7⟩ := hs7
          exact seg_leaf (.ok .next) (k n7 ys7 s07 s7 .next hl7 ⟨σ7, H7, back I7, q7⟩)
        | ret u7 =>
          obtain ⟨x7, σ7, H7, I7, r7, q7⟩ := hs7
          exact seg_leaf (.ok (.ret u7)) (k n7 ys7 s07 s7 (.ret u7) hl7 ⟨x7, σ7, H7, back I7, r7, q7⟩)
  exact loop m0 0 n ys s0 s2 σ H2 hl w0 st2 (fun b hb => (f2 b hb).1) ⟨acc, cc, oC, r, hC, I2⟩
end
end Om
/-! A generator def's promise; its call. -/
namespace Om
open PySem PySem.Spec PyProof.Rows L2 GenW

abbrev SpN := List V → Hp → (List V → Hp → Prop) → Prop
/-- how a run ends -/
def NEnd (P : Program) (w : World) (outer : List Env) (H : Hp) (s : Shared) (S C : Addr) (Q : List V → Hp → Prop) : Nat → Shared → Shared → Prop := fun n s0 s1 =>
  ∃ H1 ys acc c, s1.os = s.os ∧ AllBare s1.gens ∧ Un (frs outer) [] H H1 s.heap s1.heap ∧ HOk P w H1 s1.heap ∧ (H1 S = none ∧ H1 C = none) ∧ s1.heap.get? S = some (lstObj acc c) ∧ Vals ys acc.toList ∧ ys.length ≤ sizeLine ∧
    (∀ o, s0.heap.get? C = some o → s1.heap.get? C = some o) ∧ Q ys H1
abbrev NFin (P : Program) (w : World) (outer : List Env) (H : Hp) (s : Shared) (S C : Addr) (Q : List V → Hp → Prop) : GenEnd := fun n s0 r s1 =>
  ((r = .ok (.ret .none) ∨ r = .ok .next) ∧ NEnd P w outer H s S C Q n s0 s1) ∨ ∃ e, r = .error e ∧ False
/-- how an item is handed out -/
def NItem (s : Shared) (S C a : Addr) (g : Nat) : Protocol := fun n s0 v s1 kap =>
  s1.os = s.os ∧ AllBare s1.gens ∧ s1.heap.NoLimit ∧ s1.heap.IsGen a g ∧ (∃ acc c, s1.heap.get? S = some (lstObj acc c) ∧ n + 1 + acc.size = sizeLine) ∧ (∀ o, s0.heap.get? C = some o → s1.heap.get? C = some o) ∧ ∀ s2, Nap S C v s1 s2 → kap (.send .none) s2
def NMade (P : Program) (w : World) (k : Nat) (outer : List Env) (H : Hp) (s : Shared) (Q : List V → Hp → Prop) (u : Value) (s1 : Shared) : Prop :=
  ∃ (a : Addr) (g : Nat) (c : Code), u = .ref a ∧ s.heap.objs.size ≤ a ∧ a < s1.heap.objs.size ∧ s1.heap.IsGen a g ∧ s1.gens[g]? = some (.fresh c) ∧ s1.os = s.os ∧ AllBare s1.gens ∧ s1.heap.NoLimit ∧ (∀ b o, s.heap.get? b = some o → s1.heap.get? b = some o) ∧
    ∀ (A : Around) (S C : Addr) (s2 : Shared), Room k A → A.frames = some outer → s1.heap.objs.size ≤ S → s1.heap.objs.size ≤ C → S ≠ C → (∀ b o, s1.heap.get? b = some o → s2.heap.get? b = some o) → (∃ c, s2.heap.get? S = some (lstObj #[] c)) →
      (∃ o, s2.heap.get? C = some o ∧ ∀ z, o.data ≠ .cell z) → s2.os = s.os → AllBare s2.gens → Seg (model P w) A (NFin P w outer H s S C Q) (NItem s S C a g) sizeLine s2 c ((model P w).den c) [] s2
structure NFn (P : Program) (w : World) (K : PySem.W.Frag) (mg : Str → Option Value) (base : Heap) (k : Nat) (f : Addr) (fd : FuncData) (ps : List Str) (sp : SpN) : Prop where
  len : ∀ vs H Q, sp vs H Q → vs.length = ps.length
  run : ∀ (A : Around) (outer : List Env) (s : Shared) (H : Hp) (args : Args) (us : List Value) (vs : List V) (Q : List V → Hp → Prop), Room k A → Env0 P w K mg base A outer s H → BindsTo s fd args (ps.zip us) → Vals vs us → sp vs H Q →
    codeAny (model P w) A (.call (.ref f) args) (fun r s1 => match r with | .ok (.ret u) => NMade P w k outer H s Q u s1 | _ => False) s

theorem nfn_of {P : Program} {w : World} {K : PySem.W.Frag} {mg : Str → Option Value} {base : Heap} {k : Nat} {f : Addr} {x qual : Str} {st : Stmt} {fd : FuncData} {N ps : List Str} {sp : SpN} (F : Fun K x qual st f fd) (Sc : GScope N ps (defScope st))
    (len : ∀ vs H Q, sp vs H Q → vs.length = ps.length)
    (hbody : ∀ (cdv : Value) (A : Around) (outer : List Env) (s : Shared) (H : Hp) (vs : List V) (Q : List V → Hp → Prop) (pn : List (Addr × Obj)), Room k (A.deeper (envOfC qual (defScope st) s.heap.objs.size f cdv)) → sp vs H Q →
      ∃ t, NSs (gcxOf P w K mg base N qual (defScope st) f cdv A outer s H E0 pn).nox (defBody st) t ∧ t { nx := fun ys _ H1 => Q ys H1, rt := fun ys v H1 => v = .non ∧ Q ys H1 } [] (start N vs) H) :
    NFn P w K mg base (k + 1) f fd ps sp := by
  obtain ⟨oc, od, kV, doc, pm, an, cdv, ct, osl, rfl, lk, hcd⟩ := F.ex
  refine ⟨len, fun A outer s H args us vs Q hr e0 hb r hsp => ?_⟩
  have hl := len _ _ _ hsp
  have Kin : K.In s.heap := e0.mod.kin.keeps fun b o e => (e0.bs b o e).1
  have lim : s.heap.NoLimit := e0.mod.nolimit.keeps fun b o e => (e0.bs b o e).1
  have kinds : ∀ y ∈ ps.zip us, (defScope st).names.lookup y.1 = some .local ∨ ((defScope st).names.lookup y.1 = some .cell ∧ ((cellsFrom (s.heap.objs.size + 1) (defScope st).names []).lookup y.1).isSome = true) := by
    rintro ⟨n, v⟩ hy
    rcases Sc.par n (List.of_mem_zip hy).1 with q | q
    · exact .inl q
    · exact .inr ⟨q, PySem.W.cellsFrom_some _ _ _ (.inl q)⟩
  refine codeAny_call_generator hr.depth (Kin _ _ lk) rfl Sc.co Sc.gen rfl (PySem.W.codeRec_of Kin hcd) (hb _ _ _ _ ?_)
  refine wpAny_newFunctionEnv_cells Sc.kind kinds fun env henv s1 xc => ?_
  subst henv
  refine ⟨lim.keeps xc.toInCall.keep, ?_⟩
  obtain ⟨hp1, tk1, es1, hk1⟩ := xc.done
  have os1 : s1.os = s.os := by rw [es1]
  have gens1 : s1.gens = s.gens := by rw [es1]
  have ltL : s.heap.objs.size < s1.heap.objs.size := xc.toInCall.ns.lt
  have kp1 : ∀ b o, s.heap.get? b = some o → s1.heap.get? b = some o := xc.toInCall.keep
  have whole : ∀ (go : Obj) (nm qn : Value) (tk2 : Nat), go.cls = .type "generator" → go.data = .fields #[.int s1.gens.size 0, nm, qn] → go.slots = #[] → (∀ h : Heap, (h.push go).get? h.objs.size = some go) →
      NMade P w (k + 1) outer H s Q (.ref s1.heap.objs.size) { s1 with gens := s1.gens.push (.fresh (.func (defBody st) (envOfC qual (defScope st) s.heap.objs.size f cdv))), toks := tk2, heap := s1.heap.push go } := by
    intro go nm qn tk2 gocls godata goslots gopush
    have isgen : ∀ h : Heap, h.get? s1.heap.objs.size = some go → h.IsGen s1.heap.objs.size s1.gens.size := fun h e => ⟨go, nm, qn, e, gocls, godata, goslots⟩
    have there : (s1.heap.push go).get? s1.heap.objs.size = some go := gopush _
    refine ⟨s1.heap.objs.size, s1.gens.size, _, rfl, Nat.le_of_lt ltL, by show _ < (s1.heap.push _).objs.size; rw [Heap.size_push]; exact Nat.lt_succ_self _, isgen _ there, Array.getElem?_push_size .., os1,
      AllBare.push (by rw [gens1]; exact e0.bare) rfl, (lim.keeps kp1).keeps fun b o e => Heap.get?_push_of_some _ e, fun b o e => Heap.get?_push_of_some _ (kp1 b o e), ?_⟩
    intro Aw S C s2 hrw hfr hS hC hSC hk2 hSo hCo hos hba
    have envW : Env0 P w K mg base Aw outer s H := ⟨hfr, e0.mod, e0.bs, e0.bsz, e0.funs, e0.frf, e0.hok, e0.bare⟩
    obtain ⟨t, ht, hq⟩ := hbody cdv Aw outer s H vs Q [(s1.heap.objs.size, go)] (hrw.deeper _) hsp
    have I1 : Inv (gcxOf P w K mg base N qual (defScope st) f cdv Aw outer s H E0 []) [] (start N vs) H s1 := inv_startG Sc hrw.hd envW hl r xc
    have kp2 : ∀ b o, s1.heap.get? b = some o → s2.heap.get? b = some o := fun b o e => hk2 b o (Heap.get?_push_of_some _ e)
    have I2 : Inv (gcxOf P w K mg base N qual (defScope st) f cdv Aw outer s H E0 []) [] (start N vs) H s2 := I1.call' (ch := []) (hos.trans os1.symm) (Un.kept kp2) (I1.hok.kept kp2) hba fun b z => by simp at z
    have above : ∀ b, (s1.heap.push go).objs.size ≤ b → s1.heap.objs.size < b := fun b hb => by
      rw [Heap.size_push] at hb
      exact hb
    have ltS := above S hS
    have ltC := above C hC
    obtain ⟨cS, heS⟩ := hSo
    obtain ⟨oC, heC, ncC⟩ := hCo
    have gos : s2.heap.get? s1.heap.objs.size = some go := hk2 _ go there
    have young : ∀ b, s1.heap.objs.size ≤ b → H b = none ∧ b ≠ s.heap.objs.size ∧ b ∉ frs outer ∧ s.heap.objs.size ≤ b ∧ ∀ y c, (cellsFrom (s.heap.objs.size + 1) (defScope st).names []).lookup y = some c → c ≠ b := fun b hb => by
      refine ⟨I1.hok.fresh hb, Nat.ne_of_gt (Nat.lt_of_lt_of_le ltL hb), I1.nofs hb, Nat.le_trans (Nat.le_of_lt ltL) hb, fun y c e z => ?_⟩
      obtain ⟨v, ob, ho, _⟩ := I1.cell y c e
      have lo := Heap.lt_size ho
      rw [z] at lo
      exact absurd (Nat.lt_of_lt_of_le lo hb) (Nat.lt_irrefl _)
    generalize hX : gcxOf P w K mg base N qual (defScope st) f cdv Aw outer s H E0 [(s1.heap.objs.size, go)] = X at ht
    have pins3 : Inv X.nox [(S, lstObj #[] cS), (C, oC)] (start N vs) H s2 := by
      subst hX
      refine Inv.wish (Inv.pinnedG I2 fun p hp => ?_) _
      have three : p = (s1.heap.objs.size, go) ∨ p = (S, lstObj #[] cS) ∨ p = (C, oC) := by simpa using hp
      rcases three with rfl | rfl | rfl
      · obtain ⟨y1, y2, y3, _⟩ := young s1.heap.objs.size (Nat.le_refl _)
        exact ⟨gos, y1, y2, y3, fun v q => by rw [godata] at q; cases q⟩
      · obtain ⟨y1, y2, y3, _⟩ := young S (Nat.le_of_lt ltS)
        exact ⟨heS, y1, y2, y3, fun v q => by cases q⟩
      · obtain ⟨y1, y2, y3, _⟩ := young C (Nat.le_of_lt ltC)
        exact ⟨heC, y1, y2, y3, ncC⟩
    have N0 : NI X.nox S C [] [] s2 (start N vs) H s2 := ⟨#[], cS, oC, .nil, heC, pins3⟩
    have apart : ∀ b, s1.heap.objs.size < b → Apart X.nox b := fun b hb => by
      subst hX
      obtain ⟨_, y2, _, y4, y5⟩ := young b (Nat.le_of_lt hb)
      exact ⟨y4, y2, y5⟩
    have genkept : ∀ {ip : List (Addr × Obj)} {ys : List V} {s0 s3 : Shared} {σ3 : L2.St} {H3 : Hp}, NI X.nox S C ip ys s0 σ3 H3 s3 → s3.heap.IsGen s1.heap.objs.size s1.gens.size := fun {ip ys s0 s3 σ3 H3} hI => by
      subst hX
      obtain ⟨_, _, _, _, _, J⟩ := hI
      exact isgen _ (J.pin (s1.heap.objs.size, go) (List.mem_append_left _ (List.mem_singleton.mpr rfl))).1
    have facts : ∀ {ip : List (Addr × Obj)} {ys : List V} {s0 s3 : Shared} {σ3 : L2.St} {H3 : Hp}, NI X.nox S C ip ys s0 σ3 H3 s3 → s3.os = s.os ∧ AllBare s3.gens ∧ Un (frs outer) [] H H3 s.heap s3.heap ∧ HOk P w H3 s3.heap ∧ s3.heap.NoLimit := fun {ip ys s0 s3 σ3 H3} hI => by
      subst hX
      obtain ⟨_, _, _, _, _, J⟩ := hI
      exact ⟨J.os, J.bare, J.base, J.hok, J.nolimit⟩
    refine seg_func ?_
    refine seg_imp (R := NR X.nox S C (fun ys v H1 => v = .non ∧ Q ys H1)) (Y := NY X.nox S C) (fun n s0 r s3 hR => ?_) (fun n s0 v s3 kap kap2 hkk hY => ?_) sizeLine ?_
    · cases r with
      | error e => exact hR.elim
      | ok fl =>
        cases fl with
        | next => exact hR.elim
        | brk => exact hR.elim
        | cont => exact hR.elim
        | ret u =>
          obtain ⟨ys, v, ip, σ3, H3, hn, hI, rv, rfl, hQ⟩ := hR
          obtain rfl : u = Value.none := rv
          obtain ⟨a1, a2, acc, cc, ra, ea, eC⟩ := hI.sees
          obtain ⟨b1, b2, b3, b4, _⟩ := facts hI
          exact .inl ⟨.inl rfl, H3, ys, acc, cc, b1, b2, b3, b4, ⟨a1, a2⟩, ea, ra, by omega, eC, hQ⟩
    · obtain ⟨ys, xx, ip, σ3, H3, hn, rv, hI, hz⟩ := hY
      obtain ⟨_, _, acc, cc, ra, ea, eC⟩ := hI.sees
      obtain ⟨b1, b2, _, _, b5⟩ := facts hI
      have hsz : acc.size = ys.length := by
        have l1 := ra.length
        have l2 : acc.toList.length = acc.size := by simp
        omega
      exact ⟨b1, b2, b5, genkept hI, ⟨acc, cc, ea, by rw [hsz]; exact hn⟩, eC, fun s4 z => hkk _ _ (hz s4 z)⟩
    · have hXp : X.prog = P := by rw [← hX]; rfl
      have hXw : X.w = w := by rw [← hX]; rfl
      have hXe : X.env = envOfC qual (defScope st) s.heap.objs.size f cdv := by rw [← hX]; rfl
      have over : Aw.over (.func (defBody st) (envOfC qual (defScope st) s.heap.objs.size f cdv)) [] = X.nox.A := by rw [← hX]; exact over_func
      have pn : ∀ p ∈ X.nox.pn, p.1 ≠ S ∧ p.1 ≠ C := fun p hp => by
        subst hX
        rw [List.mem_singleton.mp hp]
        exact ⟨Nat.ne_of_lt ltS, Nat.ne_of_lt ltC⟩
      have go1 := ht.run Aw S C [] (NR X.nox S C (fun ys v H1 => v = .non ∧ Q ys H1)) sizeLine [] s2 (.func (defBody st) (envOfC qual (defScope st) s.heap.objs.size f cdv)) [] (fun fl => .pure (.done (.ret (match fl with | .ret v => v | _ => .none))))
        (fun e => (leaving (envOfC qual (defScope st) s.heap.objs.size f cdv) e).wrap (fun _ => .raise e) .raise id id) id id s2 (start N vs) H { nx := fun ys _ H1 => Q ys H1, rt := fun ys v H1 => v = .non ∧ Q ys H1 }
        ⟨fun _ _ z => z, hSC, pn, fun p hp => by simp at hp, apart S ltS, apart C ltC, over, rfl, rfl, rfl⟩ (Nat.add_zero _) (fun n ys s0 s3 fl hn hs => ?_) N0 hq
      · subst hX
        exact go1
      · cases fl with
        | next =>
          obtain ⟨σ3, H3, hI, hQ⟩ := hs
          exact seg_end (.ok (.ret .none)) ⟨ys, .non, [], σ3, H3, hn, hI, rfl, rfl, hQ⟩
        | brk => obtain ⟨_, _, _, q⟩ := hs; exact q.elim
        | cont => obtain ⟨_, _, _, q⟩ := hs; exact q.elim
        | ret u =>
          obtain ⟨v, σ3, H3, hI, rv, ev, hQ⟩ := hs
          exact seg_end (.ok (.ret u)) ⟨ys, v, [], σ3, H3, hn, hI, rv, ev, hQ⟩
  exact whole _ _ _ _ rfl rfl rfl fun h => Heap.get?_push_size _ rfl
/-- its call as an expression -/
structure PN (X : Cx) (k : Nat) (e : Expr) (tg : TGen) : Prop where
  run : ∀ (pins : List (Addr × Obj)) (s : Shared) (σ : L2.St) (H : Hp) (cont : List V → Hp → Prop), Inv X pins σ H s → tg σ H cont → wpAny (model X.prog X.w) X.A (eval e X.env)
    (fun u s1 => ∃ H1 sc, Inv X pins σ H1 sc ∧ NMade X.prog X.w k X.stack H1 sc cont u s1) X.xe s
def tCallN (sp : SpN) (t : TA) : TGen := fun σ H cont => t σ H fun vs H1 => sp vs H1 cont
theorem pn_call {X : Cx} {k : Nat} {f : Addr} {fd : FuncData} {ps : List Str} {sp : SpN} {x : Str} {p pos : Pos} {e : Expr} {es : List Expr} {t : TA} (F : NFn X.prog X.w X.K X.mg X.base k f fd ps sp) (hr : Room k X.A) (hg : Gl X x) (hm : X.mg x = some (.ref f)) (hk : PySem.W.keepIn X.K (.ref f) = true) (hb : Binds X.K fd ps [])
    (ha : PA X (e :: es) t) (hdb : (x == ("__debug__" : Str)) = false := by decide) (he : starEach (e :: es) X.env = (false, eval e X.env) :: starEach es X.env := by rfl) (hpl : (backTo pos (starEach es X.env)).any (·.1) = false := by rfl) :
    PN X k (.Call (.Name x p) (e :: es) [] pos) (tCallN sp t) := by
  refine ⟨fun pins s σ H cont I h => ?_⟩
  refine wpAny_Call_Name_kw (ld_glob I hg hm ?_ hdb)
  refine PySem.W.callWith_K (h₀ := X.base) I.ok.mod.kin hk (thn (ha.run pos pins s σ H _ I h) fun us s1 ⟨vs, H1, I1, r, q⟩ => ⟨I1.kIn, ?_⟩) he hpl
  have hl : (us ++ []).length = ps.length := by rw [List.append_nil, ← r.length]; exact F.len _ _ _ q
  have hb1 := hb s1 us I1.kIn hl
  rw [List.append_nil] at hb1
  refine wpAny_call (codeAny_mono (F.run X.A X.stack s1 H1 ⟨us, []⟩ us vs cont hr I1.env0 hb1 r q) fun r1 s2 hq => ?_)
  cases r1 with
  | error e => exact hq.elim
  | ok fl =>
    cases fl with
    | ret u => exact ⟨H1, s1, I1, hq⟩
    | next => exact hq.elim
    | brk => exact hq.elim
    | cont => exact hq.elim
end Om
/-! [x for x in g(..)], g a generator def. -/
namespace Om
open PySem PySem.Spec PyProof.Rows L2 GenW

theorem ns_new {h : Heap} {a : Addr} (e : h.get? a = some { cls := .type "dict", data := .dict #[] }) : h.Ns a (fun _ => none) := ⟨_, #[], _, e, rfl, fun _ hx => by simp at hx, fun _ => rfl⟩
section
variable {X : Cx} {k : Nat}
theorem pe_lcN {x : Str} {px pt pos : Pos} {iter : Expr} {scope : Scope} {own : List (Str × Nat)} {tg : TGen} (hc : X.calm = true) (hg : PN X k iter tg) (ok : BlkOk X.N X.env.scope scope own) (hr : Room (k + 1) X.A)
    (hx : ∀ cl C, (compEnvC scope cl C X.env).kindOf x = some .local := by intro _ _; rfl) (hd : (x == ("__debug__" : Str)) = false := by decide) (hcd : (x == ("__classdict__" : Str)) = false := by decide) (hs : ∀ x, foldedSetIterable iter X.env x = pure x := by intro _; rfl) :
    PE X (.ListComp (.Name x px) [⟨.Name x pt, iter, [], 0⟩] scope pos) (tListG tg) := by
  refine ⟨fun pins s σ H Q I hq => ?_⟩
  rw [eval_ListComp]
  have hfree : ∀ y ∈ scope.names, y.2 = .free → ∃ c, X.env.cells.lookup y.1 = some c := fun y hy e => by
    rcases ok.free y hy e with z | z
    · exact I.ok.has _ (.inl z)
    · exact I.ok.has _ (.inr z)
  refine wpAny_comprehension_free (use := none) rfl hs (closure_ok hfree) ok.kind (fun y hy e => by rw [ok.uniq y hy, e]) (thn (hg.run pins s σ H _ I hq) fun u s1 ⟨H1, sc, I1, hN⟩ => ?_)
  obtain ⟨a, g, co, rfl, hsa, has, hgen, hfresh, hos, hba, hlim, hkeep, hwake⟩ := hN
  refine wpAny_pyIter_gen hgen ?_
  refine wpAny_newObj_type (newEnv_comp ?_) (by show 0 ≤ sizeLine; decide)
  generalize hD : s1.heap.objs.size = D
  have hD3 : (s1.heap.push { cls := .type "list", data := .seq ([] : List Value).toArray }).get? D = some (lstObj #[] 0) := by rw [← hD]; exact Heap.get?_push_size _ rfl
  have hC3 : (s1.heap.push { cls := .type "list", data := .seq ([] : List Value).toArray }).objs.size = D + 1 := by rw [Heap.size_push, hD]
  show codeAny _ _ (.compStart (.ListComp (.Name x px) [⟨.Name x pt, iter, [], 0⟩] scope pos) 0 (.ref a) (.ref D) (compEnvC scope (cellsFrom ((s1.heap.push { cls := .type "list", data := .seq ([] : List Value).toArray }).objs.size + 1) scope.names (cloFrom X.env.cells scope.names [])) (s1.heap.push { cls := .type "list", data := .seq ([] : List Value).toArray }).objs.size X.env))
    (compPost (model X.prog X.w) X.A X.xe none _ (.ref D) (s1.heap.push { cls := .type "list", data := .seq ([] : List Value).toArray }).objs.size) { s1 with heap := pushCells ((s1.heap.push { cls := .type "list", data := .seq ([] : List Value).toArray }).push { cls := .type "dict", data := .dict #[] }) scope.names }
  rw [hC3]
  generalize hce : compEnvC scope (cellsFrom (D + 1 + 1) scope.names (cloFrom X.env.cells scope.names [])) (D + 1) X.env = ce
  have hcx : ce.kindOf x = some .local := by rw [← hce]; exact hx _ _
  have hcL : ce.locals = D + 1 := by rw [← hce]; rfl
  have hck : ce.scope.kind = .function := by rw [← hce]; exact ok.kind
  have hcp : (ce.scope.kind == .class || (ce.scope.kind == .module && ce.locals != ce.globals)) = false := by rw [hck]; rfl
  generalize hs4 : ({ s1 with heap := pushCells ((s1.heap.push { cls := .type "list", data := .seq ([] : List Value).toArray }).push { cls := .type "dict", data := .dict #[] }) scope.names } : Shared) = s4
  have kp3 : ∀ b o, (s1.heap.push { cls := .type "list", data := .seq ([] : List Value).toArray }).get? b = some o → s4.heap.get? b = some o := fun b o e => by
    rw [← hs4]; exact pushCells_keeps _ _ _ _ (Heap.get?_push_of_some _ e)
  have kp4 : ∀ b o, s1.heap.get? b = some o → s4.heap.get? b = some o := fun b o e => kp3 b o (Heap.get?_push_of_some _ e)
  have hD4 : s4.heap.get? D = some (lstObj #[] 0) := kp3 _ _ hD3
  have hC4 : s4.heap.get? (D + 1) = some { cls := .type "dict", data := .dict #[] } := by
    rw [← hs4, ← hC3]
    exact pushCells_keeps _ _ _ _ (Heap.get?_push_size _ rfl)
  have hos4 : s4.os = sc.os := by rw [← hs4]; exact hos
  have hba4 : AllBare s4.gens := by rw [← hs4]; exact hba
  have hfr4 : s4.gens[g]? = some (.fresh co) := by rw [← hs4]; exact hfresh
  have haD : a ≠ D := by rw [← hD]; exact Nat.ne_of_lt has
  have haC : a ≠ D + 1 := by rw [← hD]; exact Nat.ne_of_lt (Nat.lt_succ_of_lt has)
  have hDC : D ≠ D + 1 := Nat.ne_of_lt (Nat.lt_succ_self _)
  have hst : cStatics < D := by
    obtain ⟨_, hn, _⟩ := hlim
    rw [← hD]; exact hn.lt
  have hh : X.A.handled = none := I.ok.hd hc
  have hsz : sc.heap.objs.size ≤ D := by rw [← hD]; exact Nat.le_trans hsa (Nat.le_of_lt has)
  have begin : Seg (model X.prog X.w) X.A.in1 (NFin X.prog X.w X.stack H1 sc D (D + 1) (fun ys H2 => ∀ p, H2 p = none → Q (.ref p) (upd H2 p (.lst ys)))) (NItem sc D (D + 1) a g) sizeLine (s4.setGen g .running) co ((model X.prog X.w).den co) [] (s4.setGen g .running) :=
    hwake X.A.in1 D (D + 1) (s4.setGen g .running) hr.in1 I.ok.frames (by rw [hD]; exact Nat.le_refl _) (by rw [hD]; exact Nat.le_succ _) hDC kp4 ⟨0, hD4⟩ ⟨_, hC4, fun z q => by cases q⟩ hos4 (allBare_setGen hba4 rfl)
  have loop : codeAny (model X.prog X.w) X.A (.compLoop (.ListComp (.Name x px) [⟨.Name x pt, iter, [], 0⟩] scope pos) 0 (.ref a) (.ref D) ce) (compPost (model X.prog X.w) X.A X.xe none (EP X pins σ Q) (.ref D) (D + 1)) s4 := by
    refine compLoop_any (fun m s5 => ∃ gs acc c mm, s5.gens[g]? = some gs ∧ gs.Goes (model X.prog X.w) X.A.in1 (NFin X.prog X.w X.stack H1 sc D (D + 1) (fun ys H2 => ∀ p, H2 p = none → Q (.ref p) (upd H2 p (.lst ys)))) (NItem sc D (D + 1) a g) m (.send .none) (s5.setGen g .running) ∧
      s5.heap.IsGen a g ∧ s5.heap.NoLimit ∧ s5.heap.get? D = some (lstObj acc c) ∧ m + acc.size = sizeLine ∧ s5.heap.Ns (D + 1) mm ∧ s5.os = sc.os ∧ AllBare s5.gens) ?_ sizeLine
      ⟨.fresh co, #[], 0, _, hfr4, ⟨rfl, begin⟩, hgen.keeps kp4, hlim.keeps kp4, hD4, Nat.add_zero _, ns_new hC4, hos4, hba4⟩
    rintro m s5 ⟨gs, acc, c, mm, hgs, hgo, hg5, hl5, hD5, hm5, hn5, hos5, hba5⟩
    have hgl : g < s5.gens.size := (Array.getElem?_eq_some_iff.mp hgs).1
    refine wpAny_gsz (n := g + 1) hgl (next_genG (Er := fun _ _ => False) hh hl5 hr.depth hg5 hgs hgo (fun v s6 gs6 hbare hv hsz6 => ?_) (fun s6 hp h7 hk7 _ => ?_) fun e s6 he => he.elim)
    · obtain ⟨os6, hb6, hl6, hg6, ⟨acc6, c6, hD6, hn6⟩, hC6, hk6⟩ := hv
      have hn6' : s6.heap.Ns (D + 1) mm := hn5.at' fun o e => hC6 o e
      cases m with
      | zero =>
        exfalso
        obtain ⟨oC, es, ep, hoC, hdC, _⟩ := hn6'
        refine hk6 { s6 with heap := s6.heap.update D (Obj.mapSeq (·.push v)) } ⟨rfl, hb6, fun b o h1 h2 e => (Heap.get?_update_other _ _ (Ne.symm h1)).trans e, fun acc2 c2 e => ?_, ⟨oC, (Heap.get?_update_other _ _ hDC).trans hoC, fun z q => by rw [hdC] at q; cases q⟩⟩
        rw [hD6] at e
        cases e
        exact ⟨_, Heap.get?_update_self _ hD6 rfl⟩
      | succ m =>
        refine wpAny_of_eq rfl ?_
        refine wpAny_assign_Name (wpAny_storeName_local hcx (by rw [hcL]; exact hn6') (fun h8 hn8 hs8 => ?_) hcp)
        rw [hcL] at hn8 hs8
        refine wpAny_tests_nil ?_
        rw [if_pos rfl]
        refine wpAny_Name (wpAny_loadName_local (v := v) hck hcx (by rw [hcL]; exact hn8) (by simp) ?_) hd
        have hD8 : Heap.PlainList h8 D acc6 := ⟨c6, hs8.extBut _ _ hDC hD6⟩
        have hle : acc6.size ≤ sizeLine := by omega
        refine wpAny_list_append_plain (hsz := hle) hD8 fun h9 ⟨c9, hD9⟩ hs9 => ?_
        have keep9 : ∀ b o, b ≠ D → b ≠ D + 1 → s6.heap.get? b = some o → h9.get? b = some o := fun b o h1 h2 e => hs9.extBut b o h1 (hs8.extBut b o h2 e)
        have hn9 : h9.Ns (D + 1) _ := hn8.sameBut hs9 (Ne.symm hDC)
        have hgz : g < s6.gens.size := by
          have q : (s6.setGen g gs6).gens.size = s6.gens.size := setGen_size _ _ _
          have z : g + 1 ≤ (s6.setGen g gs6).gens.size := hsz6
          omega
        refine ⟨m, Nat.lt_succ_self m, gs6, acc6.push v, c9, _, setGen_at hgz, ?_, ?_, ?_, hD9, by rw [Array.size_push]; omega, hn9, os6, allBare_setGen hb6 hbare⟩
        · obtain ⟨oC, es, ep, hoC, hdC, _⟩ := id hn9
          refine hk6 _ ⟨rfl, allBare_setGen (allBare_setGen (s := s6) hb6 hbare) rfl, keep9, fun acc2 c2 e => ?_, ⟨oC, hoC, fun z q => by rw [hdC] at q; cases q⟩⟩
          rw [hD6] at e
          cases e
          exact ⟨c9, hD9⟩
        · obtain ⟨o, nm, qn, ho, r⟩ := hg6
          exact ⟨o, nm, qn, keep9 a o haD haC ho, r⟩
        · obtain ⟨mc, hns, hnn⟩ := hl6
          exact ⟨mc, hns.at' fun o e => keep9 _ o (Nat.ne_of_lt hst) (Nat.ne_of_lt (Nat.lt_succ_of_lt hst)) e, hnn⟩
    · obtain ⟨H7, ys, acc7, c7, os7, hb7, un7, hok7, ⟨hS7, hC7⟩, hD7, hv7, hle7, hCk, hQ7⟩ := hp
      have hnC : h7.Ns (D + 1) mm := hn5.at' fun o e => hk7 _ _ (hCk o e)
      have hD8 : h7.get? D = some (lstObj acc7 c7) := hk7 _ _ hD7
      have I8 : Inv X pins σ (upd H7 D (.lst ys)) { s6.setGen g .finished with heap := h7 } :=
        Inv.drained (ex := []) I1 hsz hle7 hD8 hv7 ExOk.nil os7 (allBare_setGen hb7 rfl) (un7.trans (Un.kept hk7)) (hok7.kept hk7) hS7
      refine ⟨mm, hnC, fun h9 hs9 => ⟨.ref D, upd H7 D (.lst ys), ?_, rfl, hQ7 D hS7⟩⟩
      have hC8 : (upd H7 D (.lst ys)) (D + 1) = none := by rw [upd_ne (Ne.symm hDC)]; exact hC7
      obtain ⟨f0, f1, f2, f3, f4, f5⟩ := I1.fpOk (H' := upd H7 D (.lst ys)) (b := D + 1) (Nat.le_succ_of_le hsz) hC8
      exact I8.turned (t' := (s6.setGen g .finished).toks) (fun b o hb e => hs9.extBut b o hb e) f0 f1 f3 f4 f5
  exact codeAny_compStart_list loop (wpAny_pyIter_gen (hgen.keeps kp4) loop)
end
end Om
/-! Walk: ways. -/
namespace Om
open PySem PySem.Spec PyProof.Rows L2 OmM
/-- a loop of a generator, by its data -/
theorem gfor_src {δ : Type} {P : Addr → Prop} {H1 : Hp} {J : It} {R : Rel δ} {ds : List δ} {g : TG} {tb : TGn} {D : GEnds} {σ : L2.St} {ys : List V} (S : Src J P H1 R ds) (Pv : List δ → List V → L2.St → Hp → Prop) (h0 : Pv [] ys σ H1) (hS : ∀ pre ys σ H, Pv pre ys σ H → SB P H1 H)
    (turn : ∀ pre d post x ys σ H H', ds = pre ++ d :: post → Pv pre ys σ H → (H' = H ∨ ∃ T o, H T = none ∧ H' = upd H T o) → R H' x d → g x σ H' fun σ2 H2 => tb { D with nx := Pv (pre ++ [d]), ct := Pv (pre ++ [d]), bk := D.nx } ys σ2 H2)
    (done : ∀ ys σ H, Pv ds ys σ H → D.nx ys σ H) :
    ∃ W : Nat → Nat → List V → L2.St → Hp → Prop, (∃ m, W 0 m ys σ H1) ∧ ∀ i m ys σ H, W i m ys σ H →
      (J.stop i H ∧ D.nx ys σ H) ∨ (J.go i H ∧ ∃ N : List V → L2.St → Hp → Prop, (∀ y1 σ1 H1, N y1 σ1 H1 → ∃ m1, m1 < m ∧ W (i + 1) m1 y1 σ1 H1) ∧ ∀ x H1, J.yld i H x H1 → g x σ H1 fun σ2 H2 => tb { D with nx := N, ct := N, bk := D.nx } ys σ2 H2) := by
  refine ⟨fun i m ys σ H => i + m = ds.length ∧ Pv (ds.take i) ys σ H, ⟨ds.length, Nat.zero_add _, h0⟩, ?_⟩
  rintro i m ys σ H ⟨him, p⟩
  cases m with
  | zero =>
    have e : i = ds.length := by omega
    subst e
    rw [List.take_length] at p
    exact .inl ⟨S.stops H (hS _ _ _ _ p), done ys σ H p⟩
  | succ m =>
    have hlt : i < ds.length := by omega
    refine .inr ⟨S.goes i H hlt (hS _ _ _ _ p), fun ys σ' H' => Pv (ds.take (i + 1)) ys σ' H', fun ys σ' H' p' => ⟨m, Nat.lt_succ_self m, by omega, p'⟩, fun x H' y => ?_⟩
    obtain ⟨hH', d, hd, hx⟩ := S.yields i H x H' hlt (hS _ _ _ _ p) y
    have h1 : ds[i]'hlt = d := (List.getElem?_eq_some_iff.mp hd).2
    have hsplit : ds = ds.take i ++ d :: ds.drop (i + 1) := by
      rw [← h1]
      exact (List.take_append_drop i ds).symm.trans (by rw [List.drop_eq_getElem_cons hlt])
    have ht1 : ds.take (i + 1) = ds.take i ++ [d] := by
      rw [List.take_add_one, hd]; rfl
    rw [ht1]
    exact turn (ds.take i) d (ds.drop (i + 1)) x ys σ H H' hsplit p hH' hx
def waysAt (ps : List Str) (t : Str) (ls : List (List Str)) (rs : List (Str × Str)) (p : Str) : List (Str × Str × Str) := (ranked ps t ls rs p).map fun q => (q.1, q.2, p)
def spWays (A : Adr) : SpN := fun vs H cont => ∃ (r : Addr) (ps : List Str) (t : Str) (ls : List (List Str)) (rs : List (Str × Str)), vs = [.ref r] ∧ RuleAt A H r ps t ls rs ∧ Good ps ls rs ∧ ∀ ys H', Same H H' → Paired (RP3 H') ys (ps.flatMap (waysAt ps t ls rs)) → cont ys H'
theorem len_ranked {ps : List Str} (t : Str) (ls : List (List Str)) (rs : List (Str × Str)) (p : Str) (h : ps.length ≤ 7) : (ranked ps t ls rs p).length ≤ 49 := by
  unfold ranked
  exact Nat.le_trans (List.length_filter_le _ _) (len_pairs h)
section
variable {P : Program} {w : World} {K : PySem.W.Frag} {mg : Str → Option Value} {base : Heap} {A : Adr}
theorem u_ways (T : Txt K mg A) : NFn P w K mg base 7 A.f_ways A.d_ways ["rule"] (spWays A) := by
  refine nfn_of T.F_ways sc_ways (fun vs H Q h => ?_) (fun cdv A' outer s H vs Q pn hr h => ?_)
  · obtain ⟨r, ps, t, ls, rs, rfl, _⟩ := h
    rfl
  · obtain ⟨r, ps, t, ls, rs, rfl, hR, G, k⟩ := h
    have nd := sc_ways.nd
    refine ⟨_, (nss_cons (ns_plain (ps_expr (pe_f (u_check_rule T) (hr.mono (by decide)) (pa_cons (pv 0) pa_nil))))
      (nss_one (ns_for rfl (pi_ownU (u_C_iter T) (hr.mono (by decide)) (pe_fld (pv 0) rfl)) (pg_name (i := 1) nd rfl (Or.inl rfl))
        (nss_one (ns_for rfl (pi_list (pe_f (u_rank_reads T) (hr.mono (by decide)) (pa_cons (pv 0) (pa_cons (pv 1) pa_nil)))) (pg_name (i := 2) nd rfl (Or.inl rfl))
          (nss_one (ns_yield (pe_tup (StX.pa_star (pv 2) (pa_cons (pv 1) pa_nil)))))))))), ?_⟩
    obtain ⟨dx, c, g, z, rp, lr, pz, od, kvs, es, ep, h1, h2, _⟩ := id hR.ex
    obtain ⟨dxc, dd, mm, odd, kvc, _, _, hco, hdd, hkc, _⟩ := id h2.ex
    refine ⟨_, rfl, r, dx, _, rfl, h1, ?_⟩
    refine ⟨_, rfl, r, A.R, dx, _, _, rfl, h1, T.cR, T.naR_crowd, fR_crowd, c, dxc, _, dd, odd, rfl, hco, fC_own, .inl ⟨kvc, hdd, ?_⟩⟩
    refine gfor_src (P := fun _ => False) (R := RS) (src_keys hdd (fun z => z) hkc) (fun pre ys σ H' => ∃ x1 x2, σ = [some (.ref r), x1, x2] ∧ Same H H' ∧ Paired (RP3 H') ys (pre.flatMap (waysAt ps t ls rs))) ⟨none, none, rfl, fun _ _ h => h, .nil⟩ (fun _ _ _ _ ⟨_, _, _, e, _⟩ => .of e) ?_ ?_
    · rintro pre p post x ys σ H2 H2' hsplit ⟨x1, x2, rfl, e2, pr⟩ hH2 hx
      cases hx
      obtain ⟨e2', pr'⟩ : Same H H2' ∧ Paired (RP3 H2') ys (pre.flatMap (waysAt ps t ls rs)) := by
        rcases hH2 with rfl | ⟨T0, o, hT, rfl⟩
        · exact ⟨e2, pr⟩
        · exact ⟨SB.trans' (P := fun _ => False) e2 (same_upd hT), paired_stays stays_RP3 (same_upd hT) pr⟩
      have hpp : p ∈ ps := by rw [hsplit]; simp
      have hprel : pre.length ≤ 7 := by have := congrArg List.length hsplit; have := G.l7; simp at *; omega
      refine ⟨_, rfl, _, rfl, r, ps, t, ls, rs, p, rfl, hR.stay e2', G, hpp, fun D H3 e3 hD hL => ?_⟩
      obtain ⟨vs, hvs, hpv⟩ := hL
      refine ⟨D, rfl, ⟨_, .of hvs⟩, ?_⟩
      refine gfor_src (P := fun _ => False) (R := RP) (src_list (.of hvs) (fun z => z) (fun _ _ _ e h => stays_RP _ _ _ _ e.same h) hpv) (fun pre2 ys σ H' => ∃ x2, σ = [some (.ref r), some (.str p), x2] ∧ Same H3 H' ∧ Paired (RP3 H') ys (pre.flatMap (waysAt ps t ls rs) ++ pre2.map fun q => (q.1, q.2, p))) ⟨x2, rfl, fun _ _ h => h, by simpa using paired_stays stays_RP3 e3 pr'⟩ (fun _ _ _ _ ⟨_, _, e, _⟩ => .of e) ?_ ?_
      · rintro pre2 q post2 x ys2 σ H4 H4' hsplit2 ⟨x2, rfl, e4, pr4⟩ hH4 ⟨a, rfl, ha⟩
        obtain ⟨e4', pr4'⟩ : Same H3 H4' ∧ Paired (RP3 H4') ys2 (pre.flatMap (waysAt ps t ls rs) ++ pre2.map fun q => (q.1, q.2, p)) := by
          rcases hH4 with rfl | ⟨T0, o, hT, rfl⟩
          · exact ⟨e4, pr4⟩
          · exact ⟨SB.trans' (P := fun _ => False) e4 (same_upd hT), paired_stays stays_RP3 (same_upd hT) pr4⟩
        have hlen : ys2.length ≤ 7 * 49 + 49 := by
          rw [pr4'.length, List.length_append, List.length_map]
          have a1 := len_flat (f := waysAt ps t ls rs) (n := 49) (qs := pre) fun q _ => by unfold waysAt; rw [List.length_map]; exact len_ranked t ls rs q G.l7
          have a2 := len_ranked t ls rs p G.l7
          have a3 := congrArg List.length hsplit2
          simp at a3
          have : pre.length * 49 ≤ 7 * 49 := Nat.mul_le_mul_right _ hprel
          omega
        refine ⟨small1000 (by omega), _, rfl, a, _, rfl, .inl (.of ha), _, rfl, (by show 3 ≤ sizeLine; decide), fun t5 ht5 => ⟨some (.ref a), rfl, ?_, ?_⟩⟩
        · exact SB.trans' (P := fun _ => False) e4' (same_upd ht5)
        · rw [List.map_append, ← List.append_assoc]
          exact Paired.snoc (paired_stays stays_RP3 (same_upd ht5) pr4') ⟨t5, rfl, upd_same⟩
      · rintro ys2 σ H4 ⟨x2, rfl, e4, pr4⟩
        refine ⟨_, _, rfl, fun b o hb => e4 _ _ (e3 _ _ (e2' _ _ hb)), ?_⟩
        rw [List.flatMap_append]
        simpa [waysAt] using pr4
    · rintro ys σ H2 ⟨x1, x2, rfl, e2, pr⟩
      exact k ys H2 e2 pr
end
end Om
/-! Walk: the law. -/
namespace Om
open PySem PySem.Spec PyProof.Rows L2 OmM
theorem catAK {X : Cx} {K : PySem.W.Frag} (h : X.K = K) : OpR X (binaryOp .Add) (rCatA K) := h ▸ op_catA
theorem all_showP : ∀ {ps : List (Str × Str)}, PyData.showableAll (ps.map dP) = true
  | [] => by simp [PyData.showableAll]
  | p :: ps => by simp [PyData.showableAll, dP, PyData.showable, all_showP (ps := ps)]
theorem all_showT : ∀ {ps : List (Str × Str × Str)}, PyData.showableAll (ps.map dP3) = true
  | [] => by simp [PyData.showableAll]
  | p :: ps => by simp [PyData.showableAll, dP3, PyData.showable, all_showT (ps := ps)]
/-- the pairs, the triples can be written -/
theorem rp {ps : List (Str × Str)} (hN : ∀ p ∈ ps, Nm p.1 ∧ Nm p.2) (hl : ps.length ≤ 10000) : (PyData.list (ps.map dP)).showable = true ∧ (PyData.list (ps.map dP)).hasDict = false ∧ (PyData.list (ps.map dP)).depth ≤ 32 ∧ (PyData.list (ps.map dP)).shown.length ≤ sizeLine :=
  ⟨by simp only [PyData.showable]; exact all_showP, PyData.hasDict_of_canLay _ (by simp only [PyData.canLay0]; exact lay_pairs hN), by have := depth_pairs ps; simp only [PyData.depth]; omega, show_pairs hN hl⟩
theorem rt {ps : List (Str × Str × Str)} (hN : ∀ p ∈ ps, Nm p.1 ∧ Nm p.2.1 ∧ Nm p.2.2) (hl : ps.length ≤ 10000) : (PyData.list (ps.map dP3)).showable = true ∧ (PyData.list (ps.map dP3)).hasDict = false ∧ (PyData.list (ps.map dP3)).depth ≤ 32 ∧ (PyData.list (ps.map dP3)).shown.length ≤ sizeLine :=
  ⟨by simp only [PyData.showable]; exact all_showT, PyData.hasDict_of_canLay _ (by simp only [PyData.canLay0]; exact lay_trips hN), by have := depth_trips ps; simp only [PyData.depth]; omega, show_trips hN hl⟩
theorem eqv_selfP (l : List (Str × Str)) : PyData.eqv (.list (l.map dP)) (.list (l.map dP)) = true := by
  simp only [PyData.eqv, eqv_pairs]
  simp
theorem eqv_selfS (l : List Str) : PyData.eqv (dStrs l) (dStrs l) = true := by
  simp only [dStrs, PyData.eqv, eqv_strs]
  simp
theorem owned_sub {ps : List Str} {ls : List (List Str)} {rs : List (Str × Str)} (G : Good ps ls rs) (p : Str) : (∀ q ∈ owned ls rs p, Nm q.1 ∧ Nm q.2) ∧ (owned ls rs p).length ≤ 49 :=
  ⟨fun q hq => G.nmr q (List.mem_filter.mp hq).1, Nat.le_trans (List.length_filter_le _ _) G.rl⟩
theorem ranked_sub {ps : List Str} {ls : List (List Str)} {rs : List (Str × Str)} (G : Good ps ls rs) (t : Str) (p : Str) : (∀ q ∈ ranked ps t ls rs p, Nm q.1 ∧ Nm q.2) ∧ (ranked ps t ls rs p).length ≤ 49 :=
  ⟨fun q hq => by obtain ⟨a, b, _⟩ := mem_pairs.mp (List.mem_filter.mp hq).1; exact ⟨G.nm _ a, G.nm _ b⟩, len_ranked t ls rs p G.l7⟩
theorem ways_sub {ps : List Str} {ls : List (List Str)} {rs : List (Str × Str)} (G : Good ps ls rs) (t : Str) {qs : List Str} (hq : ∀ p ∈ qs, p ∈ ps) (hl : qs.length ≤ 7) : (∀ q ∈ qs.flatMap (waysAt ps t ls rs), Nm q.1 ∧ Nm q.2.1 ∧ Nm q.2.2) ∧ (qs.flatMap (waysAt ps t ls rs)).length ≤ 7 * 49 := by
  constructor
  · intro q hm
    obtain ⟨p, hp, h⟩ := List.mem_flatMap.mp hm
    obtain ⟨r, hr, rfl⟩ := List.mem_map.mp h
    obtain ⟨a, b⟩ := (ranked_sub G t p).1 r hr
    exact ⟨a, b, G.nm _ (hq p hp)⟩
  · have a1 := len_flat (f := waysAt ps t ls rs) (n := 49) (qs := qs) fun q _ => by unfold waysAt; rw [List.length_map]; exact len_ranked t ls rs q G.l7
    have : qs.length * 49 ≤ 7 * 49 := Nat.mul_le_mul_right _ hl
    omega
def spLaw (K : PySem.W.Frag) : Around → Nat → Sp := fun A _ vs H Q _ => A.guards = some [] ∧ ∃ (a : Addr) (ns : List Int), vs = [.ref a] ∧ SqL K H a (ns.map V.int) ∧ ns.length ≤ 63 ∧ ∀ H', Q (.bl true) H'
section
variable {P : Program} {w : World} {K : PySem.W.Frag} {mg : Str → Option Value} {base : Heap} {A : Adr}
theorem u_law (T : Txt K mg A) : FnG P w K mg base 9 A.f_law A.d_law ["_law_script"] (spLaw K) := by
  refine fn_ofG T.F_law sc_law (fun A' n vs H Q E h => ?_) (fun cdv A' outer s H vs Q E hr h => ?_)
  · obtain ⟨_, a, ns, rfl, _⟩ := h
    rfl
  · obtain ⟨hgd, a, ns, rfl, hS, hlen, k⟩ := h
    have nd := sc_law.nd
    have hu := hu_of hr
    have hgd2 : (A'.deeper (envOfC "law" (defScope s_law) s.heap.objs.size A.f_law cdv)).guards = some [] := hgd
    have bW := T.F_ways.binds (ps := ["rule"]) fun _ _ _ _ _ _ us hl => match us, hl with | [_], _ => rfl
    refine ⟨_, (pss_cons (ps_for PassesOwn.never rfl (pi_range1 rfl T.n_range (pa_cons (pe_b (call_max2 rfl) T.n_max (pa_cons pe_int (pa_cons (pe_b (call_min2 rfl) T.n_min (pa_cons (pe_b call_len T.n_len (pa_cons (pv 0) pa_nil)) (pa_cons pe_int pa_nil))) pa_nil))) pa_nil)) (pg_name (i := 1) nd rfl (Or.inl rfl))
      (pss_cons (ps_set (i := 2) nd rfl (Or.inl rfl) (pe_f (u_l_opened T) (hr.mono (by decide)) (pa_cons (pv 0) (pa_cons (pv 1) pa_nil))))
      (pss_cons (ps_set (i := 3) nd rfl (Or.inr rfl) (pe_f (u_l_plan T) (hr.mono (by decide)) (pa_cons (pv 2) (pa_cons pe_int (pa_cons pe_int (pa_cons pe_int (pa_cons (pe_lst (pa_cons pe_str (pa_cons pe_str (pa_cons pe_str pa_nil)))) pa_nil)))))))
      (pss_cons (ps_par (i := 4) (j := 5) rfl nd rfl rfl (by decide) rfl rfl (pa_cons (pe_f (u_l_made T) (hr.mono (by decide)) (pa_cons (pv 3) pa_nil)) (pa_cons (pe_lst pa_nil) pa_nil)) (by rfl))
      (pss_cons (ps_for PassesOwn.never rfl (pi_list (pe_dget hu (pv 3) pe_str (fun _ _ => rfl))) (pg_name (i := 6) nd rfl (Or.inr rfl))
        (pss_cons (ps_par (i := 7) (j := 8) rfl nd rfl rfl (by decide) rfl rfl (pa_cons (pe_f (u_l_read_by_rank T) (hr.mono (by decide)) (pa_cons (pv 3) (pa_cons (pv 6) pa_nil))) (pa_cons (pe_f (u_l_own T) (hr.mono (by decide)) (pa_cons (pv 3) (pa_cons (pv 6) pa_nil))) pa_nil)) (by rfl))
        (pss_cons (ps_par (i := 9) (j := 10) rfl nd rfl rfl (by decide) rfl rfl (pa_cons (pe_f (u_rank_reads T) (hr.mono (by decide)) (pa_cons (pv 4) (pa_cons (pv 6) pa_nil))) (pa_cons (pe_f (u_own_reads T) (hr.mono (by decide)) (pa_cons (pv 4) (pa_cons (pv 6) pa_nil))) pa_nil)) (by rfl))
        (pss_cons (ps_if (PW.pt (pw_or (pt_cmpR op_ne (pe_b (call_reprD hgd2 hr.units) T.n_repr (pa_cons (pv 9) pa_nil)) (pe_b (call_reprD hgd2 hr.units) T.n_repr (pa_cons (pv 7) pa_nil)) (nomark _)) (pw_or1 (pt_cmpR op_ne (pe_b (call_reprD hgd2 hr.units) T.n_repr (pa_cons (pv 10) pa_nil)) (pe_b (call_reprD hgd2 hr.units) T.n_repr (pa_cons (pv 8) pa_nil)) (nomark _))))) (pss_one (ps_ret pe_bl)) pss_nil)
        (pss_cons (ps_expr (pe_bm PySem.F.plainAttrs_list PySem.F.slot_list_append PySem.F.type_list_append mt_append (pv 9) (pa_cons pe_non pa_nil)))
        (pss_cons (ps_expr (pe_bm PySem.F.plainAttrs_list PySem.F.slot_list_append PySem.F.type_list_append mt_append (pv 10) (pa_cons pe_non pa_nil)))
        (pss_cons (ps_if (PW.pt (pw_or (pt_cmpR (op_neD hr.units) (pe_f (u_rank_reads T) (hr.mono (by decide)) (pa_cons (pv 4) (pa_cons (pv 6) pa_nil))) (pv 7) (nomark _)) (pw_or1 (pt_cmpR (op_neD hr.units) (pe_f (u_own_reads T) (hr.mono (by decide)) (pa_cons (pv 4) (pa_cons (pv 6) pa_nil))) (pv 8) (nomark _))))) (pss_one (ps_ret pe_bl)) pss_nil)
        (pss_one (ps_set (i := 5) nd rfl (Or.inl rfl) (pe_op op_cat (pv 5) (pe_lc (own := [("_law_pair", 11)]) rfl nd (pi_list (pv 7)) (blkOk_by (N := n_law) (sc := defScope s_law) (by decide +kernel)) (fun _ _ _ _ _ => pg_name (i := 11) nd rfl (Or.inl rfl)) (fun _ _ _ _ _ => pts_nil) (fun _ _ _ _ _ => (pe_op (catAK (K := K) rfl) (pv 11) (pe_tup (pa_cons (pv 6) pa_nil)))))))))))))))
      (pss_cons (ps_setLc (i := 12) (own := [("_law_person", 6)]) rfl nd rfl rfl (sw_true rfl rfl rfl (by decide +kernel)) (pi_list (pe_dget hu (pv 3) pe_str (fun _ _ => rfl))) (blkOk_by (N := n_law) (sc := defScope s_law) (by decide +kernel)) (fun _ _ _ _ _ => pg_name (i := 6) nd rfl (Or.inl rfl)) (fun _ _ _ _ _ => pts_one (pt_cmpR (eqDK (K := K) rfl hr.units) (pe_f (u_l_own T) (hr.mono (by decide)) (pa_cons (pv 3) (pa_cons (pv 6) pa_nil))) (pe_lst pa_nil) (nomark _))) (fun _ _ _ _ _ => (pv 6)))
      (pss_cons (ps_if (PW.pt (pw_or (pt_cmpR (op_neD hr.units) (pe_f (u_safe_people T) (hr.mono (by decide)) (pa_cons (pv 4) pa_nil)) (pv 12) (nomark _)) (pw_or1 (pt_cmpR op_ne (pe_b call_reprB T.n_repr (pa_cons (pe_f (u_is_safe T) (hr.mono (by decide)) (pa_cons (pv 4) pa_nil)) pa_nil)) (pe_b call_reprB T.n_repr (pa_cons (pe_cmpR op_eq (pe_b call_len T.n_len (pa_cons (pv 12) pa_nil)) (pe_b call_len T.n_len (pa_cons (pe_dget hu (pv 3) pe_str (fun _ _ => rfl)) pa_nil)) (nomark _)) pa_nil)) (nomark _))))) (pss_one (ps_ret pe_bl)) pss_nil)
      (pss_one (ps_if (pt_cmpR op_ne (pe_b (call_reprD hgd2 hr.units) T.n_repr (pa_cons (pe_lcN rfl (pn_call (u_ways T) (hr.mono (by decide)) rfl T.g_ways T.F_ways.kp bW (pa_cons (pv 4) pa_nil)) (blkOk_by (N := n_law) (sc := defScope s_law) (own := [("_law_way", 13)]) (by decide +kernel)) (hr.mono (by decide))) pa_nil)) (pe_b (call_reprD hgd2 hr.units) T.n_repr (pa_cons (pv 5) pa_nil)) (nomark _)) (pss_one (ps_ret pe_bl)) pss_nil)))))))))
    (pss_one (ps_ret pe_bl))), ?_⟩
    have k0 : ∀ H', Q (.bl true) H' := k
    have hrg : ∃ j : Int, (if (if (6 : Int) < (ns.length : Nat) then (6 : Int) else ((ns.length : Nat) : Int)) > 1 then (if (6 : Int) < (ns.length : Nat) then (6 : Int) else ((ns.length : Nat) : Int)) else 1) = j ∧ 0 ≤ j ∧ j ≤ 6 := ⟨_, rfl, by split <;> omega, by split <;> split <;> omega⟩
    refine ⟨_, rfl, .ref a, ns.length, rfl, .inl ⟨_, hS, by rw [List.length_map]⟩, _, _, rfl, _, _, rfl, ?_⟩
    obtain ⟨j, hj, j0, j6⟩ := hrg
    refine ⟨j, by rw [← hj], by omega, by omega, ?_⟩
    refine for_src (P := fun _ => False) (ds := List.range j.toNat) (R := fun _ v (i : Nat) => v = .int i) src_range (fun pre σ H' => ∃ x1 x2 x3 x4 x5 x6 x7 x8 x9 x10 x11 x12 x13, σ = [some (.ref a), x1, x2, x3, x4, x5, x6, x7, x8, x9, x10, x11, x12, x13] ∧ Same H H') ⟨_, _, _, _, _, _, _, _, _, _, _, _, _, rfl, fun _ _ h => h⟩ (fun _ _ _ ⟨_, _, _, _, _, _, _, _, _, _, _, _, _, _, e⟩ => .of e) ?_ ?_
    · rintro pre i post x σ H1 H1' hsplit ⟨x1, x2, x3, x4, x5, x6, x7, x8, x9, x10, x11, x12, x13, rfl, e1⟩ hH1 hx
      cases hx
      have e1' : Same H H1' := by
        rcases hH1 with rfl | ⟨T0, o, hT, rfl⟩
        · exact e1
        · exact SB.trans' (P := fun _ => False) e1 (same_upd hT)
      have hS1 := (SB.of (P := fun _ => False) e1').seq hS (fun z => z)
      -- the plan
      refine ⟨_, rfl, _, rfl, a, ns, i, rfl, hS1, fun pool H2 e2 hpool hp2 => ?_⟩
      refine ⟨_, rfl, (by show 3 ≤ sizeLine; decide), fun mt hmt => ?_⟩
      have s3 := same_upd (o := .lst (turns.map V.str)) hmt
      refine ⟨pool, mt, rfl, hp2.stay s3, upd_same, fun pl H4 ps mo t z ls rs g pz sb4 hPl hOk => ?_⟩
      have e4 : Same H H4 := fun b o hb => sb4 _ _ (s3 _ _ (e2 _ _ (e1' _ _ hb))) (ne_of_none (e1' _ _ hb) hpool)
      have G := hOk.good
      -- the rule
      refine ⟨_, rfl, pl, ps, mo, t, z, ls, rs, g, pz, rfl, hPl, hOk, fun ru H5 e5 hRu => ⟨Nat.zero_le _, fun ev hev => ⟨_, _, rfl, ?_⟩⟩⟩
      have s6 := same_upd (o := .lst []) hev
      have hPl6 := (hPl.stay e5).stay s6
      have hRu6 := hRu.stay s6
      have hev6 : (upd H5 ev (.lst [])) ev = some (.lst []) := upd_same
      have e6 : Same H (upd H5 ev (.lst [])) := fun b o hb => s6 _ _ (e5 _ _ (e4 _ _ hb))
      show tSeq _ _ _ _ (upd H5 ev (.lst []))
      generalize (upd H5 ev (.lst [])) = H6 at *
      obtain ⟨lp, hk1, hlp⟩ := hPl6.people
      -- everybody
      refine ⟨_, rfl, pl, _, rfl, hk1.get, lp, rfl, ⟨_, .of hlp⟩, ?_⟩
      refine for_src (P := fun _ => False) (R := RS) (src_list (.of hlp) (fun z => z) (fun _ _ _ _ h => h) (paired_str ps _)) (fun pre σ H' => ∃ E y6 y7 y8 y9 y10 y11, σ = [some (.ref a), some (.int i), some (.ref pool), some (.ref pl), some (.ref ru), some (.ref E), y6, y7, y8, y9, y10, y11, x12, x13] ∧ Same H6 H' ∧ LAt RP3 H' E (pre.flatMap (waysAt ps t ls rs)))
        ⟨ev, _, _, _, _, _, _, rfl, fun _ _ h => h, [], hev6, .nil⟩ (fun _ _ _ ⟨_, _, _, _, _, _, _, _, e, _⟩ => .of e) ?_ ?_
      · rintro pre2 p post2 x σ H7 H7' hsplit2 ⟨E, y6, y7, y8, y9, y10, y11, rfl, e7, hE⟩ hH7 hx
        cases hx
        obtain ⟨e7', hE'⟩ : Same H6 H7' ∧ LAt RP3 H7' E (pre2.flatMap (waysAt ps t ls rs)) := by
          rcases hH7 with rfl | ⟨T0, o, hT, rfl⟩
          · exact ⟨e7, hE⟩
          · exact ⟨SB.trans' (P := fun _ => False) e7 (same_upd hT), hE.stay stays_RP3 (same_upd hT)⟩
        have hpp : p ∈ ps := by rw [hsplit2]; simp
        obtain ⟨nR, lR⟩ := ranked_sub G t p
        obtain ⟨nO, lO⟩ := owned_sub G p
        refine ⟨_, rfl, _, rfl, pl, ps, mo, t, z, ls, rs, g, pz, p, rfl, hPl6.stay e7', hOk, hpp, fun D1 H8 e8 hD1 hL1 => ?_⟩
        have e68 := SB.trans' (P := fun _ => False) e7' e8
        refine ⟨_, rfl, _, rfl, pl, ps, mo, t, z, ls, rs, g, pz, p, rfl, hPl6.stay e68, hOk, hpp, fun D2 H9 e9 hD2 hL2 => ⟨_, _, rfl, ?_⟩⟩
        have e69 := SB.trans' (P := fun _ => False) e68 e9
        refine ⟨_, rfl, _, rfl, ru, ps, t, ls, rs, p, rfl, hRu6.stay e69, G, hpp, fun D3 H10 e10 hD3 hL3 => ?_⟩
        have e610 := SB.trans' (P := fun _ => False) e69 e10
        refine ⟨_, rfl, _, rfl, ru, ps, t, ls, rs, p, rfl, hRu6.stay e610, G, hpp, fun D4 H11 e11 hD4 hL4 => ⟨_, _, rfl, ?_⟩⟩
        have e611 := SB.trans' (P := fun _ => False) e610 e11
        have hL1b := (hL1.stay stays_RP e9).stay stays_RP (SB.trans' (P := fun _ => False) e10 e11)
        have hL2b := hL2.stay stays_RP (SB.trans' (P := fun _ => False) e10 e11)
        have hL3b := hL3.stay stays_RP e11
        -- as written
        have rR := rp nR (by omega)
        have rO := rp nO (by omega)
        refine ⟨_, rfl, D3, _, rfl, dp_pairs hL3b, rR.1, rR.2.1, rR.2.2.1, rR.2.2.2, _, rfl, D1, _, rfl, dp_pairs hL1b, rR.1, rR.2.1, rR.2.2.1, rR.2.2.2, rfl, false, congrArg V.bl (by simp), ?_⟩
        refine iteF ⟨_, rfl, D4, _, rfl, dp_pairs hL4, rO.1, rO.2.1, rO.2.2.1, rO.2.2.2, _, rfl, D2, _, rfl, dp_pairs hL2b, rO.1, rO.2.1, rO.2.2.1, rO.2.2.2, rfl, false, congrArg V.bl (by simp), ?_⟩
        refine iteF ?_
        -- what is put behind the answers does not reach the rule
        obtain ⟨v3, hv3, pr3⟩ := id hL3b
        refine ⟨_, rfl, .inl ⟨rfl, _, .of hv3⟩, D3, v3, _, rfl, rfl, hv3, small1000 (by rw [pr3.length]; omega), ?_⟩
        obtain ⟨v4, hv4, pr4⟩ := id hL4
        have n43 : D4 ≠ D3 := fun zz => by
          obtain ⟨q3, hq3, _⟩ := hL3
          rw [zz, hq3] at hD4
          cases hD4
        refine ⟨_, rfl, .inl ⟨rfl, _, .of (by rw [upd_ne n43]; exact hv4)⟩, D4, v4, _, rfl, rfl, by rw [upd_ne n43]; exact hv4, small1000 (by rw [pr4.length]; omega), ?_⟩
        have sb12 : SB (fun b => b = D3 ∨ b = D4) H11 (upd (upd H11 D3 (.lst (v3 ++ [.non]))) D4 (.lst (v4 ++ [.non]))) := (sb_upd (.inl rfl)).trans (sb_upd (.inr rfl))
        have tno : ∀ b xs, H11 b = some (.tup xs) → ¬ (b = D3 ∨ b = D4) := fun b xs hb zz => by
          rcases zz with zz | zz
          · rw [zz, hv3] at hb; cases hb
          · rw [zz, hv4] at hb; cases hb
        have e612 : Same H6 (upd (upd H11 D3 (.lst (v3 ++ [.non]))) D4 (.lst (v4 ++ [.non]))) := fun b o hb => sb12 _ _ (e611 _ _ hb) (fun zz => by
          rcases zz with zz | zz
          · exact ne_of_none (e69 _ _ hb) hD3 zz
          · exact ne_of_none (e610 _ _ hb) hD4 zz)
        have keepL : ∀ {D : Addr} {l : List (Str × Str)}, LAt RP H11 D l → D ≠ D3 → D ≠ D4 → LAt RP (upd (upd H11 D3 (.lst (v3 ++ [.non]))) D4 (.lst (v4 ++ [.non]))) D l := fun ⟨vv, h1, h2⟩ n3 n4 => ⟨vv, sb12 _ _ h1 (fun zz => zz.elim n3 n4), Paired.mono (fun v d h => RP.keep sb12 tno h) h2⟩
        have d13 : D1 ≠ D3 := by obtain ⟨vv, h1, _⟩ := hL1.stay stays_RP e9; exact ne_of_none h1 hD3
        have d14 : D1 ≠ D4 := by obtain ⟨vv, h1, _⟩ := (hL1.stay stays_RP e9).stay stays_RP e10; exact ne_of_none h1 hD4
        have d23 : D2 ≠ D3 := by obtain ⟨vv, h1, _⟩ := hL2; exact ne_of_none h1 hD3
        have d24 : D2 ≠ D4 := by obtain ⟨vv, h1, _⟩ := hL2.stay stays_RP e10; exact ne_of_none h1 hD4
        have hL1c := keepL hL1b d13 d14
        have hL2c := keepL hL2b d23 d24
        have hE12 : LAt RP3 (upd (upd H11 D3 (.lst (v3 ++ [.non]))) D4 (.lst (v4 ++ [.non]))) E (pre2.flatMap (waysAt ps t ls rs)) := by
          have e711 : Same H7' H11 := fun b o hb => e11 _ _ (e10 _ _ (e9 _ _ (e8 _ _ hb)))
          obtain ⟨vv, h1, h2⟩ := hE'
          have e79 : Same H7' H9 := SB.trans' (P := fun _ => False) e8 e9
          refine ⟨vv, sb12 _ _ (e711 _ _ h1) (fun zz => zz.elim (ne_of_none (e79 _ _ h1) hD3) (ne_of_none (e10 _ _ (e79 _ _ h1)) hD4)), Paired.mono (fun v d ⟨q, qa, qb⟩ => ⟨q, qa, sb12 _ _ (e711 _ _ qb) (tno _ _ (e711 _ _ qb))⟩) h2⟩
        generalize (upd (upd H11 D3 (.lst (v3 ++ [.non]))) D4 (.lst (v4 ++ [.non]))) = H12 at *
        refine ⟨_, rfl, _, rfl, ru, ps, t, ls, rs, p, rfl, hRu6.stay e612, G, hpp, fun D5 H13 e13 hD5 hL5 => ⟨_, rfl, _, _, dp_pairs hL5, dp_pairs (hL1c.stay stays_RP e13), shaped_pairs nR, shaped_pairs nR, false, congrArg V.bl (by rw [eqv_selfP]; rfl), ?_⟩⟩
        have e613 := SB.trans' (P := fun _ => False) e612 e13
        refine iteF ⟨_, rfl, _, rfl, ru, ps, t, ls, rs, p, rfl, hRu6.stay e613, G, hpp, fun D6 H14 e14 hD6 hL6 => ⟨_, rfl, _, _, dp_pairs hL6, dp_pairs ((hL2c.stay stays_RP e13).stay stays_RP e14), shaped_pairs nO, shaped_pairs nO, false, congrArg V.bl (by rw [eqv_selfP]; rfl), ?_⟩⟩
        refine iteF ?_
        have e1214 := SB.trans' (P := fun _ => False) e13 e14
        have e614 := SB.trans' (P := fun _ => False) e613 e14
        obtain ⟨w1, hw1, prw⟩ := hL1c.stay stays_RP e1214
        obtain ⟨w2, hw2, prE⟩ := hE12.stay stays_RP3 e1214
        -- every way
        refine ⟨_, rfl, _, rfl, D1, rfl, ⟨_, .of hw1⟩, fun D15 hD15 => lc_pure (R := RP) (Ro := RP3) (src_list (.of hw1) (fun z => z) (fun _ _ _ e h => stays_RP _ _ _ _ e.same h) prw) hD15 (Nat.lt_of_le_of_lt lR (by decide)) stays_RP3 (fun q => some (q.1, q.2, p)) ?_ ?_⟩
        · intro d x H15 acc Ny Nn hd e15 hacc hx hy hn
          obtain ⟨q, rfl, hq⟩ := hx
          refine ⟨rfl, yes ⟨_, rfl, _, rfl, (by show 1 ≤ sizeLine; decide), fun t16 ht16 => ?_⟩⟩
          have s16 := same_upd (o := .tup [.str p]) ht16
          refine ⟨q, t16, _, _, rfl, rfl, .of (s16 _ _ hq), .of upd_same, (by show 2 + 1 ≤ sizeLine; decide), (fun zz => by cases zz), (fun _ zz => by cases zz), fun _ _ p17 hp17 => ?_⟩
          have s17 := same_upd (o := .tup ([.str d.1, .str d.2] ++ [.str p])) hp17
          exact hy _ _ (d.1, d.2, p) (SB.trans' (P := fun _ => False) s16 s17) (fun o => ⟨p17, rfl, by rw [upd_ne (ne_of_none (s16 _ _ hacc) hp17).symm]; exact upd_same⟩) rfl
        · intro H15 acc e15 hacc pr15
          have hfm : (ranked ps t ls rs p).filterMap (fun q => some (q.1, q.2, p)) = waysAt ps t ls rs p := by
            unfold waysAt
            rw [← List.filterMap_eq_map]
            rfl
          rw [hfm] at pr15
          have lE := (ways_sub G t (qs := pre2) (fun q hq => by rw [hsplit2]; simp [hq]) (by have := congrArg List.length hsplit2; have := G.l7; simp at *; omega)).2
          have lA : (waysAt ps t ls rs p).length ≤ 49 := by unfold waysAt; rw [List.length_map]; exact lR
          refine ⟨E, D15, w2, acc, rfl, rfl, e15 _ _ hw2, hacc, Nat.le_of_lt (small1000 (by rw [prE.length, pr15.length]; omega)), fun p18 hp18 => ?_⟩
          have s18 := same_upd (o := .lst (w2 ++ acc)) hp18
          refine ⟨p18, _, _, _, _, _, _, rfl, fun b o hb => s18 _ _ (e15 _ _ (e614 _ _ hb)), w2 ++ acc, upd_same, ?_⟩
          rw [List.flatMap_append]
          have : [p].flatMap (waysAt ps t ls rs) = waysAt ps t ls rs p := by simp
          rw [this]
          exact paired_append (paired_stays stays_RP3 (SB.trans' (P := fun _ => False) e15 s18) prE) (paired_stays stays_RP3 s18 pr15)
      · rintro σ H7 ⟨E, y6, y7, y8, y9, y10, y11, rfl, e7, hE⟩
        have hPl7 := hPl6.stay e7
        have hRu7 := hRu6.stay e7
        have hlp7 := e7 _ _ hlp
        have nS : ∀ s ∈ safes ps ls rs, Nm s := fun s hs => G.nm _ (List.mem_filter.mp hs).1
        -- who is safe
        refine ⟨_, rfl, pl, _, rfl, (hk1.stay e7).get, lp, rfl, ⟨_, .of hlp7⟩, fun D8 hD8 => lc_pure (R := RS) (Ro := RS) (src_list (.of hlp7) (fun z => z) (fun _ _ _ _ h => h) (paired_str ps _)) hD8 (Nat.lt_of_le_of_lt G.l7 (by decide)) stays_RS (fun p => if decide (owned ls rs p = []) = true then some p else none) ?_ ?_⟩
        · intro d x H8 acc Ny Nn hd e8 hacc hx hy hn
          cases hx
          refine ⟨rfl, _, rfl, _, rfl, pl, ps, mo, t, z, ls, rs, g, pz, d, rfl, hPl7.stay e8, hOk, hd, fun D9 H9 e9 hD9 hL9 => ⟨Nat.zero_le _, fun n10 hn10 => ?_⟩⟩
          have s10 := same_upd (o := .lst []) hn10
          have e810 := SB.trans' (P := fun _ => False) e9 s10
          refine ⟨.list ((owned ls rs d).map dP), .list [], dp_pairs (hL9.stay stays_RP s10), .lst (.of upd_same) .nil, shaped_pairs (owned_sub G d).1, sh_nil, decide (owned ls rs d = []), by rw [eqv_nilP], ?_⟩
          by_cases h : owned ls rs d = []
          · rw [decide_eq_true h]
            exact iteT ⟨_, rfl, hy _ _ d e810 (fun _ => rfl) (by simp [h])⟩
          · rw [decide_eq_false h]
            exact iteF (hn _ e810 (by simp [h]))
        · intro H8 acc8 e8 hacc8 pr8
          rw [fm_if] at pr8
          have hF8 : H8 D8 = some (.lst ((safes ps ls rs).map V.str)) := LAt.str ⟨acc8, hacc8, pr8⟩
          refine ⟨_, rfl, ru, ps, t, ls, rs, rfl, hRu7.stay e8, G, fun D9 H9 e9 hD9 hL9 => ⟨_, rfl, dStrs (safes ps ls rs), dStrs (safes ps ls rs), dp_strs hL9, dp_strs (e9 _ _ hF8), shaped_strs nS, shaped_strs nS, false, congrArg V.bl (by rw [eqv_selfS]; rfl), ?_⟩⟩
          have e79 := SB.trans' (P := fun _ => False) e8 e9
          refine iteF ⟨_, rfl, ru, ps, t, ls, rs, rfl, hRu7.stay e79, G, fun H10 e10 => ?_⟩
          have e710 := SB.trans' (P := fun _ => False) e79 e10
          refine ⟨_, rfl, _, rfl, .ref D8, (safes ps ls rs).length, rfl, .inl ⟨_, .of (e10 _ _ (e9 _ _ hF8)), by rw [List.length_map]⟩, _, rfl, pl, _, rfl, (hk1.stay (SB.trans' (P := fun _ => False) e7 e710)).get, .ref lp, ps.length, rfl, .inl ⟨_, .of (e710 _ _ hlp7), by rw [List.length_map]⟩, rfl, decide ((safes ps ls rs).length = ps.length), congrArg (fun zz => [V.bl zz]) (decide_eq_decide.mpr ⟨fun h => by injection h with h; omega, fun h => by rw [h]⟩), rfl, false, congrArg V.bl (by simp), ?_⟩
          refine iteF ?_
          -- all the ways
          obtain ⟨nW, lW⟩ := ways_sub G t (qs := ps) (fun _ h => h) G.l7
          have rW := rt nW (by omega)
          refine ⟨_, rfl, ru, ps, t, ls, rs, rfl, hRu7.stay e710, G, fun ys H11 e11 prY D12 hD12 => ?_⟩
          have s12 := same_upd (o := .lst ys) hD12
          have hW : LAt RP3 (upd H11 D12 (.lst ys)) D12 (ps.flatMap (waysAt ps t ls rs)) := ⟨ys, upd_same, paired_stays stays_RP3 s12 prY⟩
          have e712 : Same H7 (upd H11 D12 (.lst ys)) := fun b o hb => s12 _ _ (e11 _ _ (e710 _ _ hb))
          refine ⟨D12, _, rfl, dp_trips hW, rW.1, rW.2.1, rW.2.2.1, rW.2.2.2, _, rfl, E, _, rfl, dp_trips (hE.stay stays_RP3 e712), rW.1, rW.2.1, rW.2.2.1, rW.2.2.2, rfl, false, congrArg V.bl (by simp), ?_⟩
          refine iteF ?_
          exact ⟨_, _, _, _, _, _, _, _, _, _, _, _, _, rfl, fun b o hb => e712 _ _ (e7 _ _ (e6 _ _ hb))⟩
    · rintro σ H1 ⟨x1, x2, x3, x4, x5, x6, x7, x8, x9, x10, x11, x12, x13, rfl, e1⟩
      exact k0 H1
end
end Om
/-! The end: the law's call from the claim's caller. -/
namespace Om
open PySem PySem.Spec PyProof.Rows L2
/-- the law is called on a list of hints0: nothing but that list is tracked, or nothing at all -/
theorem call_end {P : Program} {w : World} {K : PySem.W.Frag} {mg mb : Str → Option Value} {k : Nat} {fa a : Addr} {fd : FuncData} {x : Str} {sp : Around → Nat → Sp} {s1 : Shared} {vs : List Value} {ns : List Int}
    (kin : K.In s1.heap) (gns : s1.heap.Ns mainGlobals mg) (bns : s1.heap.Ns builtinsNs mb) (boot : ∀ x : Str, x ≠ "__name__" → mb x = bootBuiltins x) (lim : s1.heap.NoLimit) (none_made : s1.gens = #[])
    (lst : s1.heap.get? a = some { cls := .type "list", data := .seq vs.toArray }) (hints0 : IntsAre vs ns) (len : ns.length ≤ sizeLine) (room : Room k callerA)
    (F : ∀ base : Heap, K.In base → base.Ns mainGlobals mg → FnG P w K mg base k fa fd [x] sp) (binds : ∀ (s : Shared) (u : Value), BindsTo s fd ⟨[u], []⟩ [(x, u)])
    (asked : ∀ H : Hp, SqL K H a (ns.map V.int) → sp callerA s1.heap.objs.size [.ref a] H (fun v _ => v = .bl true) fun _ _ _ => False) :
    codeAny (model P w) callerA (.call (.ref fa) ⟨[.ref a], []⟩) (fun r s2 => r = .ok (.ret (.bool true)) ∧ OldK s1.heap s2.heap ∧ s2.os = s1.os ∧ AllBare s2.gens) s1 := by
  have vals := vals_ints hints0
  have lens := hints0.length
  -- the tracked heap: the list, locked, unless the module has it
  obtain ⟨H, hsq, hhok, honly, hout⟩ : ∃ H : Hp, SqL K H a (ns.map V.int) ∧ HOk P w H s1.heap ∧ (∀ b u, H b = some u → b = a ∧ K.lookup a = none ∧ ∃ o xs, u = .frz o (.lst xs)) ∧ True := by
    cases inK : K.lookup a with
    | some o =>
      have same := kin a o inK
      rw [lst] at same
      cases same
      exact ⟨fun _ => none, .inr ⟨_, vs.toArray, _, inK, rfl, rfl, rfl, by rw [List.size_toArray, lens]; exact len, by simpa using vals⟩, (fun b u z => by cases z), (fun b u z => by cases z), trivial⟩
    | none =>
      have at_a : (fun b : Addr => if b = a then some (HO.frz { cls := .type "list", data := .seq vs.toArray } (.lst (ns.map V.int))) else none) a = some (.frz { cls := .type "list", data := .seq vs.toArray } (.lst (ns.map V.int))) := if_pos rfl
      have only_a : ∀ b u, (fun b : Addr => if b = a then some (HO.frz { cls := .type "list", data := .seq vs.toArray } (.lst (ns.map V.int))) else none) b = some u → b = a ∧ u = .frz { cls := .type "list", data := .seq vs.toArray } (.lst (ns.map V.int)) := fun b u z => by
        by_cases hb : b = a
        · subst hb
          rw [at_a] at z
          cases z
          exact ⟨rfl, rfl⟩
        · have z2 := (if_neg hb).symm.trans z
          cases z2
      refine ⟨fun b => if b = a then some (HO.frz { cls := .type "list", data := .seq vs.toArray } (.lst (ns.map V.int))) else none, .inl (.inr ⟨_, at_a⟩), fun b u z => ?_, fun b u z => ?_, trivial⟩
      · obtain ⟨rfl, rfl⟩ := only_a b u z
        exact ⟨lst, by rw [List.length_map]; exact len, vs, _, vals, lst⟩
      · obtain ⟨h1, h2⟩ := only_a b u z
        exact ⟨h1, rfl, _, _, h2⟩
  have free_of : ∀ {b : Addr} {o : Obj} {es : Array DictEntry} {ep : Nat}, s1.heap.get? b = some o → o.data = .dict es ep → H b = none := fun {b o es ep} e d => by
    cases q : H b with
    | none => rfl
    | some u =>
      obtain ⟨hb, _⟩ := honly b u q
      rw [hb, lst] at e
      cases e
      have d2 : Data.seq vs.toArray _ = Data.dict es ep := d
      cases d2
  have names : ∀ {b : Addr} {m : Str → Option Value}, s1.heap.Ns b m → (hidT s1.heap H).Ns b m := fun {b m} ⟨o, es, ep, e, d, r⟩ => ⟨o, es, ep, hidT_get e (free_of e d), d, r⟩
  have kin2 : K.In (hidT s1.heap H) := fun b o e => hidT_get (kin b o e) (by
    cases q : H b with
    | none => rfl
    | some u =>
      obtain ⟨hb, hk, _⟩ := honly b u q
      rw [hb, hk] at e
      cases e)
  have env : Env0 P w K mg (hidT s1.heap H) callerA [] s1 H := by
    refine ⟨rfl, ⟨kin2, names gns, ⟨mb, names bns, boot⟩, ?_⟩, fun b o e => of_hidT e, Nat.le_of_eq (hidT_size _ _), trivial, fun b hb => by simp [frs] at hb, hhok, .of_eq none_made⟩
    obtain ⟨mc, h1, h2⟩ := lim
    exact ⟨mc, names h1, h2⟩
  refine codeAny_mono ((F _ kin2 (names gns)).run callerA [] s1 H ⟨[.ref a], []⟩ [.ref a] [.ref a] _ _ room env (binds s1 (.ref a)) (.cons rfl .nil) (asked H hsq)) fun r s2 h => ?_
  cases r with
  | error e => exact h.elim
  | ok fl =>
    cases fl with
    | next => exact h.elim
    | brk => exact h.elim
    | cont => exact h.elim
    | ret u =>
      obtain ⟨v, H2, hos, bare, un, hok2, rv, hv⟩ := h
      have hv2 : v = .bl true := hv
      subst hv2
      obtain rfl : u = Value.bool true := rv
      refine ⟨rfl, OldK.of_keep fun b o e => ?_, hos, bare⟩
      cases q : H b with
      | none => exact un.keep b o e q (by simp [frs]) (by simp)
      | some u =>
        obtain ⟨_, _, ob, xs, rfl⟩ := honly b u q
        obtain ⟨e1, _⟩ := hhok b _ q
        obtain ⟨e2, _⟩ := hok2 b _ (un.frzs b ob _ q)
        rw [e] at e1
        cases e1
        exact e2
theorem walkG {l : PySem.W.OpenLaw} {n k : Nat} {q : Program} {loose : List Str} {XP : (Str → Option Value) → Heap → Prop} {YP : World → Heap → Prop} {d : DefRec} {K : Params → PySem.W.Frag} {sp : PySem.W.Frag → Around → Nat → Sp} {x : Str}
    (hn : l.most = some n) (hn2 : n ≤ sizeLine) (hdf : d.params.defaults = []) (hr : Room k callerA) (hY : ∀ (w : World) (h : Heap), YP w h → (K w.params).In h)
    (F : ∀ (w : World) (mg : Str → Option Value) (fa : Addr) (h : Heap), (K w.params).In h → h.Ns mainGlobals mg → mg d.name = some (.ref fa) →
      ∃ fd : FuncData, (∀ (s : Shared) (u : Value), BindsTo s fd ⟨[u], []⟩ [(x, u)]) ∧ ∀ base : Heap, (K w.params).In base → base.Ns mainGlobals mg → FnG l.prog w (K w.params) mg base k fa fd [x] (sp (K w.params)))
    (hsp : ∀ (K : PySem.W.Frag) (m : Nat) (H : Hp) (a : Addr) (ns : List Int), ns.length ≤ n → SqL K H a (ns.map V.int) → sp K callerA m [.ref a] H (fun v _ => v = .bl true) fun _ _ _ => False) :
    PySem.W.WalkO q loose XP YP l.row.toRowW d [] (fun f vs => PySem.call f vs) := by
  refine Att.attach_call hn hdf fun w s0 s1 mg mb fa o pm cd doc a vs ns G Y ho hd hcd hmg hobj hints hlen hg => ?_
  obtain ⟨fd, hb, hF⟩ := F w mg fa _ (hY w _ Y) G.T.g hmg
  exact call_end (hY w _ Y) G.T.g G.T.b G.T.builtins G.T.nolimit hg hobj hints (Nat.le_trans hlen hn2) hr hF hb fun H hS => hsp (K w.params) _ H a ns hlen hS
end Om
/-! What the top has written, put together. -/
namespace Om
open PySem PySem.Spec PyProof.Rows L2 OmM
theorem all_mk {l : PySem.W.OpenLaw} {w : World} {K : PySem.W.Frag} {h : Heap} {mg : Str → Option Value} {fa C R pp a_TURNS a_GATHERS a_TURNED_GATHERS f_is_count f_is_one_of f_is_word f_are_people f_C_init f_C_people f_C_len f_C_contains f_C_iter f_C_pairs f_C_is_pair f_check_crowd f_are_reads f_are_lists f_R_init f_R_contains f_R_iter f_R_has_readers f_R_list_of f_lists_in_order f_first_of f_check_rule f_check_person f_is_read_by f_rank_reads f_own_reads f_safe_people f_is_safe f_ways f_l_opened f_l_draw f_l_pick f_l_people f_l_pairs f_l_parted f_l_unlike f_l_readers f_l_list f_l_plan f_l_made f_l_own f_l_read_by_rank f_law : Addr} {prest : List Value}
    {oc_is_count kV_is_count dc_is_count pm_is_count cd_is_count ct_is_count oc_is_one_of kV_is_one_of dc_is_one_of pm_is_one_of cd_is_one_of ct_is_one_of oc_is_word kV_is_word dc_is_word pm_is_word cd_is_word ct_is_word oc_are_people kV_are_people dc_are_people pm_are_people cd_are_people ct_are_people oc_C_init kV_C_init dc_C_init pm_C_init cd_C_init ct_C_init oc_C_people kV_C_people dc_C_people pm_C_people cd_C_people ct_C_people oc_C_len kV_C_len dc_C_len pm_C_len cd_C_len ct_C_len oc_C_contains kV_C_contains dc_C_contains pm_C_contains cd_C_contains ct_C_contains oc_C_iter kV_C_iter dc_C_iter pm_C_iter cd_C_iter ct_C_iter oc_C_pairs kV_C_pairs dc_C_pairs pm_C_pairs cd_C_pairs ct_C_pairs oc_C_is_pair kV_C_is_pair dc_C_is_pair pm_C_is_pair cd_C_is_pair ct_C_is_pair oc_check_crowd kV_check_crowd dc_check_crowd pm_check_crowd cd_check_crowd ct_check_crowd oc_are_reads kV_are_reads dc_are_reads pm_are_reads cd_are_reads ct_are_reads oc_are_lists kV_are_lists dc_are_lists pm_are_lists cd_are_lists ct_are_lists oc_R_init kV_R_init dc_R_init pm_R_init cd_R_init ct_R_init oc_R_contains kV_R_contains dc_R_contains pm_R_contains cd_R_contains ct_R_contains oc_R_iter kV_R_iter dc_R_iter pm_R_iter cd_R_iter ct_R_iter oc_R_has_readers kV_R_has_readers dc_R_has_readers pm_R_has_readers cd_R_has_readers ct_R_has_readers oc_R_list_of kV_R_list_of dc_R_list_of pm_R_list_of cd_R_list_of ct_R_list_of oc_lists_in_order kV_lists_in_order dc_lists_in_order pm_lists_in_order cd_lists_in_order ct_lists_in_order oc_first_of kV_first_of dc_first_of pm_first_of cd_first_of ct_first_of oc_check_rule kV_check_rule dc_check_rule pm_check_rule cd_check_rule ct_check_rule oc_check_person kV_check_person dc_check_person pm_check_person cd_check_person ct_check_person oc_is_read_by kV_is_read_by dc_is_read_by pm_is_read_by cd_is_read_by ct_is_read_by oc_rank_reads kV_rank_reads dc_rank_reads pm_rank_reads cd_rank_reads ct_rank_reads oc_own_reads kV_own_reads dc_own_reads pm_own_reads cd_own_reads ct_own_reads oc_safe_people kV_safe_people dc_safe_people pm_safe_people cd_safe_people ct_safe_people oc_is_safe kV_is_safe dc_is_safe pm_is_safe cd_is_safe ct_is_safe oc_ways kV_ways dc_ways pm_ways cd_ways ct_ways oc_l_opened kV_l_opened dc_l_opened pm_l_opened cd_l_opened ct_l_opened oc_l_draw kV_l_draw dc_l_draw pm_l_draw cd_l_draw ct_l_draw oc_l_pick kV_l_pick dc_l_pick pm_l_pick cd_l_pick ct_l_pick oc_l_people kV_l_people dc_l_people pm_l_people cd_l_people ct_l_people oc_l_pairs kV_l_pairs dc_l_pairs pm_l_pairs cd_l_pairs ct_l_pairs oc_l_parted kV_l_parted dc_l_parted pm_l_parted cd_l_parted ct_l_parted oc_l_unlike kV_l_unlike dc_l_unlike pm_l_unlike cd_l_unlike ct_l_unlike oc_l_readers kV_l_readers dc_l_readers pm_l_readers cd_l_readers ct_l_readers oc_l_list kV_l_list dc_l_list pm_l_list cd_l_list ct_l_list oc_l_plan kV_l_plan dc_l_plan pm_l_plan cd_l_plan ct_l_plan oc_l_made kV_l_made dc_l_made pm_l_made cd_l_made ct_l_made oc_l_own kV_l_own dc_l_own pm_l_own cd_l_own ct_l_own oc_l_read_by_rank kV_l_read_by_rank dc_l_read_by_rank pm_l_read_by_rank cd_l_read_by_rank ct_l_read_by_rank oc_law kV_law dc_law pm_law cd_law ct_law : Value}
    {od_is_count an_is_count od_is_one_of an_is_one_of od_is_word an_is_word od_are_people an_are_people od_C_init an_C_init od_C_people an_C_people od_C_len an_C_len od_C_contains an_C_contains od_C_iter an_C_iter od_C_pairs an_C_pairs od_C_is_pair an_C_is_pair od_check_crowd an_check_crowd od_are_reads an_are_reads od_are_lists an_are_lists od_R_init an_R_init od_R_contains an_R_contains od_R_iter an_R_iter od_R_has_readers an_R_has_readers od_R_list_of an_R_list_of od_lists_in_order an_lists_in_order od_first_of an_first_of od_check_rule an_check_rule od_check_person an_check_person od_is_read_by an_is_read_by od_rank_reads an_rank_reads od_own_reads an_own_reads od_safe_people an_safe_people od_is_safe an_is_safe od_ways an_ways od_l_opened an_l_opened od_l_draw an_l_draw od_l_pick an_l_pick od_l_people an_l_people od_l_pairs an_l_pairs od_l_parted an_l_parted od_l_unlike an_l_unlike od_l_readers an_l_readers od_l_list an_l_list od_l_plan an_l_plan od_l_made an_l_made od_l_own an_l_own od_l_read_by_rank an_l_read_by_rank od_law an_law td_TURNS td_GATHERS td_TURNED_GATHERS : Option Addr} {sl_is_count sl_is_one_of sl_is_word sl_are_people sl_C_init sl_C_people sl_C_len sl_C_contains sl_C_iter sl_C_pairs sl_C_is_pair sl_check_crowd sl_are_reads sl_are_lists sl_R_init sl_R_contains sl_R_iter sl_R_has_readers sl_R_list_of sl_lists_in_order sl_first_of sl_check_rule sl_check_person sl_is_read_by sl_rank_reads sl_own_reads sl_safe_people sl_is_safe sl_ways sl_l_opened sl_l_draw sl_l_pick sl_l_people sl_l_pairs sl_l_parted sl_l_unlike sl_l_readers sl_l_list sl_l_plan sl_l_made sl_l_own sl_l_read_by_rank sl_law ts_TURNS ts_GATHERS ts_TURNED_GATHERS : Array (Option Value)} {u_MOST_PEOPLE u_MOST_MARK u_MOST_SIGNS u_MOST_TRIM u_MOST_PRIZES u_LETTERS t0_TURNS t1_TURNS t2_TURNS t0_GATHERS t1_GATHERS t2_GATHERS t3_GATHERS t4_GATHERS t5_GATHERS t0_TURNED_GATHERS t1_TURNED_GATHERS : Tok} {tn_TURNS tn_GATHERS tn_TURNED_GATHERS : Nat}
    (X : K.In h) (G : h.Ns mainGlobals mg) (hfa : mg "law" = some (.ref fa))
    (haC : PySem.W.nsIn K mainGlobals "Crowd" = some (some (.ref C)))
    (haR : PySem.W.nsIn K mainGlobals "Rule" = some (some (.ref R)))
    (ha_is_count : PySem.W.nsIn K mainGlobals "is_count" = some (some (.ref f_is_count)))
    (hl_is_count : K.lookup f_is_count = some ⟨oc_is_count, od_is_count, .func (PySem.W.fnOf "is_count" "is_count" (defArgs s_is_count) (defBody s_is_count) (defScope s_is_count) .none kV_is_count dc_is_count pm_is_count an_is_count cd_is_count ct_is_count), sl_is_count⟩)
    (hc_is_count : PySem.W.codeIn K cd_is_count "is_count" = true)
    (hk_is_count : PySem.W.keepIn K (.ref f_is_count) = true)
    (ha_is_one_of : PySem.W.nsIn K mainGlobals "is_one_of" = some (some (.ref f_is_one_of)))
    (hl_is_one_of : K.lookup f_is_one_of = some ⟨oc_is_one_of, od_is_one_of, .func (PySem.W.fnOf "is_one_of" "is_one_of" (defArgs s_is_one_of) (defBody s_is_one_of) (defScope s_is_one_of) .none kV_is_one_of dc_is_one_of pm_is_one_of an_is_one_of cd_is_one_of ct_is_one_of), sl_is_one_of⟩)
    (hc_is_one_of : PySem.W.codeIn K cd_is_one_of "is_one_of" = true)
    (hk_is_one_of : PySem.W.keepIn K (.ref f_is_one_of) = true)
    (ha_is_word : PySem.W.nsIn K mainGlobals "is_word" = some (some (.ref f_is_word)))
    (hl_is_word : K.lookup f_is_word = some ⟨oc_is_word, od_is_word, .func (PySem.W.fnOf "is_word" "is_word" (defArgs s_is_word) (defBody s_is_word) (defScope s_is_word) .none kV_is_word dc_is_word pm_is_word an_is_word cd_is_word ct_is_word), sl_is_word⟩)
    (hc_is_word : PySem.W.codeIn K cd_is_word "is_word" = true)
    (hk_is_word : PySem.W.keepIn K (.ref f_is_word) = true)
    (ha_are_people : PySem.W.nsIn K mainGlobals "are_people" = some (some (.ref f_are_people)))
    (hl_are_people : K.lookup f_are_people = some ⟨oc_are_people, od_are_people, .func (PySem.W.fnOf "are_people" "are_people" (defArgs s_are_people) (defBody s_are_people) (defScope s_are_people) .none kV_are_people dc_are_people pm_are_people an_are_people cd_are_people ct_are_people), sl_are_people⟩)
    (hc_are_people : PySem.W.codeIn K cd_are_people "are_people" = true)
    (hk_are_people : PySem.W.keepIn K (.ref f_are_people) = true)
    (ha_C_init : PySem.W.findIn K (.ref C) "__init__" = some (some (.ref f_C_init)))
    (hi_C_init : PySem.W.isFn K (.ref f_C_init) = true)
    (hl_C_init : K.lookup f_C_init = some ⟨oc_C_init, od_C_init, .func (PySem.W.fnOf "__init__" "Crowd.__init__" (defArgs s_C_init) (defBody s_C_init) (defScope s_C_init) .none kV_C_init dc_C_init pm_C_init an_C_init cd_C_init ct_C_init), sl_C_init⟩)
    (hc_C_init : PySem.W.codeIn K cd_C_init "Crowd.__init__" = true)
    (hk_C_init : PySem.W.keepIn K (.ref f_C_init) = true)
    (hpat : PySem.W.findIn K (.ref C) "people" = some (some (.ref pp)))
    (hpgt : PySem.W.specialIn K (.ref pp) "__get__" = some (some (.builtin "property.__get__")))
    (hptk : PySem.W.takesIn K (.ref pp) = some true)
    (hprc : PySem.W.recIn K pp "property" = some (.ref f_C_people :: prest))
    (hl_C_people : K.lookup f_C_people = some ⟨oc_C_people, od_C_people, .func (PySem.W.fnOf "people" "Crowd.people" (defArgs s_C_people) (defBody s_C_people) (defScope s_C_people) .none kV_C_people dc_C_people pm_C_people an_C_people cd_C_people ct_C_people), sl_C_people⟩)
    (hc_C_people : PySem.W.codeIn K cd_C_people "Crowd.people" = true)
    (hk_C_people : PySem.W.keepIn K (.ref f_C_people) = true)
    (ha_C_len : PySem.W.findIn K (.ref C) "__len__" = some (some (.ref f_C_len)))
    (hi_C_len : PySem.W.isFn K (.ref f_C_len) = true)
    (hl_C_len : K.lookup f_C_len = some ⟨oc_C_len, od_C_len, .func (PySem.W.fnOf "__len__" "Crowd.__len__" (defArgs s_C_len) (defBody s_C_len) (defScope s_C_len) .none kV_C_len dc_C_len pm_C_len an_C_len cd_C_len ct_C_len), sl_C_len⟩)
    (hc_C_len : PySem.W.codeIn K cd_C_len "Crowd.__len__" = true)
    (hk_C_len : PySem.W.keepIn K (.ref f_C_len) = true)
    (ha_C_contains : PySem.W.findIn K (.ref C) "__contains__" = some (some (.ref f_C_contains)))
    (hi_C_contains : PySem.W.isFn K (.ref f_C_contains) = true)
    (hl_C_contains : K.lookup f_C_contains = some ⟨oc_C_contains, od_C_contains, .func (PySem.W.fnOf "__contains__" "Crowd.__contains__" (defArgs s_C_contains) (defBody s_C_contains) (defScope s_C_contains) .none kV_C_contains dc_C_contains pm_C_contains an_C_contains cd_C_contains ct_C_contains), sl_C_contains⟩)
    (hc_C_contains : PySem.W.codeIn K cd_C_contains "Crowd.__contains__" = true)
    (hk_C_contains : PySem.W.keepIn K (.ref f_C_contains) = true)
    (ha_C_iter : PySem.W.findIn K (.ref C) "__iter__" = some (some (.ref f_C_iter)))
    (hi_C_iter : PySem.W.isFn K (.ref f_C_iter) = true)
    (hl_C_iter : K.lookup f_C_iter = some ⟨oc_C_iter, od_C_iter, .func (PySem.W.fnOf "__iter__" "Crowd.__iter__" (defArgs s_C_iter) (defBody s_C_iter) (defScope s_C_iter) .none kV_C_iter dc_C_iter pm_C_iter an_C_iter cd_C_iter ct_C_iter), sl_C_iter⟩)
    (hc_C_iter : PySem.W.codeIn K cd_C_iter "Crowd.__iter__" = true)
    (hk_C_iter : PySem.W.keepIn K (.ref f_C_iter) = true)
    (ha_C_pairs : PySem.W.findIn K (.ref C) "pairs" = some (some (.ref f_C_pairs)))
    (hi_C_pairs : PySem.W.isFn K (.ref f_C_pairs) = true)
    (hl_C_pairs : K.lookup f_C_pairs = some ⟨oc_C_pairs, od_C_pairs, .func (PySem.W.fnOf "pairs" "Crowd.pairs" (defArgs s_C_pairs) (defBody s_C_pairs) (defScope s_C_pairs) .none kV_C_pairs dc_C_pairs pm_C_pairs an_C_pairs cd_C_pairs ct_C_pairs), sl_C_pairs⟩)
    (hc_C_pairs : PySem.W.codeIn K cd_C_pairs "Crowd.pairs" = true)
    (hk_C_pairs : PySem.W.keepIn K (.ref f_C_pairs) = true)
    (ha_C_is_pair : PySem.W.findIn K (.ref C) "is_pair" = some (some (.ref f_C_is_pair)))
    (hi_C_is_pair : PySem.W.isFn K (.ref f_C_is_pair) = true)
    (hl_C_is_pair : K.lookup f_C_is_pair = some ⟨oc_C_is_pair, od_C_is_pair, .func (PySem.W.fnOf "is_pair" "Crowd.is_pair" (defArgs s_C_is_pair) (defBody s_C_is_pair) (defScope s_C_is_pair) .none kV_C_is_pair dc_C_is_pair pm_C_is_pair an_C_is_pair cd_C_is_pair ct_C_is_pair), sl_C_is_pair⟩)
    (hc_C_is_pair : PySem.W.codeIn K cd_C_is_pair "Crowd.is_pair" = true)
    (hk_C_is_pair : PySem.W.keepIn K (.ref f_C_is_pair) = true)
    (ha_check_crowd : PySem.W.nsIn K mainGlobals "check_crowd" = some (some (.ref f_check_crowd)))
    (hl_check_crowd : K.lookup f_check_crowd = some ⟨oc_check_crowd, od_check_crowd, .func (PySem.W.fnOf "check_crowd" "check_crowd" (defArgs s_check_crowd) (defBody s_check_crowd) (defScope s_check_crowd) .none kV_check_crowd dc_check_crowd pm_check_crowd an_check_crowd cd_check_crowd ct_check_crowd), sl_check_crowd⟩)
    (hc_check_crowd : PySem.W.codeIn K cd_check_crowd "check_crowd" = true)
    (hk_check_crowd : PySem.W.keepIn K (.ref f_check_crowd) = true)
    (ha_are_reads : PySem.W.nsIn K mainGlobals "are_reads" = some (some (.ref f_are_reads)))
    (hl_are_reads : K.lookup f_are_reads = some ⟨oc_are_reads, od_are_reads, .func (PySem.W.fnOf "are_reads" "are_reads" (defArgs s_are_reads) (defBody s_are_reads) (defScope s_are_reads) .none kV_are_reads dc_are_reads pm_are_reads an_are_reads cd_are_reads ct_are_reads), sl_are_reads⟩)
    (hc_are_reads : PySem.W.codeIn K cd_are_reads "are_reads" = true)
    (hk_are_reads : PySem.W.keepIn K (.ref f_are_reads) = true)
    (ha_are_lists : PySem.W.nsIn K mainGlobals "are_lists" = some (some (.ref f_are_lists)))
    (hl_are_lists : K.lookup f_are_lists = some ⟨oc_are_lists, od_are_lists, .func (PySem.W.fnOf "are_lists" "are_lists" (defArgs s_are_lists) (defBody s_are_lists) (defScope s_are_lists) .none kV_are_lists dc_are_lists pm_are_lists an_are_lists cd_are_lists ct_are_lists), sl_are_lists⟩)
    (hc_are_lists : PySem.W.codeIn K cd_are_lists "are_lists" = true)
    (hk_are_lists : PySem.W.keepIn K (.ref f_are_lists) = true)
    (ha_R_init : PySem.W.findIn K (.ref R) "__init__" = some (some (.ref f_R_init)))
    (hi_R_init : PySem.W.isFn K (.ref f_R_init) = true)
    (hl_R_init : K.lookup f_R_init = some ⟨oc_R_init, od_R_init, .func (PySem.W.fnOf "__init__" "Rule.__init__" (defArgs s_R_init) (defBody s_R_init) (defScope s_R_init) .none kV_R_init dc_R_init pm_R_init an_R_init cd_R_init ct_R_init), sl_R_init⟩)
    (hc_R_init : PySem.W.codeIn K cd_R_init "Rule.__init__" = true)
    (hk_R_init : PySem.W.keepIn K (.ref f_R_init) = true)
    (ha_R_contains : PySem.W.findIn K (.ref R) "__contains__" = some (some (.ref f_R_contains)))
    (hi_R_contains : PySem.W.isFn K (.ref f_R_contains) = true)
    (hl_R_contains : K.lookup f_R_contains = some ⟨oc_R_contains, od_R_contains, .func (PySem.W.fnOf "__contains__" "Rule.__contains__" (defArgs s_R_contains) (defBody s_R_contains) (defScope s_R_contains) .none kV_R_contains dc_R_contains pm_R_contains an_R_contains cd_R_contains ct_R_contains), sl_R_contains⟩)
    (hc_R_contains : PySem.W.codeIn K cd_R_contains "Rule.__contains__" = true)
    (hk_R_contains : PySem.W.keepIn K (.ref f_R_contains) = true)
    (ha_R_iter : PySem.W.findIn K (.ref R) "__iter__" = some (some (.ref f_R_iter)))
    (hi_R_iter : PySem.W.isFn K (.ref f_R_iter) = true)
    (hl_R_iter : K.lookup f_R_iter = some ⟨oc_R_iter, od_R_iter, .func (PySem.W.fnOf "__iter__" "Rule.__iter__" (defArgs s_R_iter) (defBody s_R_iter) (defScope s_R_iter) .none kV_R_iter dc_R_iter pm_R_iter an_R_iter cd_R_iter ct_R_iter), sl_R_iter⟩)
    (hc_R_iter : PySem.W.codeIn K cd_R_iter "Rule.__iter__" = true)
    (hk_R_iter : PySem.W.keepIn K (.ref f_R_iter) = true)
    (ha_R_has_readers : PySem.W.findIn K (.ref R) "has_readers" = some (some (.ref f_R_has_readers)))
    (hi_R_has_readers : PySem.W.isFn K (.ref f_R_has_readers) = true)
    (hl_R_has_readers : K.lookup f_R_has_readers = some ⟨oc_R_has_readers, od_R_has_readers, .func (PySem.W.fnOf "has_readers" "Rule.has_readers" (defArgs s_R_has_readers) (defBody s_R_has_readers) (defScope s_R_has_readers) .none kV_R_has_readers dc_R_has_readers pm_R_has_readers an_R_has_readers cd_R_has_readers ct_R_has_readers), sl_R_has_readers⟩)
    (hc_R_has_readers : PySem.W.codeIn K cd_R_has_readers "Rule.has_readers" = true)
    (hk_R_has_readers : PySem.W.keepIn K (.ref f_R_has_readers) = true)
    (ha_R_list_of : PySem.W.findIn K (.ref R) "list_of" = some (some (.ref f_R_list_of)))
    (hi_R_list_of : PySem.W.isFn K (.ref f_R_list_of) = true)
    (hl_R_list_of : K.lookup f_R_list_of = some ⟨oc_R_list_of, od_R_list_of, .func (PySem.W.fnOf "list_of" "Rule.list_of" (defArgs s_R_list_of) (defBody s_R_list_of) (defScope s_R_list_of) .none kV_R_list_of dc_R_list_of pm_R_list_of an_R_list_of cd_R_list_of ct_R_list_of), sl_R_list_of⟩)
    (hc_R_list_of : PySem.W.codeIn K cd_R_list_of "Rule.list_of" = true)
    (hk_R_list_of : PySem.W.keepIn K (.ref f_R_list_of) = true)
    (ha_lists_in_order : PySem.W.nsIn K mainGlobals "lists_in_order" = some (some (.ref f_lists_in_order)))
    (hl_lists_in_order : K.lookup f_lists_in_order = some ⟨oc_lists_in_order, od_lists_in_order, .func (PySem.W.fnOf "lists_in_order" "lists_in_order" (defArgs s_lists_in_order) (defBody s_lists_in_order) (defScope s_lists_in_order) .none kV_lists_in_order dc_lists_in_order pm_lists_in_order an_lists_in_order cd_lists_in_order ct_lists_in_order), sl_lists_in_order⟩)
    (hc_lists_in_order : PySem.W.codeIn K cd_lists_in_order "lists_in_order" = true)
    (hk_lists_in_order : PySem.W.keepIn K (.ref f_lists_in_order) = true)
    (ha_first_of : PySem.W.nsIn K mainGlobals "first_of" = some (some (.ref f_first_of)))
    (hl_first_of : K.lookup f_first_of = some ⟨oc_first_of, od_first_of, .func (PySem.W.fnOf "first_of" "first_of" (defArgs s_first_of) (defBody s_first_of) (defScope s_first_of) .none kV_first_of dc_first_of pm_first_of an_first_of cd_first_of ct_first_of), sl_first_of⟩)
    (hc_first_of : PySem.W.codeIn K cd_first_of "first_of" = true)
    (hk_first_of : PySem.W.keepIn K (.ref f_first_of) = true)
    (ha_check_rule : PySem.W.nsIn K mainGlobals "check_rule" = some (some (.ref f_check_rule)))
    (hl_check_rule : K.lookup f_check_rule = some ⟨oc_check_rule, od_check_rule, .func (PySem.W.fnOf "check_rule" "check_rule" (defArgs s_check_rule) (defBody s_check_rule) (defScope s_check_rule) .none kV_check_rule dc_check_rule pm_check_rule an_check_rule cd_check_rule ct_check_rule), sl_check_rule⟩)
    (hc_check_rule : PySem.W.codeIn K cd_check_rule "check_rule" = true)
    (hk_check_rule : PySem.W.keepIn K (.ref f_check_rule) = true)
    (ha_check_person : PySem.W.nsIn K mainGlobals "check_person" = some (some (.ref f_check_person)))
    (hl_check_person : K.lookup f_check_person = some ⟨oc_check_person, od_check_person, .func (PySem.W.fnOf "check_person" "check_person" (defArgs s_check_person) (defBody s_check_person) (defScope s_check_person) .none kV_check_person dc_check_person pm_check_person an_check_person cd_check_person ct_check_person), sl_check_person⟩)
    (hc_check_person : PySem.W.codeIn K cd_check_person "check_person" = true)
    (hk_check_person : PySem.W.keepIn K (.ref f_check_person) = true)
    (ha_is_read_by : PySem.W.nsIn K mainGlobals "is_read_by" = some (some (.ref f_is_read_by)))
    (hl_is_read_by : K.lookup f_is_read_by = some ⟨oc_is_read_by, od_is_read_by, .func (PySem.W.fnOf "is_read_by" "is_read_by" (defArgs s_is_read_by) (defBody s_is_read_by) (defScope s_is_read_by) .none kV_is_read_by dc_is_read_by pm_is_read_by an_is_read_by cd_is_read_by ct_is_read_by), sl_is_read_by⟩)
    (hc_is_read_by : PySem.W.codeIn K cd_is_read_by "is_read_by" = true)
    (hk_is_read_by : PySem.W.keepIn K (.ref f_is_read_by) = true)
    (ha_rank_reads : PySem.W.nsIn K mainGlobals "rank_reads" = some (some (.ref f_rank_reads)))
    (hl_rank_reads : K.lookup f_rank_reads = some ⟨oc_rank_reads, od_rank_reads, .func (PySem.W.fnOf "rank_reads" "rank_reads" (defArgs s_rank_reads) (defBody s_rank_reads) (defScope s_rank_reads) .none kV_rank_reads dc_rank_reads pm_rank_reads an_rank_reads cd_rank_reads ct_rank_reads), sl_rank_reads⟩)
    (hc_rank_reads : PySem.W.codeIn K cd_rank_reads "rank_reads" = true)
    (hk_rank_reads : PySem.W.keepIn K (.ref f_rank_reads) = true)
    (ha_own_reads : PySem.W.nsIn K mainGlobals "own_reads" = some (some (.ref f_own_reads)))
    (hl_own_reads : K.lookup f_own_reads = some ⟨oc_own_reads, od_own_reads, .func (PySem.W.fnOf "own_reads" "own_reads" (defArgs s_own_reads) (defBody s_own_reads) (defScope s_own_reads) .none kV_own_reads dc_own_reads pm_own_reads an_own_reads cd_own_reads ct_own_reads), sl_own_reads⟩)
    (hc_own_reads : PySem.W.codeIn K cd_own_reads "own_reads" = true)
    (hk_own_reads : PySem.W.keepIn K (.ref f_own_reads) = true)
    (ha_safe_people : PySem.W.nsIn K mainGlobals "safe_people" = some (some (.ref f_safe_people)))
    (hl_safe_people : K.lookup f_safe_people = some ⟨oc_safe_people, od_safe_people, .func (PySem.W.fnOf "safe_people" "safe_people" (defArgs s_safe_people) (defBody s_safe_people) (defScope s_safe_people) .none kV_safe_people dc_safe_people pm_safe_people an_safe_people cd_safe_people ct_safe_people), sl_safe_people⟩)
    (hc_safe_people : PySem.W.codeIn K cd_safe_people "safe_people" = true)
    (hk_safe_people : PySem.W.keepIn K (.ref f_safe_people) = true)
    (ha_is_safe : PySem.W.nsIn K mainGlobals "is_safe" = some (some (.ref f_is_safe)))
    (hl_is_safe : K.lookup f_is_safe = some ⟨oc_is_safe, od_is_safe, .func (PySem.W.fnOf "is_safe" "is_safe" (defArgs s_is_safe) (defBody s_is_safe) (defScope s_is_safe) .none kV_is_safe dc_is_safe pm_is_safe an_is_safe cd_is_safe ct_is_safe), sl_is_safe⟩)
    (hc_is_safe : PySem.W.codeIn K cd_is_safe "is_safe" = true)
    (hk_is_safe : PySem.W.keepIn K (.ref f_is_safe) = true)
    (ha_ways : PySem.W.nsIn K mainGlobals "ways" = some (some (.ref f_ways)))
    (hl_ways : K.lookup f_ways = some ⟨oc_ways, od_ways, .func (PySem.W.fnOf "ways" "ways" (defArgs s_ways) (defBody s_ways) (defScope s_ways) .none kV_ways dc_ways pm_ways an_ways cd_ways ct_ways), sl_ways⟩)
    (hc_ways : PySem.W.codeIn K cd_ways "ways" = true)
    (hk_ways : PySem.W.keepIn K (.ref f_ways) = true)
    (ha_l_opened : PySem.W.nsIn K mainGlobals "_law_opened" = some (some (.ref f_l_opened)))
    (hl_l_opened : K.lookup f_l_opened = some ⟨oc_l_opened, od_l_opened, .func (PySem.W.fnOf "_law_opened" "_law_opened" (defArgs s_l_opened) (defBody s_l_opened) (defScope s_l_opened) .none kV_l_opened dc_l_opened pm_l_opened an_l_opened cd_l_opened ct_l_opened), sl_l_opened⟩)
    (hc_l_opened : PySem.W.codeIn K cd_l_opened "_law_opened" = true)
    (hk_l_opened : PySem.W.keepIn K (.ref f_l_opened) = true)
    (ha_l_draw : PySem.W.nsIn K mainGlobals "_law_draw" = some (some (.ref f_l_draw)))
    (hl_l_draw : K.lookup f_l_draw = some ⟨oc_l_draw, od_l_draw, .func (PySem.W.fnOf "_law_draw" "_law_draw" (defArgs s_l_draw) (defBody s_l_draw) (defScope s_l_draw) .none kV_l_draw dc_l_draw pm_l_draw an_l_draw cd_l_draw ct_l_draw), sl_l_draw⟩)
    (hc_l_draw : PySem.W.codeIn K cd_l_draw "_law_draw" = true)
    (hk_l_draw : PySem.W.keepIn K (.ref f_l_draw) = true)
    (ha_l_pick : PySem.W.nsIn K mainGlobals "_law_pick" = some (some (.ref f_l_pick)))
    (hl_l_pick : K.lookup f_l_pick = some ⟨oc_l_pick, od_l_pick, .func (PySem.W.fnOf "_law_pick" "_law_pick" (defArgs s_l_pick) (defBody s_l_pick) (defScope s_l_pick) .none kV_l_pick dc_l_pick pm_l_pick an_l_pick cd_l_pick ct_l_pick), sl_l_pick⟩)
    (hc_l_pick : PySem.W.codeIn K cd_l_pick "_law_pick" = true)
    (hk_l_pick : PySem.W.keepIn K (.ref f_l_pick) = true)
    (ha_l_people : PySem.W.nsIn K mainGlobals "_law_people" = some (some (.ref f_l_people)))
    (hl_l_people : K.lookup f_l_people = some ⟨oc_l_people, od_l_people, .func (PySem.W.fnOf "_law_people" "_law_people" (defArgs s_l_people) (defBody s_l_people) (defScope s_l_people) .none kV_l_people dc_l_people pm_l_people an_l_people cd_l_people ct_l_people), sl_l_people⟩)
    (hc_l_people : PySem.W.codeIn K cd_l_people "_law_people" = true)
    (hk_l_people : PySem.W.keepIn K (.ref f_l_people) = true)
    (ha_l_pairs : PySem.W.nsIn K mainGlobals "_law_pairs" = some (some (.ref f_l_pairs)))
    (hl_l_pairs : K.lookup f_l_pairs = some ⟨oc_l_pairs, od_l_pairs, .func (PySem.W.fnOf "_law_pairs" "_law_pairs" (defArgs s_l_pairs) (defBody s_l_pairs) (defScope s_l_pairs) .none kV_l_pairs dc_l_pairs pm_l_pairs an_l_pairs cd_l_pairs ct_l_pairs), sl_l_pairs⟩)
    (hc_l_pairs : PySem.W.codeIn K cd_l_pairs "_law_pairs" = true)
    (hk_l_pairs : PySem.W.keepIn K (.ref f_l_pairs) = true)
    (ha_l_parted : PySem.W.nsIn K mainGlobals "_law_parted" = some (some (.ref f_l_parted)))
    (hl_l_parted : K.lookup f_l_parted = some ⟨oc_l_parted, od_l_parted, .func (PySem.W.fnOf "_law_parted" "_law_parted" (defArgs s_l_parted) (defBody s_l_parted) (defScope s_l_parted) .none kV_l_parted dc_l_parted pm_l_parted an_l_parted cd_l_parted ct_l_parted), sl_l_parted⟩)
    (hc_l_parted : PySem.W.codeIn K cd_l_parted "_law_parted" = true)
    (hk_l_parted : PySem.W.keepIn K (.ref f_l_parted) = true)
    (ha_l_unlike : PySem.W.nsIn K mainGlobals "_law_unlike" = some (some (.ref f_l_unlike)))
    (hl_l_unlike : K.lookup f_l_unlike = some ⟨oc_l_unlike, od_l_unlike, .func (PySem.W.fnOf "_law_unlike" "_law_unlike" (defArgs s_l_unlike) (defBody s_l_unlike) (defScope s_l_unlike) .none kV_l_unlike dc_l_unlike pm_l_unlike an_l_unlike cd_l_unlike ct_l_unlike), sl_l_unlike⟩)
    (hc_l_unlike : PySem.W.codeIn K cd_l_unlike "_law_unlike" = true)
    (hk_l_unlike : PySem.W.keepIn K (.ref f_l_unlike) = true)
    (ha_l_readers : PySem.W.nsIn K mainGlobals "_law_readers" = some (some (.ref f_l_readers)))
    (hl_l_readers : K.lookup f_l_readers = some ⟨oc_l_readers, od_l_readers, .func (PySem.W.fnOf "_law_readers" "_law_readers" (defArgs s_l_readers) (defBody s_l_readers) (defScope s_l_readers) .none kV_l_readers dc_l_readers pm_l_readers an_l_readers cd_l_readers ct_l_readers), sl_l_readers⟩)
    (hc_l_readers : PySem.W.codeIn K cd_l_readers "_law_readers" = true)
    (hk_l_readers : PySem.W.keepIn K (.ref f_l_readers) = true)
    (ha_l_list : PySem.W.nsIn K mainGlobals "_law_list" = some (some (.ref f_l_list)))
    (hl_l_list : K.lookup f_l_list = some ⟨oc_l_list, od_l_list, .func (PySem.W.fnOf "_law_list" "_law_list" (defArgs s_l_list) (defBody s_l_list) (defScope s_l_list) .none kV_l_list dc_l_list pm_l_list an_l_list cd_l_list ct_l_list), sl_l_list⟩)
    (hc_l_list : PySem.W.codeIn K cd_l_list "_law_list" = true)
    (hk_l_list : PySem.W.keepIn K (.ref f_l_list) = true)
    (ha_l_plan : PySem.W.nsIn K mainGlobals "_law_plan" = some (some (.ref f_l_plan)))
    (hl_l_plan : K.lookup f_l_plan = some ⟨oc_l_plan, od_l_plan, .func (PySem.W.fnOf "_law_plan" "_law_plan" (defArgs s_l_plan) (defBody s_l_plan) (defScope s_l_plan) .none kV_l_plan dc_l_plan pm_l_plan an_l_plan cd_l_plan ct_l_plan), sl_l_plan⟩)
    (hc_l_plan : PySem.W.codeIn K cd_l_plan "_law_plan" = true)
    (hk_l_plan : PySem.W.keepIn K (.ref f_l_plan) = true)
    (ha_l_made : PySem.W.nsIn K mainGlobals "_law_made" = some (some (.ref f_l_made)))
    (hl_l_made : K.lookup f_l_made = some ⟨oc_l_made, od_l_made, .func (PySem.W.fnOf "_law_made" "_law_made" (defArgs s_l_made) (defBody s_l_made) (defScope s_l_made) .none kV_l_made dc_l_made pm_l_made an_l_made cd_l_made ct_l_made), sl_l_made⟩)
    (hc_l_made : PySem.W.codeIn K cd_l_made "_law_made" = true)
    (hk_l_made : PySem.W.keepIn K (.ref f_l_made) = true)
    (ha_l_own : PySem.W.nsIn K mainGlobals "_law_own" = some (some (.ref f_l_own)))
    (hl_l_own : K.lookup f_l_own = some ⟨oc_l_own, od_l_own, .func (PySem.W.fnOf "_law_own" "_law_own" (defArgs s_l_own) (defBody s_l_own) (defScope s_l_own) .none kV_l_own dc_l_own pm_l_own an_l_own cd_l_own ct_l_own), sl_l_own⟩)
    (hc_l_own : PySem.W.codeIn K cd_l_own "_law_own" = true)
    (hk_l_own : PySem.W.keepIn K (.ref f_l_own) = true)
    (ha_l_read_by_rank : PySem.W.nsIn K mainGlobals "_law_read_by_rank" = some (some (.ref f_l_read_by_rank)))
    (hl_l_read_by_rank : K.lookup f_l_read_by_rank = some ⟨oc_l_read_by_rank, od_l_read_by_rank, .func (PySem.W.fnOf "_law_read_by_rank" "_law_read_by_rank" (defArgs s_l_read_by_rank) (defBody s_l_read_by_rank) (defScope s_l_read_by_rank) .none kV_l_read_by_rank dc_l_read_by_rank pm_l_read_by_rank an_l_read_by_rank cd_l_read_by_rank ct_l_read_by_rank), sl_l_read_by_rank⟩)
    (hc_l_read_by_rank : PySem.W.codeIn K cd_l_read_by_rank "_law_read_by_rank" = true)
    (hk_l_read_by_rank : PySem.W.keepIn K (.ref f_l_read_by_rank) = true)
    (ha_law : PySem.W.nsIn K mainGlobals "law" = some (some (.ref f_law)))
    (hl_law : K.lookup f_law = some ⟨oc_law, od_law, .func (PySem.W.fnOf "law" "law" (defArgs s_law) (defBody s_law) (defScope s_law) .none kV_law dc_law pm_law an_law cd_law ct_law), sl_law⟩)
    (hc_law : PySem.W.codeIn K cd_law "law" = true)
    (hk_law : PySem.W.keepIn K (.ref f_law) = true)
    (hmkC : PySem.W.makesIn K C = true)
    (hkcC : PySem.W.keepIn K (.ref C) = true)
    (hpgC : PySem.W.plainGet K C Str.empty = true)
    (hhdC : PySem.W.hasDictIn K C = true)
    (hpoC : PySem.W.plainOver K C = true)
    (hsaC : PySem.W.findIn K (.ref C) "__setattr__" = some (some (.builtin "object.__setattr__")))
    (hciC : PySem.W.findIn K (.ref C) "__class__" = some (some (.builtin "object.__class__")))
    (hmoC : PySem.W.mroIn K C (.type "object") = some true)
    (hkiC : PySem.W.kitOne K (.ref C) (.ref C) = some true)
    (hmkR : PySem.W.makesIn K R = true)
    (hkcR : PySem.W.keepIn K (.ref R) = true)
    (hpgR : PySem.W.plainGet K R Str.empty = true)
    (hhdR : PySem.W.hasDictIn K R = true)
    (hpoR : PySem.W.plainOver K R = true)
    (hsaR : PySem.W.findIn K (.ref R) "__setattr__" = some (some (.builtin "object.__setattr__")))
    (hciR : PySem.W.findIn K (.ref R) "__class__" = some (some (.builtin "object.__class__")))
    (hmoR : PySem.W.mroIn K R (.type "object") = some true)
    (hkiR : PySem.W.kitOne K (.ref R) (.ref R) = some true)
    (hnaC_own_places : PySem.W.findIn K (.ref C) "own_places" = some none)
    (hnaC_most : PySem.W.findIn K (.ref C) "most" = some none)
    (hnaR_crowd : PySem.W.findIn K (.ref R) "crowd" = some none)
    (hnaR_turn : PySem.W.findIn K (.ref R) "turn" = some none)
    (hnaR_gather : PySem.W.findIn K (.ref R) "gather" = some none)
    (hnaR_trim : PySem.W.findIn K (.ref R) "trim" = some none)
    (hnaR_read_pairs : PySem.W.findIn K (.ref R) "read_pairs" = some none)
    (hnaR_list_rows : PySem.W.findIn K (.ref R) "list_rows" = some none)
    (hnaR_prizes : PySem.W.findIn K (.ref R) "prizes" = some none)
    (hcn : PySem.W.specialIn K (.builtin "object.__class__") "__get__" = some (some (.builtin "getset_descriptor.__get__")))
    (hct : PySem.W.takesIn K (.builtin "object.__class__") = some true)
    (hn_len : PySem.W.nsIn K mainGlobals "len" = some none)
    (hn_int : PySem.W.nsIn K mainGlobals "int" = some none)
    (hn_str : PySem.W.nsIn K mainGlobals "str" = some none)
    (hn_list : PySem.W.nsIn K mainGlobals "list" = some none)
    (hn_tuple : PySem.W.nsIn K mainGlobals "tuple" = some none)
    (hn_bool : PySem.W.nsIn K mainGlobals "bool" = some none)
    (hn_isinstance : PySem.W.nsIn K mainGlobals "isinstance" = some none)
    (hn_all : PySem.W.nsIn K mainGlobals "all" = some none)
    (hn_max : PySem.W.nsIn K mainGlobals "max" = some none)
    (hn_min : PySem.W.nsIn K mainGlobals "min" = some none)
    (hn_range : PySem.W.nsIn K mainGlobals "range" = some none)
    (hn_enumerate : PySem.W.nsIn K mainGlobals "enumerate" = some none)
    (hn_repr : PySem.W.nsIn K mainGlobals "repr" = some none)
    (hn_iter : PySem.W.nsIn K mainGlobals "iter" = some none)
    (hg_MOST_PEOPLE : PySem.W.nsIn K mainGlobals "MOST_PEOPLE" = some (some (.int 8 u_MOST_PEOPLE)))
    (hg_MOST_MARK : PySem.W.nsIn K mainGlobals "MOST_MARK" = some (some (.int 10 u_MOST_MARK)))
    (hg_MOST_SIGNS : PySem.W.nsIn K mainGlobals "MOST_SIGNS" = some (some (.int 8 u_MOST_SIGNS)))
    (hg_MOST_TRIM : PySem.W.nsIn K mainGlobals "MOST_TRIM" = some (some (.int 3 u_MOST_TRIM)))
    (hg_MOST_PRIZES : PySem.W.nsIn K mainGlobals "MOST_PRIZES" = some (some (.int 8 u_MOST_PRIZES)))
    (hg_LETTERS : PySem.W.nsIn K mainGlobals "LETTERS" = some (some (.str "abcdefghijklmnopqrstuvwxyz" u_LETTERS)))
    (hg_TURNS : PySem.W.nsIn K mainGlobals "TURNS" = some (some (.ref a_TURNS)))
    (hq_TURNS : K.lookup a_TURNS = some ⟨.type "tuple", td_TURNS, .seq #[.str "plain" t0_TURNS, .str "centred" t1_TURNS, .str "placed" t2_TURNS] tn_TURNS, ts_TURNS⟩)
    (hg_GATHERS : PySem.W.nsIn K mainGlobals "GATHERS" = some (some (.ref a_GATHERS)))
    (hq_GATHERS : K.lookup a_GATHERS = some ⟨.type "tuple", td_GATHERS, .seq #[.str "sum" t0_GATHERS, .str "mean" t1_GATHERS, .str "median" t2_GATHERS, .str "trim" t3_GATHERS, .str "least" t4_GATHERS, .str "greatest" t5_GATHERS] tn_GATHERS, ts_GATHERS⟩)
    (hg_TURNED_GATHERS : PySem.W.nsIn K mainGlobals "TURNED_GATHERS" = some (some (.ref a_TURNED_GATHERS)))
    (hq_TURNED_GATHERS : K.lookup a_TURNED_GATHERS = some ⟨.type "tuple", td_TURNED_GATHERS, .seq #[.str "sum" t0_TURNED_GATHERS, .str "mean" t1_TURNED_GATHERS] tn_TURNED_GATHERS, ts_TURNED_GATHERS⟩)
    : ∃ fd : FuncData, (∀ (s : Shared) (v : Value), BindsTo s fd ⟨[v], []⟩ [("_law_script", v)]) ∧ ∀ base : Heap, K.In base → base.Ns mainGlobals mg → FnG l.prog w K mg base 9 fa fd ["_law_script"] (spLaw K) := by
  have e := hfa.symm.trans (PySem.W.mg_of X G ha_law)
  cases e
  have T : Txt K mg ({ C := C, R := R, pp := pp, a_TURNS := a_TURNS, a_GATHERS := a_GATHERS, a_TURNED_GATHERS := a_TURNED_GATHERS, f_is_count := f_is_count, d_is_count := (PySem.W.fnOf "is_count" "is_count" (defArgs s_is_count) (defBody s_is_count) (defScope s_is_count) .none kV_is_count dc_is_count pm_is_count an_is_count cd_is_count ct_is_count), f_is_one_of := f_is_one_of, d_is_one_of := (PySem.W.fnOf "is_one_of" "is_one_of" (defArgs s_is_one_of) (defBody s_is_one_of) (defScope s_is_one_of) .none kV_is_one_of dc_is_one_of pm_is_one_of an_is_one_of cd_is_one_of ct_is_one_of), f_is_word := f_is_word, d_is_word := (PySem.W.fnOf "is_word" "is_word" (defArgs s_is_word) (defBody s_is_word) (defScope s_is_word) .none kV_is_word dc_is_word pm_is_word an_is_word cd_is_word ct_is_word), f_are_people := f_are_people, d_are_people := (PySem.W.fnOf "are_people" "are_people" (defArgs s_are_people) (defBody s_are_people) (defScope s_are_people) .none kV_are_people dc_are_people pm_are_people an_are_people cd_are_people ct_are_people), f_C_init := f_C_init, d_C_init := (PySem.W.fnOf "__init__" "Crowd.__init__" (defArgs s_C_init) (defBody s_C_init) (defScope s_C_init) .none kV_C_init dc_C_init pm_C_init an_C_init cd_C_init ct_C_init), f_C_people := f_C_people, d_C_people := (PySem.W.fnOf "people" "Crowd.people" (defArgs s_C_people) (defBody s_C_people) (defScope s_C_people) .none kV_C_people dc_C_people pm_C_people an_C_people cd_C_people ct_C_people), f_C_len := f_C_len, d_C_len := (PySem.W.fnOf "__len__" "Crowd.__len__" (defArgs s_C_len) (defBody s_C_len) (defScope s_C_len) .none kV_C_len dc_C_len pm_C_len an_C_len cd_C_len ct_C_len), f_C_contains := f_C_contains, d_C_contains := (PySem.W.fnOf "__contains__" "Crowd.__contains__" (defArgs s_C_contains) (defBody s_C_contains) (defScope s_C_contains) .none kV_C_contains dc_C_contains pm_C_contains an_C_contains cd_C_contains ct_C_contains), f_C_iter := f_C_iter, d_C_iter := (PySem.W.fnOf "__iter__" "Crowd.__iter__" (defArgs s_C_iter) (defBody s_C_iter) (defScope s_C_iter) .none kV_C_iter dc_C_iter pm_C_iter an_C_iter cd_C_iter ct_C_iter), f_C_pairs := f_C_pairs, d_C_pairs := (PySem.W.fnOf "pairs" "Crowd.pairs" (defArgs s_C_pairs) (defBody s_C_pairs) (defScope s_C_pairs) .none kV_C_pairs dc_C_pairs pm_C_pairs an_C_pairs cd_C_pairs ct_C_pairs), f_C_is_pair := f_C_is_pair, d_C_is_pair := (PySem.W.fnOf "is_pair" "Crowd.is_pair" (defArgs s_C_is_pair) (defBody s_C_is_pair) (defScope s_C_is_pair) .none kV_C_is_pair dc_C_is_pair pm_C_is_pair an_C_is_pair cd_C_is_pair ct_C_is_pair), f_check_crowd := f_check_crowd, d_check_crowd := (PySem.W.fnOf "check_crowd" "check_crowd" (defArgs s_check_crowd) (defBody s_check_crowd) (defScope s_check_crowd) .none kV_check_crowd dc_check_crowd pm_check_crowd an_check_crowd cd_check_crowd ct_check_crowd), f_are_reads := f_are_reads, d_are_reads := (PySem.W.fnOf "are_reads" "are_reads" (defArgs s_are_reads) (defBody s_are_reads) (defScope s_are_reads) .none kV_are_reads dc_are_reads pm_are_reads an_are_reads cd_are_reads ct_are_reads), f_are_lists := f_are_lists, d_are_lists := (PySem.W.fnOf "are_lists" "are_lists" (defArgs s_are_lists) (defBody s_are_lists) (defScope s_are_lists) .none kV_are_lists dc_are_lists pm_are_lists an_are_lists cd_are_lists ct_are_lists), f_R_init := f_R_init, d_R_init := (PySem.W.fnOf "__init__" "Rule.__init__" (defArgs s_R_init) (defBody s_R_init) (defScope s_R_init) .none kV_R_init dc_R_init pm_R_init an_R_init cd_R_init ct_R_init), f_R_contains := f_R_contains, d_R_contains := (PySem.W.fnOf "__contains__" "Rule.__contains__" (defArgs s_R_contains) (defBody s_R_contains) (defScope s_R_contains) .none kV_R_contains dc_R_contains pm_R_contains an_R_contains cd_R_contains ct_R_contains), f_R_iter := f_R_iter, d_R_iter := (PySem.W.fnOf "__iter__" "Rule.__iter__" (defArgs s_R_iter) (defBody s_R_iter) (defScope s_R_iter) .none kV_R_iter dc_R_iter pm_R_iter an_R_iter cd_R_iter ct_R_iter), f_R_has_readers := f_R_has_readers, d_R_has_readers := (PySem.W.fnOf "has_readers" "Rule.has_readers" (defArgs s_R_has_readers) (defBody s_R_has_readers) (defScope s_R_has_readers) .none kV_R_has_readers dc_R_has_readers pm_R_has_readers an_R_has_readers cd_R_has_readers ct_R_has_readers), f_R_list_of := f_R_list_of, d_R_list_of := (PySem.W.fnOf "list_of" "Rule.list_of" (defArgs s_R_list_of) (defBody s_R_list_of) (defScope s_R_list_of) .none kV_R_list_of dc_R_list_of pm_R_list_of an_R_list_of cd_R_list_of ct_R_list_of), f_lists_in_order := f_lists_in_order, d_lists_in_order := (PySem.W.fnOf "lists_in_order" "lists_in_order" (defArgs s_lists_in_order) (defBody s_lists_in_order) (defScope s_lists_in_order) .none kV_lists_in_order dc_lists_in_order pm_lists_in_order an_lists_in_order cd_lists_in_order ct_lists_in_order), f_first_of := f_first_of, d_first_of := (PySem.W.fnOf "first_of" "first_of" (defArgs s_first_of) (defBody s_first_of) (defScope s_first_of) .none kV_first_of dc_first_of pm_first_of an_first_of cd_first_of ct_first_of), f_check_rule := f_check_rule, d_check_rule := (PySem.W.fnOf "check_rule" "check_rule" (defArgs s_check_rule) (defBody s_check_rule) (defScope s_check_rule) .none kV_check_rule dc_check_rule pm_check_rule an_check_rule cd_check_rule ct_check_rule), f_check_person := f_check_person, d_check_person := (PySem.W.fnOf "check_person" "check_person" (defArgs s_check_person) (defBody s_check_person) (defScope s_check_person) .none kV_check_person dc_check_person pm_check_person an_check_person cd_check_person ct_check_person), f_is_read_by := f_is_read_by, d_is_read_by := (PySem.W.fnOf "is_read_by" "is_read_by" (defArgs s_is_read_by) (defBody s_is_read_by) (defScope s_is_read_by) .none kV_is_read_by dc_is_read_by pm_is_read_by an_is_read_by cd_is_read_by ct_is_read_by), f_rank_reads := f_rank_reads, d_rank_reads := (PySem.W.fnOf "rank_reads" "rank_reads" (defArgs s_rank_reads) (defBody s_rank_reads) (defScope s_rank_reads) .none kV_rank_reads dc_rank_reads pm_rank_reads an_rank_reads cd_rank_reads ct_rank_reads), f_own_reads := f_own_reads, d_own_reads := (PySem.W.fnOf "own_reads" "own_reads" (defArgs s_own_reads) (defBody s_own_reads) (defScope s_own_reads) .none kV_own_reads dc_own_reads pm_own_reads an_own_reads cd_own_reads ct_own_reads), f_safe_people := f_safe_people, d_safe_people := (PySem.W.fnOf "safe_people" "safe_people" (defArgs s_safe_people) (defBody s_safe_people) (defScope s_safe_people) .none kV_safe_people dc_safe_people pm_safe_people an_safe_people cd_safe_people ct_safe_people), f_is_safe := f_is_safe, d_is_safe := (PySem.W.fnOf "is_safe" "is_safe" (defArgs s_is_safe) (defBody s_is_safe) (defScope s_is_safe) .none kV_is_safe dc_is_safe pm_is_safe an_is_safe cd_is_safe ct_is_safe), f_ways := f_ways, d_ways := (PySem.W.fnOf "ways" "ways" (defArgs s_ways) (defBody s_ways) (defScope s_ways) .none kV_ways dc_ways pm_ways an_ways cd_ways ct_ways), f_l_opened := f_l_opened, d_l_opened := (PySem.W.fnOf "_law_opened" "_law_opened" (defArgs s_l_opened) (defBody s_l_opened) (defScope s_l_opened) .none kV_l_opened dc_l_opened pm_l_opened an_l_opened cd_l_opened ct_l_opened), f_l_draw := f_l_draw, d_l_draw := (PySem.W.fnOf "_law_draw" "_law_draw" (defArgs s_l_draw) (defBody s_l_draw) (defScope s_l_draw) .none kV_l_draw dc_l_draw pm_l_draw an_l_draw cd_l_draw ct_l_draw), f_l_pick := f_l_pick, d_l_pick := (PySem.W.fnOf "_law_pick" "_law_pick" (defArgs s_l_pick) (defBody s_l_pick) (defScope s_l_pick) .none kV_l_pick dc_l_pick pm_l_pick an_l_pick cd_l_pick ct_l_pick), f_l_people := f_l_people, d_l_people := (PySem.W.fnOf "_law_people" "_law_people" (defArgs s_l_people) (defBody s_l_people) (defScope s_l_people) .none kV_l_people dc_l_people pm_l_people an_l_people cd_l_people ct_l_people), f_l_pairs := f_l_pairs, d_l_pairs := (PySem.W.fnOf "_law_pairs" "_law_pairs" (defArgs s_l_pairs) (defBody s_l_pairs) (defScope s_l_pairs) .none kV_l_pairs dc_l_pairs pm_l_pairs an_l_pairs cd_l_pairs ct_l_pairs), f_l_parted := f_l_parted, d_l_parted := (PySem.W.fnOf "_law_parted" "_law_parted" (defArgs s_l_parted) (defBody s_l_parted) (defScope s_l_parted) .none kV_l_parted dc_l_parted pm_l_parted an_l_parted cd_l_parted ct_l_parted), f_l_unlike := f_l_unlike, d_l_unlike := (PySem.W.fnOf "_law_unlike" "_law_unlike" (defArgs s_l_unlike) (defBody s_l_unlike) (defScope s_l_unlike) .none kV_l_unlike dc_l_unlike pm_l_unlike an_l_unlike cd_l_unlike ct_l_unlike), f_l_readers := f_l_readers, d_l_readers := (PySem.W.fnOf "_law_readers" "_law_readers" (defArgs s_l_readers) (defBody s_l_readers) (defScope s_l_readers) .none kV_l_readers dc_l_readers pm_l_readers an_l_readers cd_l_readers ct_l_readers), f_l_list := f_l_list, d_l_list := (PySem.W.fnOf "_law_list" "_law_list" (defArgs s_l_list) (defBody s_l_list) (defScope s_l_list) .none kV_l_list dc_l_list pm_l_list an_l_list cd_l_list ct_l_list), f_l_plan := f_l_plan, d_l_plan := (PySem.W.fnOf "_law_plan" "_law_plan" (defArgs s_l_plan) (defBody s_l_plan) (defScope s_l_plan) .none kV_l_plan dc_l_plan pm_l_plan an_l_plan cd_l_plan ct_l_plan), f_l_made := f_l_made, d_l_made := (PySem.W.fnOf "_law_made" "_law_made" (defArgs s_l_made) (defBody s_l_made) (defScope s_l_made) .none kV_l_made dc_l_made pm_l_made an_l_made cd_l_made ct_l_made), f_l_own := f_l_own, d_l_own := (PySem.W.fnOf "_law_own" "_law_own" (defArgs s_l_own) (defBody s_l_own) (defScope s_l_own) .none kV_l_own dc_l_own pm_l_own an_l_own cd_l_own ct_l_own), f_l_read_by_rank := f_l_read_by_rank, d_l_read_by_rank := (PySem.W.fnOf "_law_read_by_rank" "_law_read_by_rank" (defArgs s_l_read_by_rank) (defBody s_l_read_by_rank) (defScope s_l_read_by_rank) .none kV_l_read_by_rank dc_l_read_by_rank pm_l_read_by_rank an_l_read_by_rank cd_l_read_by_rank ct_l_read_by_rank), f_law := fa, d_law := (PySem.W.fnOf "law" "law" (defArgs s_law) (defBody s_law) (defScope s_law) .none kV_law dc_law pm_law an_law cd_law ct_law) } : Adr) := {
    F_is_count := fun_mk (st := s_is_count) hl_is_count hc_is_count hk_is_count
    g_is_count := PySem.W.mg_of X G ha_is_count
    F_is_one_of := fun_mk (st := s_is_one_of) hl_is_one_of hc_is_one_of hk_is_one_of
    g_is_one_of := PySem.W.mg_of X G ha_is_one_of
    F_is_word := fun_mk (st := s_is_word) hl_is_word hc_is_word hk_is_word
    g_is_word := PySem.W.mg_of X G ha_is_word
    F_are_people := fun_mk (st := s_are_people) hl_are_people hc_are_people hk_are_people
    g_are_people := PySem.W.mg_of X G ha_are_people
    F_C_init := fun_mk (st := s_C_init) hl_C_init hc_C_init hk_C_init
    i_C_init := ⟨hmkC, ha_C_init, hi_C_init, hkcC⟩
    F_C_people := fun_mk (st := s_C_people) hl_C_people hc_C_people hk_C_people
    p_people := ⟨hpat, hpgt, hptk, _, hprc⟩
    F_C_len := fun_mk (st := s_C_len) hl_C_len hc_C_len hk_C_len
    m_C_len := ⟨ha_C_len, hi_C_len, hk_C_len⟩
    F_C_contains := fun_mk (st := s_C_contains) hl_C_contains hc_C_contains hk_C_contains
    m_C_contains := ⟨ha_C_contains, hi_C_contains, hk_C_contains⟩
    F_C_iter := fun_mk (st := s_C_iter) hl_C_iter hc_C_iter hk_C_iter
    m_C_iter := ⟨ha_C_iter, hi_C_iter, hk_C_iter⟩
    F_C_pairs := fun_mk (st := s_C_pairs) hl_C_pairs hc_C_pairs hk_C_pairs
    m_C_pairs := ⟨ha_C_pairs, hi_C_pairs, hk_C_pairs⟩
    F_C_is_pair := fun_mk (st := s_C_is_pair) hl_C_is_pair hc_C_is_pair hk_C_is_pair
    m_C_is_pair := ⟨ha_C_is_pair, hi_C_is_pair, hk_C_is_pair⟩
    F_check_crowd := fun_mk (st := s_check_crowd) hl_check_crowd hc_check_crowd hk_check_crowd
    g_check_crowd := PySem.W.mg_of X G ha_check_crowd
    F_are_reads := fun_mk (st := s_are_reads) hl_are_reads hc_are_reads hk_are_reads
    g_are_reads := PySem.W.mg_of X G ha_are_reads
    F_are_lists := fun_mk (st := s_are_lists) hl_are_lists hc_are_lists hk_are_lists
    g_are_lists := PySem.W.mg_of X G ha_are_lists
    F_R_init := fun_mk (st := s_R_init) hl_R_init hc_R_init hk_R_init
    i_R_init := ⟨hmkR, ha_R_init, hi_R_init, hkcR⟩
    F_R_contains := fun_mk (st := s_R_contains) hl_R_contains hc_R_contains hk_R_contains
    m_R_contains := ⟨ha_R_contains, hi_R_contains, hk_R_contains⟩
    F_R_iter := fun_mk (st := s_R_iter) hl_R_iter hc_R_iter hk_R_iter
    m_R_iter := ⟨ha_R_iter, hi_R_iter, hk_R_iter⟩
    F_R_has_readers := fun_mk (st := s_R_has_readers) hl_R_has_readers hc_R_has_readers hk_R_has_readers
    m_R_has_readers := ⟨ha_R_has_readers, hi_R_has_readers, hk_R_has_readers⟩
    F_R_list_of := fun_mk (st := s_R_list_of) hl_R_list_of hc_R_list_of hk_R_list_of
    m_R_list_of := ⟨ha_R_list_of, hi_R_list_of, hk_R_list_of⟩
    F_lists_in_order := fun_mk (st := s_lists_in_order) hl_lists_in_order hc_lists_in_order hk_lists_in_order
    g_lists_in_order := PySem.W.mg_of X G ha_lists_in_order
    F_first_of := fun_mk (st := s_first_of) hl_first_of hc_first_of hk_first_of
    g_first_of := PySem.W.mg_of X G ha_first_of
    F_check_rule := fun_mk (st := s_check_rule) hl_check_rule hc_check_rule hk_check_rule
    g_check_rule := PySem.W.mg_of X G ha_check_rule
    F_check_person := fun_mk (st := s_check_person) hl_check_person hc_check_person hk_check_person
    g_check_person := PySem.W.mg_of X G ha_check_person
    F_is_read_by := fun_mk (st := s_is_read_by) hl_is_read_by hc_is_read_by hk_is_read_by
    g_is_read_by := PySem.W.mg_of X G ha_is_read_by
    F_rank_reads := fun_mk (st := s_rank_reads) hl_rank_reads hc_rank_reads hk_rank_reads
    g_rank_reads := PySem.W.mg_of X G ha_rank_reads
    F_own_reads := fun_mk (st := s_own_reads) hl_own_reads hc_own_reads hk_own_reads
    g_own_reads := PySem.W.mg_of X G ha_own_reads
    F_safe_people := fun_mk (st := s_safe_people) hl_safe_people hc_safe_people hk_safe_people
    g_safe_people := PySem.W.mg_of X G ha_safe_people
    F_is_safe := fun_mk (st := s_is_safe) hl_is_safe hc_is_safe hk_is_safe
    g_is_safe := PySem.W.mg_of X G ha_is_safe
    F_ways := fun_mk (st := s_ways) hl_ways hc_ways hk_ways
    g_ways := PySem.W.mg_of X G ha_ways
    F_l_opened := fun_mk (st := s_l_opened) hl_l_opened hc_l_opened hk_l_opened
    g_l_opened := PySem.W.mg_of X G ha_l_opened
    F_l_draw := fun_mk (st := s_l_draw) hl_l_draw hc_l_draw hk_l_draw
    g_l_draw := PySem.W.mg_of X G ha_l_draw
    F_l_pick := fun_mk (st := s_l_pick) hl_l_pick hc_l_pick hk_l_pick
    g_l_pick := PySem.W.mg_of X G ha_l_pick
    F_l_people := fun_mk (st := s_l_people) hl_l_people hc_l_people hk_l_people
    g_l_people := PySem.W.mg_of X G ha_l_people
    F_l_pairs := fun_mk (st := s_l_pairs) hl_l_pairs hc_l_pairs hk_l_pairs
    g_l_pairs := PySem.W.mg_of X G ha_l_pairs
    F_l_parted := fun_mk (st := s_l_parted) hl_l_parted hc_l_parted hk_l_parted
    g_l_parted := PySem.W.mg_of X G ha_l_parted
    F_l_unlike := fun_mk (st := s_l_unlike) hl_l_unlike hc_l_unlike hk_l_unlike
    g_l_unlike := PySem.W.mg_of X G ha_l_unlike
    F_l_readers := fun_mk (st := s_l_readers) hl_l_readers hc_l_readers hk_l_readers
    g_l_readers := PySem.W.mg_of X G ha_l_readers
    F_l_list := fun_mk (st := s_l_list) hl_l_list hc_l_list hk_l_list
    g_l_list := PySem.W.mg_of X G ha_l_list
    F_l_plan := fun_mk (st := s_l_plan) hl_l_plan hc_l_plan hk_l_plan
    g_l_plan := PySem.W.mg_of X G ha_l_plan
    F_l_made := fun_mk (st := s_l_made) hl_l_made hc_l_made hk_l_made
    g_l_made := PySem.W.mg_of X G ha_l_made
    F_l_own := fun_mk (st := s_l_own) hl_l_own hc_l_own hk_l_own
    g_l_own := PySem.W.mg_of X G ha_l_own
    F_l_read_by_rank := fun_mk (st := s_l_read_by_rank) hl_l_read_by_rank hc_l_read_by_rank hk_l_read_by_rank
    g_l_read_by_rank := PySem.W.mg_of X G ha_l_read_by_rank
    F_law := fun_mk (st := s_law) hl_law hc_law hk_law
    g_law := PySem.W.mg_of X G ha_law
    n_len := PySem.W.mg_none_of X G hn_len
    n_int := PySem.W.mg_none_of X G hn_int
    n_str := PySem.W.mg_none_of X G hn_str
    n_list := PySem.W.mg_none_of X G hn_list
    n_tuple := PySem.W.mg_none_of X G hn_tuple
    n_bool := PySem.W.mg_none_of X G hn_bool
    n_isinstance := PySem.W.mg_none_of X G hn_isinstance
    n_all := PySem.W.mg_none_of X G hn_all
    n_max := PySem.W.mg_none_of X G hn_max
    n_min := PySem.W.mg_none_of X G hn_min
    n_range := PySem.W.mg_none_of X G hn_range
    n_enumerate := PySem.W.mg_none_of X G hn_enumerate
    n_repr := PySem.W.mg_none_of X G hn_repr
    n_iter := PySem.W.mg_none_of X G hn_iter
    g_MOST_PEOPLE := ⟨_, PySem.W.mg_of X G hg_MOST_PEOPLE⟩
    g_MOST_MARK := ⟨_, PySem.W.mg_of X G hg_MOST_MARK⟩
    g_MOST_SIGNS := ⟨_, PySem.W.mg_of X G hg_MOST_SIGNS⟩
    g_MOST_TRIM := ⟨_, PySem.W.mg_of X G hg_MOST_TRIM⟩
    g_MOST_PRIZES := ⟨_, PySem.W.mg_of X G hg_MOST_PRIZES⟩
    g_LETTERS := ⟨_, PySem.W.mg_of X G hg_LETTERS⟩
    g_TURNS := PySem.W.mg_of X G hg_TURNS
    q_TURNS := fun _ => .inr ⟨_, _, _, hq_TURNS, rfl, rfl, (by show 3 ≤ sizeLine; decide), .cons ⟨_, rfl⟩ (.cons ⟨_, rfl⟩ (.cons ⟨_, rfl⟩ (.nil)))⟩
    g_GATHERS := PySem.W.mg_of X G hg_GATHERS
    q_GATHERS := fun _ => .inr ⟨_, _, _, hq_GATHERS, rfl, rfl, (by show 6 ≤ sizeLine; decide), .cons ⟨_, rfl⟩ (.cons ⟨_, rfl⟩ (.cons ⟨_, rfl⟩ (.cons ⟨_, rfl⟩ (.cons ⟨_, rfl⟩ (.cons ⟨_, rfl⟩ (.nil))))))⟩
    g_TURNED_GATHERS := PySem.W.mg_of X G hg_TURNED_GATHERS
    q_TURNED_GATHERS := fun _ => .inr ⟨_, _, _, hq_TURNED_GATHERS, rfl, rfl, (by show 2 ≤ sizeLine; decide), .cons ⟨_, rfl⟩ (.cons ⟨_, rfl⟩ (.nil))⟩
    g_Crowd := PySem.W.mg_of X G haC
    g_Rule := PySem.W.mg_of X G haR
    cC := ⟨hpgC, hhdC, hpoC, hsaC⟩
    ciC := hciC
    moC := hmoC
    kiC := hkiC
    cR := ⟨hpgR, hhdR, hpoR, hsaR⟩
    ciR := hciR
    moR := hmoR
    kiR := hkiR
    naC_own_places := hnaC_own_places
    naC_most := hnaC_most
    naR_crowd := hnaR_crowd
    naR_turn := hnaR_turn
    naR_gather := hnaR_gather
    naR_trim := hnaR_trim
    naR_read_pairs := hnaR_read_pairs
    naR_list_rows := hnaR_list_rows
    naR_prizes := hnaR_prizes
    cn := hcn
    ct := hct }
  exact ⟨_, fun s v => .of_eq rfl, fun base _ _ => u_law T⟩
end Om
open PySem PySem.W PyProof.Rows
set_option maxRecDepth 100000 in
set_option maxHeartbeats 0 in
theorem PySem.Challenge.cw_ownmarks_k16_whole_what_ranks_read_holds : PySem.Challenge.rw_ownmarks_k16_whole_what_ranks_read.Holds := by
  w_on; o_law; k_head; (case hw => w_witness2)
  k_fill
  refine Om.walkG (l := PySem.Challenge.rw_ownmarks_k16_whole_what_ranks_read) (n := 63) (k := 9) (x := "_law_script") (sp := Om.spLaw) rfl (by decide) rfl ⟨rfl, by decide, by decide⟩ (fun w h Y => PySem.W.kIn_of Y) ?F (fun K m H a ns hl hS => ⟨rfl, a, ns, rfl, hS, hl, fun _ => rfl⟩)
  case F =>
    intro w mg fa h KX G hmg
    refine' Om.all_mk KX G hmg ?xaC ?xaR ?xa_is_count ?xl_is_count ?xc_is_count ?xk_is_count ?xa_is_one_of ?xl_is_one_of ?xc_is_one_of ?xk_is_one_of ?xa_is_word ?xl_is_word ?xc_is_word ?xk_is_word ?xa_are_people ?xl_are_people ?xc_are_people ?xk_are_people ?xa_C_init ?xi_C_init ?xl_C_init ?xc_C_init ?xk_C_init ?xpat ?xpgt ?xptk ?xprc ?xl_C_people ?xc_C_people ?xk_C_people ?xa_C_len ?xi_C_len ?xl_C_len ?xc_C_len ?xk_C_len ?xa_C_contains ?xi_C_contains ?xl_C_contains ?xc_C_contains ?xk_C_contains ?xa_C_iter ?xi_C_iter ?xl_C_iter ?xc_C_iter ?xk_C_iter ?xa_C_pairs ?xi_C_pairs ?xl_C_pairs ?xc_C_pairs ?xk_C_pairs ?xa_C_is_pair ?xi_C_is_pair ?xl_C_is_pair ?xc_C_is_pair ?xk_C_is_pair ?xa_check_crowd ?xl_check_crowd ?xc_check_crowd ?xk_check_crowd ?xa_are_reads ?xl_are_reads ?xc_are_reads ?xk_are_reads ?xa_are_lists ?xl_are_lists ?xc_are_lists ?xk_are_lists ?xa_R_init ?xi_R_init ?xl_R_init ?xc_R_init ?xk_R_init ?xa_R_contains ?xi_R_contains ?xl_R_contains ?xc_R_contains ?xk_R_contains ?xa_R_iter ?xi_R_iter ?xl_R_iter ?xc_R_iter ?xk_R_iter ?xa_R_has_readers ?xi_R_has_readers ?xl_R_has_readers ?xc_R_has_readers ?xk_R_has_readers ?xa_R_list_of ?xi_R_list_of ?xl_R_list_of ?xc_R_list_of ?xk_R_list_of ?xa_lists_in_order ?xl_lists_in_order ?xc_lists_in_order ?xk_lists_in_order ?xa_first_of ?xl_first_of ?xc_first_of ?xk_first_of ?xa_check_rule ?xl_check_rule ?xc_check_rule ?xk_check_rule ?xa_check_person ?xl_check_person ?xc_check_person ?xk_check_person ?xa_is_read_by ?xl_is_read_by ?xc_is_read_by ?xk_is_read_by ?xa_rank_reads ?xl_rank_reads ?xc_rank_reads ?xk_rank_reads ?xa_own_reads ?xl_own_reads ?xc_own_reads ?xk_own_reads ?xa_safe_people ?xl_safe_people ?xc_safe_people ?xk_safe_people ?xa_is_safe ?xl_is_safe ?xc_is_safe ?xk_is_safe ?xa_ways ?xl_ways ?xc_ways ?xk_ways ?xa_l_opened ?xl_l_opened ?xc_l_opened ?xk_l_opened ?xa_l_draw ?xl_l_draw ?xc_l_draw ?xk_l_draw ?xa_l_pick ?xl_l_pick ?xc_l_pick ?xk_l_pick ?xa_l_people ?xl_l_people ?xc_l_people ?xk_l_people ?xa_l_pairs ?xl_l_pairs ?xc_l_pairs ?xk_l_pairs ?xa_l_parted ?xl_l_parted ?xc_l_parted ?xk_l_parted ?xa_l_unlike ?xl_l_unlike ?xc_l_unlike ?xk_l_unlike ?xa_l_readers ?xl_l_readers ?xc_l_readers ?xk_l_readers ?xa_l_list ?xl_l_list ?xc_l_list ?xk_l_list ?xa_l_plan ?xl_l_plan ?xc_l_plan ?xk_l_plan ?xa_l_made ?xl_l_made ?xc_l_made ?xk_l_made ?xa_l_own ?xl_l_own ?xc_l_own ?xk_l_own ?xa_l_read_by_rank ?xl_l_read_by_rank ?xc_l_read_by_rank ?xk_l_read_by_rank ?xa_law ?xl_law ?xc_law ?xk_law ?xmkC ?xkcC ?xpgC ?xhdC ?xpoC ?xsaC ?xciC ?xmoC ?xkiC ?xmkR ?xkcR ?xpgR ?xhdR ?xpoR ?xsaR ?xciR ?xmoR ?xkiR ?xnaC_own_places ?xnaC_most ?xnaR_crowd ?xnaR_turn ?xnaR_gather ?xnaR_trim ?xnaR_read_pairs ?xnaR_list_rows ?xnaR_prizes ?xcn ?xct ?xn_len ?xn_int ?xn_str ?xn_list ?xn_tuple ?xn_bool ?xn_isinstance ?xn_all ?xn_max ?xn_min ?xn_range ?xn_enumerate ?xn_repr ?xn_iter ?xg_MOST_PEOPLE ?xg_MOST_MARK ?xg_MOST_SIGNS ?xg_MOST_TRIM ?xg_MOST_PRIZES ?xg_LETTERS ?xg_TURNS ?xq_TURNS ?xg_GATHERS ?xq_GATHERS ?xg_TURNED_GATHERS ?xq_TURNED_GATHERS
    (case xaC => k_is); (case xaR => k_is); (case xa_is_count => k_is); (case xl_is_count => k_is); (case xc_is_count => k_is); (case xk_is_count => k_is)
    (case xa_is_one_of => k_is); (case xl_is_one_of => k_is); (case xc_is_one_of => k_is); (case xk_is_one_of => k_is); (case xa_is_word => k_is); (case xl_is_word => k_is)
    (case xc_is_word => k_is); (case xk_is_word => k_is); (case xa_are_people => k_is); (case xl_are_people => k_is); (case xc_are_people => k_is); (case xk_are_people => k_is)
    (case xa_C_init => k_is); (case xi_C_init => k_is); (case xl_C_init => k_is); (case xc_C_init => k_is); (case xk_C_init => k_is); (case xpat => k_is)
    (case xpgt => k_is); (case xptk => k_is); (case xprc => k_is); (case xl_C_people => k_is); (case xc_C_people => k_is); (case xk_C_people => k_is)
    (case xa_C_len => k_is); (case xi_C_len => k_is); (case xl_C_len => k_is); (case xc_C_len => k_is); (case xk_C_len => k_is); (case xa_C_contains => k_is)
    (case xi_C_contains => k_is); (case xl_C_contains => k_is); (case xc_C_contains => k_is); (case xk_C_contains => k_is); (case xa_C_iter => k_is); (case xi_C_iter => k_is)
    (case xl_C_iter => k_is); (case xc_C_iter => k_is); (case xk_C_iter => k_is); (case xa_C_pairs => k_is); (case xi_C_pairs => k_is); (case xl_C_pairs => k_is)
    (case xc_C_pairs => k_is); (case xk_C_pairs => k_is); (case xa_C_is_pair => k_is); (case xi_C_is_pair => k_is); (case xl_C_is_pair => k_is); (case xc_C_is_pair => k_is)
    (case xk_C_is_pair => k_is); (case xa_check_crowd => k_is); (case xl_check_crowd => k_is); (case xc_check_crowd => k_is); (case xk_check_crowd => k_is); (case xa_are_reads => k_is)
    (case xl_are_reads => k_is); (case xc_are_reads => k_is); (case xk_are_reads => k_is); (case xa_are_lists => k_is); (case xl_are_lists => k_is); (case xc_are_lists => k_is)
    (case xk_are_lists => k_is); (case xa_R_init => k_is); (case xi_R_init => k_is); (case xl_R_init => k_is); (case xc_R_init => k_is); (case xk_R_init => k_is)
    (case xa_R_contains => k_is); (case xi_R_contains => k_is); (case xl_R_contains => k_is); (case xc_R_contains => k_is); (case xk_R_contains => k_is); (case xa_R_iter => k_is)
    (case xi_R_iter => k_is); (case xl_R_iter => k_is); (case xc_R_iter => k_is); (case xk_R_iter => k_is); (case xa_R_has_readers => k_is); (case xi_R_has_readers => k_is)
    (case xl_R_has_readers => k_is); (case xc_R_has_readers => k_is); (case xk_R_has_readers => k_is); (case xa_R_list_of => k_is); (case xi_R_list_of => k_is); (case xl_R_list_of => k_is)
    (case xc_R_list_of => k_is); (case xk_R_list_of => k_is); (case xa_lists_in_order => k_is); (case xl_lists_in_order => k_is); (case xc_lists_in_order => k_is); (case xk_lists_in_order => k_is)
    (case xa_first_of => k_is); (case xl_first_of => k_is); (case xc_first_of => k_is); (case xk_first_of => k_is); (case xa_check_rule => k_is); (case xl_check_rule => k_is)
    (case xc_check_rule => k_is); (case xk_check_rule => k_is); (case xa_check_person => k_is); (case xl_check_person => k_is); (case xc_check_person => k_is); (case xk_check_person => k_is)
    (case xa_is_read_by => k_is); (case xl_is_read_by => k_is); (case xc_is_read_by => k_is); (case xk_is_read_by => k_is); (case xa_rank_reads => k_is); (case xl_rank_reads => k_is)
    (case xc_rank_reads => k_is); (case xk_rank_reads => k_is); (case xa_own_reads => k_is); (case xl_own_reads => k_is); (case xc_own_reads => k_is); (case xk_own_reads => k_is)
    (case xa_safe_people => k_is); (case xl_safe_people => k_is); (case xc_safe_people => k_is); (case xk_safe_people => k_is); (case xa_is_safe => k_is); (case xl_is_safe => k_is)
    (case xc_is_safe => k_is); (case xk_is_safe => k_is); (case xa_ways => k_is); (case xl_ways => k_is); (case xc_ways => k_is); (case xk_ways => k_is)
    (case xa_l_opened => k_is); (case xl_l_opened => k_is); (case xc_l_opened => k_is); (case xk_l_opened => k_is); (case xa_l_draw => k_is); (case xl_l_draw => k_is)
    (case xc_l_draw => k_is); (case xk_l_draw => k_is); (case xa_l_pick => k_is); (case xl_l_pick => k_is); (case xc_l_pick => k_is); (case xk_l_pick => k_is)
    (case xa_l_people => k_is); (case xl_l_people => k_is); (case xc_l_people => k_is); (case xk_l_people => k_is); (case xa_l_pairs => k_is); (case xl_l_pairs => k_is)
    (case xc_l_pairs => k_is); (case xk_l_pairs => k_is); (case xa_l_parted => k_is); (case xl_l_parted => k_is); (case xc_l_parted => k_is); (case xk_l_parted => k_is)
    (case xa_l_unlike => k_is); (case xl_l_unlike => k_is); (case xc_l_unlike => k_is); (case xk_l_unlike => k_is); (case xa_l_readers => k_is); (case xl_l_readers => k_is)
    (case xc_l_readers => k_is); (case xk_l_readers => k_is); (case xa_l_list => k_is); (case xl_l_list => k_is); (case xc_l_list => k_is); (case xk_l_list => k_is)
    (case xa_l_plan => k_is); (case xl_l_plan => k_is); (case xc_l_plan => k_is); (case xk_l_plan => k_is); (case xa_l_made => k_is); (case xl_l_made => k_is)
    (case xc_l_made => k_is); (case xk_l_made => k_is); (case xa_l_own => k_is); (case xl_l_own => k_is); (case xc_l_own => k_is); (case xk_l_own => k_is)
    (case xa_l_read_by_rank => k_is); (case xl_l_read_by_rank => k_is); (case xc_l_read_by_rank => k_is); (case xk_l_read_by_rank => k_is); (case xa_law => k_is); (case xl_law => k_is)
    (case xc_law => k_is); (case xk_law => k_is); (case xmkC => k_is); (case xkcC => k_is); (case xpgC => k_is); (case xhdC => k_is)
    (case xpoC => k_is); (case xsaC => k_is); (case xciC => k_is); (case xmoC => k_is); (case xkiC => exact if_pos (beq_self_eq_true _)); (case xmkR => k_is)
    (case xkcR => k_is); (case xpgR => k_is); (case xhdR => k_is); (case xpoR => k_is); (case xsaR => k_is); (case xciR => k_is)
    (case xmoR => k_is); (case xkiR => exact if_pos (beq_self_eq_true _)); (case xnaC_own_places => k_is); (case xnaC_most => k_is); (case xnaR_crowd => k_is); (case xnaR_turn => k_is)
    (case xnaR_gather => k_is); (case xnaR_trim => k_is); (case xnaR_read_pairs => k_is); (case xnaR_list_rows => k_is); (case xnaR_prizes => k_is); (case xcn => k_is)
    (case xct => k_is); (case xn_len => k_is); (case xn_int => k_is); (case xn_str => k_is); (case xn_list => k_is); (case xn_tuple => k_is)
    (case xn_bool => k_is); (case xn_isinstance => k_is); (case xn_all => k_is); (case xn_max => k_is); (case xn_min => k_is); (case xn_range => k_is)
    (case xn_enumerate => k_is); (case xn_repr => k_is); (case xn_iter => k_is); (case xg_MOST_PEOPLE => k_is); (case xg_MOST_MARK => k_is); (case xg_MOST_SIGNS => k_is)
    (case xg_MOST_TRIM => k_is); (case xg_MOST_PRIZES => k_is); (case xg_LETTERS => k_is); (case xg_TURNS => k_is); (case xq_TURNS => k_is); (case xg_GATHERS => k_is)
    (case xq_GATHERS => k_is); (case xg_TURNED_GATHERS => k_is); (case xq_TURNED_GATHERS => k_is)
